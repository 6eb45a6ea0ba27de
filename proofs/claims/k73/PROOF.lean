import PyProof.Rows.All
import Wide.All
import OpenK.AllK
import Wide.FinOn
import HandS.ForMost
import HandS.More
import KE.KDictKeyed
import HandS.Walk
import HandS.TupLen
import KE.KDictDisplayH
import KE.KDictWalk
import KE.KDictCopyH
import KE.KDictSum
import KE.SortData
import HandS.Wide
import HandS.TupAny
import HandS.Style
import HandS.Deep
import HandS.SortInts
import HandS.IsInst
import HandS.Star
import HandS.RaiseMore
import HandS.WordsDict
import HandS.TryOnly
import HandS.Small
import HandS.Words
import HandS.Ends
import KE.GoesMore
import KE.GoesEnum
import HandS.Iter
import HandS.List
import HandS.Dict
import HandS.SetFor
import PyProof.SetRoads
import PyProof.Rows.FactsT3
import HandS.Zip
import HandS.Strs
import KE.KRevSl
import PySem.Challenge.RW_unlikekeys_k73_rows_that_can_be_come_to
import KE.DatumOrd
import KE.OsSortAny
set_option Elab.async false
set_option linter.all false
set_option maxRecDepth 100000
set_option maxHeartbeats 4000000
/-! A1: data trees, slots, what it means that a heap holds them; evaluation results; what stays behind an evaluation. -/
namespace L2.AL
open PySem PySem.Spec PyProof.Rows
/-- what stands around: the written part, the module's names, the world -/
structure Bk where
  K : PySem.W.Frag
  mg : Str → Option Value
  w : World
/-- a value by its content; scr: a list of ints that is only read; cd: a written dict with keys that are texts -/
inductive D where
  | non | bl (b : Bool) | int (i : Int) | str (x : Str)
  | tup (xs : List D) | lst (xs : List D) | dct (kvs : List (Key × D)) | fn (x : Str) | ty (n : String) | scr (ns : List Int) | cd (kvs : List (Str × D))
  | dd (kvs : List (D × D)) | ins (c : Str) (fs : List (Str × D)) | raw (u : V)
/-- an object that one name owns -/
inductive O where
  | lst (xs : List D) | dct (kvs : List (Key × D)) | dd (kvs : List (D × D)) | ins (c : Str) (fs : List (Str × D))
def O.toD : O → D
  | .lst xs => .lst xs
  | .dct kvs => .dct kvs
  | .dd kvs => .dd kvs
  | .ins c fs => .ins c fs
/-! a content as a key that is a tuple (of any depth) -/
mutual
def D.nk? : D → Option NestedKey
  | .non => some .none
  | .bl b => some (.num (if b = true then 1 else 0))
  | .int i => some (.num i)
  | .str x => some (.text x)
  | .tup xs => (D.nkL xs).map .tup
  | .lst _ => none
  | .dct _ => none
  | .fn _ => none
  | .ty _ => none
  | .scr _ => none
  | .cd _ => none
  | .dd _ => none
  | .ins _ _ => none
  | .raw _ => none
def D.nkL : List D → Option (List NestedKey)
  | [] => some []
  | x :: xs => match D.nk? x, D.nkL xs with
    | some k, some ks => some (k :: ks)
    | _, _ => none
end
/-- a dict whose keys are tuples, the object o at a: its entries, their keys by content and by address -/
def DnOk (w : World) (a : Addr) (o : Obj) (es : List (NestedKey × Addr × V)) : Prop := (a == sysModules) = false ∧ es.length ≤ sizeLine ∧ (es.map (·.1)).Nodup ∧ o.ExactDict ∧
  ∃ arr ep, o.data = .dict arr ep ∧ Paired (fun (e : NestedKey × Addr × V) (x : DictEntry) => x.hash = e.1.hash w ∧ x.key = .ref e.2.1 ∧ RelV e.2.2 x.val) es arr.toList
def dnO (w : World) (a : Addr) (o : Obj) (es : List (NestedKey × Addr × V)) : HO := .ext fun h => h.get? a = some o ∧ DnOk w a o es
/-- what a slot holds -/
inductive S where
  | no | d (x : D) | own (o : O)
/-- what an expression gives: a value by content, the object of a slot, a new object -/
inductive E where
  | d (x : D) | sl (i : Nat) | fr (o : O)
structure Exc where
  cls : Str
  fs : List (Str × D)
inductive Res (α : Type) where
  | ok (a : α) (ρ : List S) | ex (e : Exc) (ρ : List S) | no
def Res.bind {α β : Type} : Res α → (α → List S → Res β) → Res β
  | .ok a ρ, k => k a ρ
  | .ex e ρ, _ => .ex e ρ
  | .no, _ => .no
@[simp] theorem Res.bind_ok {α β : Type} (a : α) (ρ : List S) (k : α → List S → Res β) : (Res.ok a ρ).bind k = k a ρ := rfl
@[simp] theorem Res.bind_ex {α β : Type} (e : Exc) (ρ : List S) (k : α → List S → Res β) : (Res.ex e ρ : Res α).bind k = .ex e ρ := rfl
@[simp] theorem Res.bind_no {α β : Type} (k : α → List S → Res β) : (Res.no : Res α).bind k = .no := rfl
section
variable (B : Bk) (G : Hp)
mutual
/-- the heap G holds the content -/
def Fz : V → D → Prop
  | v, .non => v = .non
  | v, .bl b => v = .bl b
  | v, .int i => v = .int i
  | v, .str x => v = .str x
  | v, .tup ds => ∃ a xs, v = .ref a ∧ SqT B.K G a xs ∧ FzL xs ds
  | v, .lst ds => ∃ a xs, v = .ref a ∧ G a = some (.lst xs) ∧ FzL xs ds
  | v, .dct ds => ∃ a kvs, v = .ref a ∧ G a = some (.dK kvs) ∧ FzK kvs ds
  | v, .fn x => ∃ a, v = .ref a ∧ B.mg x = some (.ref a)
  | v, .ty n => v = .ty n
  | v, .scr ns => ∃ a, v = .ref a ∧ SqL B.K G a (ns.map V.int)
  | v, .cd kvs => ∃ a, v = .ref a ∧ ((∃ es n, KDict B.K B.w a es n) ∧ ∀ z : Str, kvs.lookup z = none → PySem.W.nsIn B.K a z = some none) ∧ FzC a kvs
  | v, .dd ds => ∃ a ob es, v = .ref a ∧ G a = some (dnO B.w a ob es) ∧ FzD es ds
  | v, .ins c ds => ∃ a C dx fs, v = .ref a ∧ G a = some (.ins C dx fs) ∧ G dx = some (.own a) ∧ B.mg c = some (.ref C) ∧ FzF fs ds
  | v, .raw u => v = u
def FzL : List V → List D → Prop
  | [], [] => True
  | v :: vs, d :: ds => Fz v d ∧ FzL vs ds
  | [], _ :: _ => False
  | _ :: _, [] => False
def FzK : List (Key × V) → List (Key × D) → Prop
  | [], [] => True
  | v :: vs, d :: ds => v.1 = d.1 ∧ Fz v.2 d.2 ∧ FzK vs ds
  | [], _ :: _ => False
  | _ :: _, [] => False
def FzD : List (NestedKey × Addr × V) → List (D × D) → Prop
  | [], [] => True
  | v :: vs, d :: ds => (d.1.nk? = some v.1 ∧ v.1.depth ≤ 8) ∧ Fz (.ref v.2.1) d.1 ∧ Fz v.2.2 d.2 ∧ FzD vs ds
  | [], _ :: _ => False
  | _ :: _, [] => False
def FzF : List (Str × V) → List (Str × D) → Prop
  | [], [] => True
  | v :: vs, d :: ds => v.1 = d.1 ∧ Fz v.2 d.2 ∧ FzF vs ds
  | [], _ :: _ => False
  | _ :: _, [] => False
/-- a written dict's lookups -/
def FzC : Addr → List (Str × D) → Prop
  | a, [] => True
  | a, d :: ds => (∃ u v, PySem.W.nsIn B.K a d.1 = some (some u) ∧ RelV v u ∧ Fz v d.2) ∧ FzC a ds
end
end
section
variable {B : Bk} {G G' : Hp}
theorem Same.rd {a : Addr} {u : HO} (s : Same G G') (h : Rd G a u) : Rd G' a u := by
  rcases h with h | ⟨o, h⟩
  · exact .inl (s _ _ h)
  · exact .inr ⟨o, s _ _ h⟩
theorem Same.sqt {a : Addr} {xs : List V} (e : Same G G') (h : SqT B.K G a xs) : SqT B.K G' a xs := by
  rcases h with h | h
  · exact .inl (Same.rd e h)
  · exact .inr h
mutual
theorem Fz.mono (s : Same G G') : ∀ (d : D) (v : V), Fz B G v d → Fz B G' v d
  | .non, v, h => by simpa [Fz] using h
  | .bl b, v, h => by simpa [Fz] using h
  | .int i, v, h => by simpa [Fz] using h
  | .str x, v, h => by simpa [Fz] using h
  | .tup ds, v, h => by
    obtain ⟨a, xs, e, hq, hr⟩ := (by simpa [Fz] using h : ∃ a xs, v = .ref a ∧ SqT B.K G a xs ∧ FzL B G xs ds)
    rw [Fz]; exact ⟨a, xs, e, Same.sqt s hq, FzL.mono s ds xs hr⟩
  | .lst ds, v, h => by
    rw [Fz] at h
    obtain ⟨a, xs, e, hq, hr⟩ := h
    rw [Fz]; exact ⟨a, xs, e, s _ _ hq, FzL.mono s ds xs hr⟩
  | .dct ds, v, h => by
    rw [Fz] at h
    obtain ⟨a, xs, e, hq, hr⟩ := h
    rw [Fz]; exact ⟨a, xs, e, s _ _ hq, FzK.mono s ds xs hr⟩
  | .fn x, v, h => by simpa [Fz] using h
  | .ty n, v, h => by simpa [Fz] using h
  | .scr ns, v, h => by
    rw [Fz] at h
    obtain ⟨a, e, hq⟩ := h
    rw [Fz]; exact ⟨a, e, Same.seq s hq⟩
  | .cd kvs, v, h => by
    rw [Fz] at h
    obtain ⟨a, e, hq, hr⟩ := h
    rw [Fz]; exact ⟨a, e, hq, FzC.mono s kvs a hr⟩
  | .dd ds, v, h => by
    rw [Fz] at h
    obtain ⟨a, ob, es, e, hq, hr⟩ := h
    rw [Fz]; exact ⟨a, ob, es, e, s _ _ hq, FzD.mono s ds es hr⟩
  | .ins c ds, v, h => by
    rw [Fz] at h
    obtain ⟨a, C, dx, fs, e, hq, ho, hc, hr⟩ := h
    rw [Fz]; exact ⟨a, C, dx, fs, e, s _ _ hq, s _ _ ho, hc, FzF.mono s ds fs hr⟩
  | .raw u, v, h => by simpa [Fz] using h
theorem FzL.mono (s : Same G G') : ∀ (ds : List D) (vs : List V), FzL B G vs ds → FzL B G' vs ds
  | [], [], h => by rw [FzL]; trivial
  | [], _ :: _, h => by rw [FzL] at h; exact h.elim
  | _ :: _, [], h => by rw [FzL] at h; exact h.elim
  | d :: ds, v :: vs, h => by
    rw [FzL] at h ⊢
    exact ⟨Fz.mono s d v h.1, FzL.mono s ds vs h.2⟩
theorem FzK.mono (s : Same G G') : ∀ (ds : List (Key × D)) (vs : List (Key × V)), FzK B G vs ds → FzK B G' vs ds
  | [], [], h => by rw [FzK]; trivial
  | [], _ :: _, h => by rw [FzK] at h; exact h.elim
  | _ :: _, [], h => by rw [FzK] at h; exact h.elim
  | d :: ds, v :: vs, h => by
    rw [FzK] at h ⊢
    exact ⟨h.1, Fz.mono s d.2 v.2 h.2.1, FzK.mono s ds vs h.2.2⟩
theorem FzD.mono (s : Same G G') : ∀ (ds : List (D × D)) (vs : List (NestedKey × Addr × V)), FzD B G vs ds → FzD B G' vs ds
  | [], [], h => by rw [FzD]; trivial
  | [], _ :: _, h => by rw [FzD] at h; exact h.elim
  | _ :: _, [], h => by rw [FzD] at h; exact h.elim
  | d :: ds, v :: vs, h => by
    rw [FzD] at h ⊢
    exact ⟨h.1, Fz.mono s d.1 _ h.2.1, Fz.mono s d.2 _ h.2.2.1, FzD.mono s ds vs h.2.2.2⟩
theorem FzF.mono (s : Same G G') : ∀ (ds : List (Str × D)) (vs : List (Str × V)), FzF B G vs ds → FzF B G' vs ds
  | [], [], h => by rw [FzF]; trivial
  | [], _ :: _, h => by rw [FzF] at h; exact h.elim
  | _ :: _, [], h => by rw [FzF] at h; exact h.elim
  | d :: ds, v :: vs, h => by
    rw [FzF] at h ⊢
    exact ⟨h.1, Fz.mono s d.2 _ h.2.1, FzF.mono s ds vs h.2.2⟩
theorem FzC.mono (s : Same G G') : ∀ (ds : List (Str × D)) (a : Addr), FzC B G a ds → FzC B G' a ds
  | [], a, h => by rw [FzC]; trivial
  | d :: ds, a, h => by
    rw [FzC] at h ⊢
    obtain ⟨⟨u, v, h1, h2, h3⟩, h4⟩ := h
    exact ⟨⟨u, v, h1, h2, Fz.mono s d.2 v h3⟩, FzC.mono s ds a h4⟩
end
theorem FzL.length : ∀ {ds : List D} {vs : List V}, FzL B G vs ds → vs.length = ds.length
  | [], [], _ => rfl
  | [], _ :: _, h => by rw [FzL] at h; exact h.elim
  | _ :: _, [], h => by rw [FzL] at h; exact h.elim
  | _ :: ds, _ :: vs, h => by rw [FzL] at h; rw [List.length_cons, List.length_cons, FzL.length h.2]
theorem FzL.get : ∀ {ds : List D} {vs : List V} {i : Nat} {d : D}, FzL B G vs ds → ds[i]? = some d → ∃ v, vs[i]? = some v ∧ Fz B G v d
  | [], _, _, _, _, e => by simp at e
  | _ :: _, [], _, _, h, _ => by rw [FzL] at h; exact h.elim
  | _ :: ds, v :: vs, 0, _, h, e => by
    rw [FzL] at h; simp at e; subst e; exact ⟨v, rfl, h.1⟩
  | _ :: ds, v :: vs, i + 1, _, h, e => by
    rw [FzL] at h
    obtain ⟨u, e1, h1⟩ := FzL.get (i := i) h.2 (by simpa using e)
    exact ⟨u, by simpa using e1, h1⟩
theorem FzL.get' : ∀ {ds : List D} {vs : List V} {i : Nat} {v : V}, FzL B G vs ds → vs[i]? = some v → ∃ d, ds[i]? = some d ∧ Fz B G v d
  | _, [], _, _, _, e => by simp at e
  | [], _ :: _, _, _, h, _ => by rw [FzL] at h; exact h.elim
  | d :: ds, _ :: vs, 0, _, h, e => by
    rw [FzL] at h; simp at e; subst e; exact ⟨d, rfl, h.1⟩
  | _ :: ds, v :: vs, i + 1, _, h, e => by
    rw [FzL] at h
    obtain ⟨u, e1, h1⟩ := FzL.get' (i := i) h.2 (by simpa using e)
    exact ⟨u, by simpa using e1, h1⟩
theorem FzL.append : ∀ {ds es : List D} {vs us : List V}, FzL B G vs ds → FzL B G us es → FzL B G (vs ++ us) (ds ++ es)
  | [], _, [], _, _, h => h
  | [], _, _ :: _, _, h, _ => by rw [FzL] at h; exact h.elim
  | _ :: _, _, [], _, h, _ => by rw [FzL] at h; exact h.elim
  | _ :: ds, _, _ :: vs, _, h, h' => by
    rw [FzL] at h
    show FzL B G (_ :: (vs ++ _)) (_ :: (ds ++ _))
    rw [FzL]
    exact ⟨h.1, FzL.append h.2 h'⟩
theorem FzL.nil : FzL B G [] [] := by rw [FzL]; trivial
theorem FzL.cons {v : V} {d : D} {vs : List V} {ds : List D} (h : Fz B G v d) (h' : FzL B G vs ds) : FzL B G (v :: vs) (d :: ds) := by
  rw [FzL]; exact ⟨h, h'⟩
theorem FzL.one {v : V} {d : D} (h : Fz B G v d) : FzL B G [v] [d] := .cons h .nil
theorem FzL.drop : ∀ (n : Nat) {ds : List D} {vs : List V}, FzL B G vs ds → FzL B G (vs.drop n) (ds.drop n)
  | 0, _, _, h => h
  | _ + 1, [], [], _ => .nil
  | _ + 1, [], _ :: _, h => by rw [FzL] at h; exact h.elim
  | _ + 1, _ :: _, [], h => by rw [FzL] at h; exact h.elim
  | n + 1, _ :: ds, _ :: vs, h => by rw [FzL] at h; exact FzL.drop n h.2
theorem FzL.take : ∀ (n : Nat) {ds : List D} {vs : List V}, FzL B G vs ds → FzL B G (vs.take n) (ds.take n)
  | 0, _, _, _ => .nil
  | _ + 1, [], [], _ => .nil
  | _ + 1, [], _ :: _, h => by rw [FzL] at h; exact h.elim
  | _ + 1, _ :: _, [], h => by rw [FzL] at h; exact h.elim
  | n + 1, _ :: ds, _ :: vs, h => by rw [FzL] at h; exact .cons h.1 (FzL.take n h.2)
theorem FzL.set {v : V} {d : D} (r : Fz B G v d) : ∀ {ds : List D} {vs : List V} (i : Nat), FzL B G vs ds → FzL B G (vs.set i v) (ds.set i d)
  | [], [], _, _ => .nil
  | [], _ :: _, _, h => by rw [FzL] at h; exact h.elim
  | _ :: _, [], _, h => by rw [FzL] at h; exact h.elim
  | _ :: ds, _ :: vs, 0, h => by rw [FzL] at h; exact .cons r h.2
  | _ :: ds, _ :: vs, i + 1, h => by rw [FzL] at h; exact .cons h.1 (FzL.set r i h.2)
end
section
variable (B : Bk)
/-- an owned object's own object -/
def RO (G : Hp) (a : Addr) (ho : HO) : O → Prop
  | .lst ds => ∃ xs, ho = .lst xs ∧ FzL B G xs ds
  | .dct ds => ∃ kvs, ho = .dK kvs ∧ FzK B G kvs ds
  | .dd ds => ∃ ob es, ho = dnO B.w a ob es ∧ FzD B G es ds
  | .ins c ds => ∃ C dx fs, ho = .ins C dx fs ∧ G dx = some (.own a) ∧ B.mg c = some (.ref C) ∧ FzF B G fs ds
def SlotOk (G H : Hp) (v : Option V) : S → Prop
  | .no => True
  | .d x => ∃ u, v = some u ∧ Fz B G u x
  | .own o => ∃ a ho, v = some (.ref a) ∧ H a = some ho ∧ G a = none ∧ RO B G a ho o
def Own (σ : St) (ρ : List S) (i : Nat) (a : Addr) : Prop := σ[i]? = some (some (.ref a)) ∧ ∃ o, ρ[i]? = some (.own o)
structure Rel (G : Hp) (σ : St) (ρ : List S) (H : Hp) : Prop where
  sub : Same G H
  len : σ.length = ρ.length
  slot : ∀ (i : Nat) (s : S), ρ[i]? = some s → ∃ v, σ[i]? = some v ∧ SlotOk B G H v s
  sep : ∀ i j a, Own σ ρ i a → Own σ ρ j a → i = j
/-- what stays, and what is behind -/
structure Post (σ : St) (ρ : List S) (H G : Hp) (σ' : St) (ρ' : List S) (H' G' : Hp) : Prop where
  grow : Same G G'
  dom : ∀ b, H' b = none → H b = none
  frame : ∀ b o, H b = some o → (∀ i, ¬ Own σ ρ i b) → H' b = some o
  keep : ∀ b o, H b = some o → G b = none → (∀ i, ¬ Own σ ρ i b) → G' b = none
  rel : Rel B G' σ' ρ' H'
  own : ∀ i a, Own σ' ρ' i a → Own σ ρ i a ∨ H a = none
/-- the value of an expression -/
def RE (G : Hp) (σ : St) (ρ : List S) (H : Hp) (u : V) : E → Prop
  | .d x => Fz B G u x
  | .sl i => σ[i]? = some (some u)
  | .fr o => ∃ a ho, u = .ref a ∧ H a = some ho ∧ G a = none ∧ RO B G a ho o ∧ ∀ i, ¬ Own σ ρ i a
def Fresh (H : Hp) (u : V) : E → Prop
  | .fr _ => ∀ a, u = .ref a → H a = none
  | _ => True
/-- an exception: its class, its own dict -/
def RX (G H : Hp) (cls : Value) (d : Option Addr) (e : Exc) : Prop := ∃ a, B.mg e.cls = some (.ref a) ∧ cls = .ref a ∧
  ((e.fs = [] ∧ d = none) ∨ ∃ dd fs, d = some dd ∧ H dd = some (.xd fs) ∧ fs.map (·.1) = e.fs.map (·.1) ∧ FzL B G (fs.map (·.2)) (e.fs.map (·.2)))
/-- what is wanted of an exception that leaves -/
abbrev WX' := Value → Option Addr → St → Hp → Prop
end
section
variable {B : Bk} {G G' G1 G2 G3 H H' H1 H2 H3 : Hp} {σ σ' σ1 σ2 σ3 : St} {ρ ρ' ρ1 ρ2 ρ3 : List S}
theorem RO.mono {a : Addr} {ho : HO} {o : O} (s : Same G G') (h : RO B G a ho o) : RO B G' a ho o := by
  cases o with
  | lst ds => obtain ⟨xs, e, r⟩ := h; exact ⟨xs, e, FzL.mono s _ _ r⟩
  | dct ds => obtain ⟨xs, e, r⟩ := h; exact ⟨xs, e, FzK.mono s _ _ r⟩
  | dd ds => obtain ⟨ob, xs, e, r⟩ := h; exact ⟨ob, xs, e, FzD.mono s _ _ r⟩
  | ins c ds => obtain ⟨C, dx, fs, e, r1, r2, r⟩ := h; exact ⟨C, dx, fs, e, s _ _ r1, r2, FzF.mono s _ _ r⟩
theorem RO.fz {ho : HO} {o : O} {a : Addr} (h : RO B G a ho o) (e : G a = some ho) : Fz B G (.ref a) o.toD := by
  cases o with
  | lst ds =>
    obtain ⟨xs, rfl, r⟩ := h
    show Fz B G _ (.lst ds)
    rw [Fz]; exact ⟨a, xs, rfl, e, r⟩
  | dct ds =>
    obtain ⟨xs, rfl, r⟩ := h
    show Fz B G _ (.dct ds)
    rw [Fz]; exact ⟨a, xs, rfl, e, r⟩
  | dd ds =>
    obtain ⟨ob, xs, rfl, r⟩ := h
    show Fz B G _ (.dd ds)
    rw [Fz]; exact ⟨a, ob, xs, rfl, e, r⟩
  | ins c ds =>
    obtain ⟨C, dx, fs, rfl, r1, r2, r⟩ := h
    show Fz B G _ (.ins c ds)
    rw [Fz]; exact ⟨a, C, dx, fs, rfl, e, r1, r2, r⟩
theorem Post.refl (r : Rel B G σ ρ H) : Post B σ ρ H G σ ρ H G :=
  ⟨.refl _, fun _ h => h, fun _ _ h _ => h, fun _ _ _ h _ => h, r, fun _ _ h => .inl h⟩
theorem Post.notown (p : Post B σ1 ρ1 H1 G1 σ2 ρ2 H2 G2) {b : Addr} {o : HO} (h : H1 b = some o) (n : ∀ i, ¬ Own σ1 ρ1 i b) : ∀ i, ¬ Own σ2 ρ2 i b := fun i w => by
  rcases p.own i b w with z | z
  · exact n i z
  · rw [h] at z; cases z
theorem Post.trans (p : Post B σ1 ρ1 H1 G1 σ2 ρ2 H2 G2) (q : Post B σ2 ρ2 H2 G2 σ3 ρ3 H3 G3) : Post B σ1 ρ1 H1 G1 σ3 ρ3 H3 G3 where
  grow := p.grow.trans q.grow
  dom := fun b h => p.dom b (q.dom b h)
  frame := fun b o h n => q.frame b o (p.frame b o h n) (p.notown h n)
  keep := fun b o h g n => q.keep b o (p.frame b o h n) (p.keep b o h g n) (p.notown h n)
  rel := q.rel
  own := fun i a w => by
    rcases q.own i a w with z | z
    · exact p.own i a z
    · exact .inr (p.dom a z)
theorem RE.step {u : V} {v : E} (h : RE B G σ ρ H u v) (p : Post B σ ρ H G σ ρ' H' G') : RE B G' σ ρ' H' u v := by
  cases v with
  | d x => exact Fz.mono p.grow _ _ h
  | sl i => exact h
  | fr o =>
    obtain ⟨a, ho, e, e1, e2, r, n⟩ := h
    exact ⟨a, ho, e, p.frame a ho e1 n, p.keep a ho e1 e2 n, r.mono p.grow, p.notown e1 n⟩
/-! ### contents -/
def E.val (ρ : List S) : E → Option D
  | .d x => some x
  | .sl i => match ρ[i]? with
    | some (.d x) => some x
    | some (.own o) => some o.toD
    | _ => none
  | .fr o => some o.toD
theorem val_ok {u : V} {v : E} {x : D} (r : Rel B G σ ρ H) (h : RE B G σ ρ H u v) (e : v.val ρ = some x) : Fz B H u x := by
  cases v with
  | d y =>
    cases e
    exact Fz.mono r.sub _ _ h
  | sl i =>
    have h : σ[i]? = some (some u) := h
    simp only [E.val] at e
    split at e
    · rename_i y hy
      cases e
      obtain ⟨v, h1, w, h2, h3⟩ := r.slot i _ hy
      rw [h] at h1; cases h1; cases h2
      exact Fz.mono r.sub _ _ h3
    · rename_i o ho
      cases e
      obtain ⟨v, h1, a, ob, h2, h3, h4, h5⟩ := r.slot i _ ho
      rw [h] at h1; cases h1; cases h2
      exact (h5.mono r.sub).fz h3
    · cases e
  | fr o =>
    cases e
    obtain ⟨a, ho, rfl, e1, e2, r', n⟩ := h
    exact (r'.mono r.sub).fz e1
/-! ### freezing -/
/-- the object of a slot is given away: from now on it stands still -/
def freeze (i : Nat) (ρ : List S) : Option (D × List S) :=
  match ρ[i]? with
  | some (.d x) => some (x, ρ)
  | some (.own o) => some (o.toD, ρ.set i (.d o.toD))
  | _ => none
def keep1 : E → List S → Option (D × List S)
  | .d x, ρ => some (x, ρ)
  | .sl i, ρ => freeze i ρ
  | .fr o, ρ => some (o.toD, ρ)
def keepL : List E → List S → Option (List D × List S)
  | [], ρ => some ([], ρ)
  | v :: vs, ρ => match keep1 v ρ with
    | none => none
    | some (x, ρ1) => match keepL vs ρ1 with
      | none => none
      | some (xs, ρ2) => some (x :: xs, ρ2)
theorem getElem?_set_ne' {α : Type} {l : List α} {i j : Nat} {x : α} (h : i ≠ j) : (l.set i x)[j]? = l[j]? := by
  rw [List.getElem?_set_ne h]
theorem upd_self_same {G : Hp} {a : Addr} {o : HO} (h : G a = none) : Same G (upd G a o) := fun b u e => by rw [upd_ne (ne_of_none e h)]; exact e
theorem freeze_ok {i : Nat} {x : D} {u : V} (r : Rel B G σ ρ H) (h : σ[i]? = some (some u)) (e : freeze i ρ = some (x, ρ')) :
    ∃ G', Post B σ ρ H G σ ρ' H G' ∧ Fz B G' u x ∧ (∀ b, (∀ i, ¬ Own σ ρ i b) → G b = none → G' b = none) := by
  unfold freeze at e
  split at e
  · rename_i y hy
    cases e
    obtain ⟨v, h1, w, h2, h3⟩ := r.slot i _ hy
    rw [h] at h1; cases h1; cases h2
    exact ⟨G, .refl r, h3, fun _ _ h => h⟩
  · rename_i o ho
    cases e
    obtain ⟨v, h1, a, ob, h2, h3, h4, h5⟩ := r.slot i _ ho
    rw [h] at h1; cases h1; cases h2
    have sg : Same G (upd G a ob) := upd_self_same h4
    have ow : Own σ ρ i a := ⟨h, o, ho⟩
    have hi : i < ρ.length := by
      have := (List.getElem?_eq_some_iff.mp ho).1
      exact this
    have oo : ∀ j b, Own σ (ρ.set i (.d o.toD)) j b → Own σ ρ j b ∧ j ≠ i := fun j b ⟨w1, o', w2⟩ => by
      by_cases hj : i = j
      · subst hj
        rw [List.getElem?_set_self hi] at w2
        cases w2
      · rw [List.getElem?_set_ne hj] at w2
        exact ⟨⟨w1, o', w2⟩, fun z => hj z.symm⟩
    refine ⟨upd G a ob, ⟨sg, fun _ h => h, fun _ _ h _ => h, fun b q hb hg n => ?_, ⟨fun b q hb => ?_, by rw [List.length_set]; exact r.len, fun j s hs => ?_, fun j k b w1 w2 => r.sep j k b (oo j b w1).1 (oo k b w2).1⟩, fun j b w => .inl (oo j b w).1⟩, (h5.mono sg).fz upd_same, fun b n hg => ?_⟩
    · rw [upd_ne (fun z => n i (by rw [z]; exact ow))]; exact hg
    · by_cases hb' : b = a
      · subst hb'; rw [upd_same] at hb; cases hb; exact h3
      · rw [upd_ne hb'] at hb; exact r.sub b q hb
    · by_cases hj : i = j
      · subst hj
        rw [List.getElem?_set_self hi] at hs
        cases hs
        exact ⟨_, h, _, rfl, (h5.mono sg).fz upd_same⟩
      · rw [List.getElem?_set_ne hj] at hs
        obtain ⟨v, e1, e2⟩ := r.slot j s hs
        refine ⟨v, e1, ?_⟩
        cases s with
        | no => trivial
        | d y => obtain ⟨w, q1, q2⟩ := e2; exact ⟨w, q1, Fz.mono sg _ _ q2⟩
        | own o' =>
          obtain ⟨b, ob', q1, q2, q3, q4⟩ := e2
          subst q1
          refine ⟨b, ob', rfl, q2, ?_, q4.mono sg⟩
          rw [upd_ne]
          · exact q3
          · intro z
            subst z
            exact hj (r.sep i j b ow ⟨e1, o', hs⟩)
    · rw [upd_ne (fun z => n i (by rw [z]; exact ow))]; exact hg
  · cases e
/-- values that wait: new objects among them are younger than the beginning, and apart -/
structure Pend (B : Bk) (σ : St) (ρ0 : List S) (H0 G0 : Hp) (ρ : List S) (H G : Hp) (us : List V) (vs : List E) : Prop where
  post : Post B σ ρ0 H0 G0 σ ρ H G
  len : us.length = vs.length
  re : ∀ (i : Nat) (v : E), vs[i]? = some v → ∃ u, us[i]? = some u ∧ RE B G σ ρ H u v
  new : ∀ (i : Nat) (o : O) (a : Addr), vs[i]? = some (.fr o) → us[i]? = some (.ref a) → H0 a = none
  apart : ∀ (i j : Nat) (o o' : O) (a : Addr), vs[i]? = some (.fr o) → vs[j]? = some (.fr o') → us[i]? = some (.ref a) → us[j]? = some (.ref a) → i = j
theorem Pend.nil (r : Rel B G σ ρ H) : Pend B σ ρ H G ρ H G [] [] :=
  ⟨.refl r, rfl, fun i v e => by simp at e, fun i o a e => by simp at e, fun i j o o' a e => by simp at e⟩
theorem getElem?_snoc {α : Type} {l : List α} {x y : α} {i : Nat} (h : (l ++ [x])[i]? = some y) : l[i]? = some y ∨ (i = l.length ∧ y = x) := by
  by_cases hi : i < l.length
  · rw [List.getElem?_append_left hi] at h; exact .inl h
  · have hl : i < (l ++ [x]).length := (List.getElem?_eq_some_iff.mp h).1
    rw [List.length_append, List.length_singleton] at hl
    have e : i = l.length := by omega
    subst e
    rw [List.getElem?_append_right (Nat.le_refl _)] at h
    simp at h
    exact .inr ⟨rfl, h.symm⟩
theorem getElem?_snoc_of {α : Type} {l : List α} {x y : α} {i : Nat} (h : l[i]? = some y) : (l ++ [x])[i]? = some y := by
  rw [List.getElem?_append_left (List.getElem?_eq_some_iff.mp h).1]; exact h
theorem getElem?_snoc_last {α : Type} {l : List α} {x : α} : (l ++ [x])[l.length]? = some x := by
  rw [List.getElem?_append_right (Nat.le_refl _)]; simp
/-- one value more -/
theorem Pend.snoc {ρ0 : List S} {H0 G0 : Hp} {us : List V} {vs : List E} {u : V} {v : E} (p : Pend B σ ρ0 H0 G0 ρ H G us vs) (q : Post B σ ρ H G σ ρ' H' G') (re : RE B G' σ ρ' H' u v) (fr : Fresh H u v) :
    Pend B σ ρ0 H0 G0 ρ' H' G' (us ++ [u]) (vs ++ [v]) where
  post := p.post.trans q
  len := by simp [p.len]
  re := fun i w e => by
    rcases getElem?_snoc e with e | ⟨rfl, rfl⟩
    · obtain ⟨x, e1, e2⟩ := p.re i w e
      exact ⟨x, getElem?_snoc_of e1, e2.step q⟩
    · exact ⟨u, by rw [← p.len]; exact getElem?_snoc_last, re⟩
  new := fun i o a e e' => by
    rcases getElem?_snoc e with e | ⟨rfl, rfl⟩
    · obtain ⟨x, e1, e2⟩ := p.re i _ e
      rw [getElem?_snoc_of e1] at e'
      cases e'
      exact p.new i o a e e1
    · rw [← p.len, getElem?_snoc_last] at e'
      cases e'
      exact p.post.dom a (fr a rfl)
  apart := fun i j o o' a e e' w w' => by
    have old : ∀ {k : Nat} {q : O}, vs[k]? = some (.fr q) → (us ++ [u])[k]? = some (.ref a) → us[k]? = some (.ref a) ∧ ∃ ho, H a = some ho := fun {k q} e1 e2 => by
      obtain ⟨x, e3, e4⟩ := p.re k _ e1
      rw [getElem?_snoc_of e3] at e2
      cases e2
      obtain ⟨b, ho, e5, e6, _⟩ := e4
      cases e5
      exact ⟨e3, ho, e6⟩
    rcases getElem?_snoc e with e1 | ⟨i1, v1⟩
    · rcases getElem?_snoc e' with e2 | ⟨i2, v2⟩
      · exact p.apart i j o o' a e1 e2 (old e1 w).1 (old e2 w').1
      · obtain ⟨_, ho, h⟩ := old e1 w
        rw [i2, ← p.len, getElem?_snoc_last] at w'
        cases w'
        subst v2
        rw [fr a rfl] at h; cases h
    · rcases getElem?_snoc e' with e2 | ⟨i2, v2⟩
      · obtain ⟨_, ho, h⟩ := old e2 w'
        rw [i1, ← p.len, getElem?_snoc_last] at w
        cases w
        subst v1
        rw [fr a rfl] at h; cases h
      · rw [i1, i2]
theorem Pend.one {u : V} {v : E} (q : Post B σ ρ H G σ ρ' H' G') (r : Rel B G σ ρ H) (re : RE B G' σ ρ' H' u v) (fr : Fresh H u v) : Pend B σ ρ H G ρ' H' G' [u] [v] :=
  (Pend.nil r).snoc q re fr
end
end L2.AL
/-! A2: what an evaluation promises; one operand behind the other; names, constants, operators. -/
namespace L2.AL
open PySem PySem.Spec PyProof.Rows
section
variable (B : Bk) (W : WX')
section
variable (σ : St) (ρ : List S) (H G : Hp)
/-- a way by which an exception leaves -/
def Out (e : Exc) (ρ' : List S) : Prop := ∀ cls d H' G', Post B σ ρ H G σ ρ' H' G' → RX B G' H' cls d e → W cls d σ H'
def Aft (Q : VK) : Res E → Prop
  | .ok v ρ' => ∀ u H' G', Post B σ ρ H G σ ρ' H' G' → RE B G' σ ρ' H' u v → Fresh H u v → Q u H'
  | .ex e ρ' => Out B W σ ρ H G e ρ'
  | .no => False
def AftT (Q : Bool → Hp → Prop) : Res Bool → Prop
  | .ok b ρ' => ∀ H' G', Post B σ ρ H G σ ρ' H' G' → Q b H'
  | .ex e ρ' => Out B W σ ρ H G e ρ'
  | .no => False
def AftA (Q : List V → Hp → Prop) : Res (List E) → Prop
  | .ok vs ρ' => ∀ us H' G', Pend B σ ρ H G ρ' H' G' us vs → Q us H'
  | .ex e ρ' => Out B W σ ρ H G e ρ'
  | .no => False
/-- any such wish -/
structure Cl {β : Type} (Φ : Res β → Prop) : Prop where
  ex : ∀ e ρ', Φ (.ex e ρ') → Out B W σ ρ H G e ρ'
  no : ¬ Φ .no
end
def lift (f : List S → Res E) : TE := fun σ H Q => ∃ G ρ, Rel B G σ ρ H ∧ Aft B W σ ρ H G Q (f ρ)
def liftT (f : List S → Res Bool) : TT := fun σ H Q => ∃ G ρ, Rel B G σ ρ H ∧ AftT B W σ ρ H G Q (f ρ)
def liftA (f : List S → Res (List E)) : TA := fun σ H Q => ∃ G ρ, Rel B G σ ρ H ∧ AftA B W σ ρ H G Q (f ρ)
end
section
variable {B : Bk} {W : WX'} {G G0 G1 G' H H0 H1 H' : Hp} {σ : St} {ρ ρ0 ρ1 ρ' : List S} {us us' : List V} {vs vs' : List E} {β : Type} {Φ : Res β → Prop}
theorem Out.back {e : Exc} {ρ2 : List S} (h : Out B W σ ρ H G e ρ2) (p : Post B σ ρ H G σ ρ1 H1 G1) : Out B W σ ρ1 H1 G1 e ρ2 :=
  fun cls d H' G' q r => h cls d H' G' (p.trans q) r
theorem Cl.step (c : Cl B W σ ρ H G Φ) (p : Post B σ ρ H G σ ρ1 H1 G1) : Cl B W σ ρ1 H1 G1 Φ :=
  ⟨fun e ρ' h => (c.ex e ρ' h).back p, c.no⟩
theorem Aft.cl {Q : VK} : Cl B W σ ρ H G (Aft B W σ ρ H G Q) := ⟨fun _ _ h => h, fun h => h⟩
theorem AftT.cl {Q : Bool → Hp → Prop} : Cl B W σ ρ H G (AftT B W σ ρ H G Q) := ⟨fun _ _ h => h, fun h => h⟩
theorem AftA.cl {Q : List V → Hp → Prop} : Cl B W σ ρ H G (AftA B W σ ρ H G Q) := ⟨fun _ _ h => h, fun h => h⟩
theorem Pend.len1 (p : Pend B σ ρ0 H0 G0 ρ H G us vs) : us.length = vs.length := p.len
/-- two heaps of values that wait -/
theorem Pend.append (p : Pend B σ ρ0 H0 G0 ρ H G us vs) (q : Pend B σ ρ H G ρ' H' G' us' vs') : Pend B σ ρ0 H0 G0 ρ' H' G' (us ++ us') (vs ++ vs') where
  post := p.post.trans q.post
  len := by rw [List.length_append, List.length_append, p.len, q.len]
  re := fun i v e => by
    by_cases hi : i < vs.length
    · rw [List.getElem?_append_left hi] at e
      obtain ⟨u, e1, e2⟩ := p.re i v e
      exact ⟨u, by rw [List.getElem?_append_left (by rw [p.len]; exact hi)]; exact e1, e2.step q.post⟩
    · rw [List.getElem?_append_right (by omega)] at e
      obtain ⟨u, e1, e2⟩ := q.re _ v e
      exact ⟨u, by rw [List.getElem?_append_right (by rw [p.len]; omega), p.len]; exact e1, e2⟩
  new := fun i o a e e' => by
    by_cases hi : i < vs.length
    · rw [List.getElem?_append_left hi] at e
      rw [List.getElem?_append_left (by rw [p.len]; exact hi)] at e'
      exact p.new i o a e e'
    · rw [List.getElem?_append_right (by omega)] at e
      rw [List.getElem?_append_right (by rw [p.len]; omega), p.len] at e'
      exact p.post.dom a (q.new _ o a e e')
  apart := fun i j o o' a e e' w w' => by
    have old : ∀ {k : Nat} {x : O}, vs[k]? = some (.fr x) → us[k]? = some (.ref a) → ∃ ho, H a = some ho := fun {k x} e1 e2 => by
      obtain ⟨y, e3, e4⟩ := p.re k _ e1
      rw [e3] at e2; cases e2
      obtain ⟨b, ho, e5, e6, _⟩ := e4
      cases e5
      exact ⟨ho, e6⟩
    by_cases hi : i < vs.length
    · rw [List.getElem?_append_left hi] at e
      rw [List.getElem?_append_left (by rw [p.len]; exact hi)] at w
      by_cases hj : j < vs.length
      · rw [List.getElem?_append_left hj] at e'
        rw [List.getElem?_append_left (by rw [p.len]; exact hj)] at w'
        exact p.apart i j o o' a e e' w w'
      · rw [List.getElem?_append_right (by omega)] at e'
        rw [List.getElem?_append_right (by rw [p.len]; omega), p.len] at w'
        obtain ⟨ho, h⟩ := old e w
        rw [q.new _ o' a e' w'] at h; cases h
    · rw [List.getElem?_append_right (by omega)] at e
      rw [List.getElem?_append_right (by rw [p.len]; omega), p.len] at w
      by_cases hj : j < vs.length
      · rw [List.getElem?_append_left hj] at e'
        rw [List.getElem?_append_left (by rw [p.len]; exact hj)] at w'
        obtain ⟨ho, h⟩ := old e' w'
        rw [q.new _ o a e w] at h; cases h
      · rw [List.getElem?_append_right (by omega)] at e'
        rw [List.getElem?_append_right (by rw [p.len]; omega), p.len] at w'
        have := q.apart _ _ o o' a e e' w w'
        omega
/-- the next operand -/
theorem lift_next {f : List S → Res E} {k : E → List S → Res β} (p : Pend B σ ρ0 H0 G0 ρ H G us vs) (c : Cl B W σ ρ0 H0 G0 Φ) (h : Φ ((f ρ).bind k)) :
    lift B W f σ H (fun u H1 => ∃ v ρ1 G1, Pend B σ ρ0 H0 G0 ρ1 H1 G1 (us ++ [u]) (vs ++ [v]) ∧ Φ (k v ρ1)) := by
  refine ⟨G, ρ, p.post.rel, ?_⟩
  cases e : f ρ with
  | ok v ρ1 =>
    rw [e] at h
    exact fun u H' G' q re fr => ⟨v, ρ1, G', p.snoc q re fr, h⟩
  | ex x ρ1 =>
    rw [e] at h
    exact (c.ex x ρ1 h).back p.post
  | no =>
    rw [e] at h
    exact c.no h
theorem lift_first {f : List S → Res E} {k : E → List S → Res β} (r : Rel B G σ ρ H) (c : Cl B W σ ρ H G Φ) (h : Φ ((f ρ).bind k)) :
    lift B W f σ H (fun u H1 => ∃ v ρ1 G1, Pend B σ ρ H G ρ1 H1 G1 [u] [v] ∧ Φ (k v ρ1)) := lift_next (Pend.nil r) c h
theorem lift_mono {f : List S → Res E} {Q Q' : VK} (h : lift B W f σ H Q) (w : ∀ u H, Q u H → Q' u H) : lift B W f σ H Q' := by
  obtain ⟨G, ρ, r, h⟩ := h
  refine ⟨G, ρ, r, ?_⟩
  cases e : f ρ with
  | ok v ρ1 => rw [e] at h; exact fun u H' G' p re fr => w _ _ (h u H' G' p re fr)
  | ex x ρ1 => rw [e] at h; exact h
  | no => rw [e] at h; exact h
theorem liftT_mono {f : List S → Res Bool} {Q Q' : Bool → Hp → Prop} (h : liftT B W f σ H Q) (w : ∀ u H, Q u H → Q' u H) : liftT B W f σ H Q' := by
  obtain ⟨G, ρ, r, h⟩ := h
  refine ⟨G, ρ, r, ?_⟩
  cases e : f ρ with
  | ok v ρ1 => rw [e] at h; exact fun H' G' p => w _ _ (h H' G' p)
  | ex x ρ1 => rw [e] at h; exact h
  | no => rw [e] at h; exact h
theorem liftA_mono {f : List S → Res (List E)} {Q Q' : List V → Hp → Prop} (h : liftA B W f σ H Q) (w : ∀ u H, Q u H → Q' u H) : liftA B W f σ H Q' := by
  obtain ⟨G, ρ, r, h⟩ := h
  refine ⟨G, ρ, r, ?_⟩
  cases e : f ρ with
  | ok v ρ1 => rw [e] at h; exact fun u H' G' p => w _ _ (h u H' G' p)
  | ex x ρ1 => rw [e] at h; exact h
  | no => rw [e] at h; exact h
theorem liftT_next {f : List S → Res Bool} {k : Bool → List S → Res β} (p : Pend B σ ρ0 H0 G0 ρ H G us vs) (c : Cl B W σ ρ0 H0 G0 Φ) (h : Φ ((f ρ).bind k)) :
    liftT B W f σ H (fun b H1 => ∃ ρ1 G1, Post B σ ρ H G σ ρ1 H1 G1 ∧ Φ (k b ρ1)) := by
  refine ⟨G, ρ, p.post.rel, ?_⟩
  cases e : f ρ with
  | ok v ρ1 =>
    rw [e] at h
    exact fun H' G' q => ⟨ρ1, G', q, h⟩
  | ex x ρ1 =>
    rw [e] at h
    exact (c.ex x ρ1 h).back p.post
  | no =>
    rw [e] at h
    exact c.no h
theorem liftA_next {f : List S → Res (List E)} {k : List E → List S → Res β} (p : Pend B σ ρ0 H0 G0 ρ H G us vs) (c : Cl B W σ ρ0 H0 G0 Φ) (h : Φ ((f ρ).bind k)) :
    liftA B W f σ H (fun us' H1 => ∃ vs' ρ1 G1, Pend B σ ρ0 H0 G0 ρ1 H1 G1 (us ++ us') (vs ++ vs') ∧ Φ (k vs' ρ1)) := by
  refine ⟨G, ρ, p.post.rel, ?_⟩
  cases e : f ρ with
  | ok v ρ1 =>
    rw [e] at h
    exact fun us' H' G' q => ⟨v, ρ1, G', p.append q, h⟩
  | ex x ρ1 =>
    rw [e] at h
    exact (c.ex x ρ1 h).back p.post
  | no =>
    rw [e] at h
    exact c.no h
theorem liftA_first {f : List S → Res (List E)} {k : List E → List S → Res β} (r : Rel B G σ ρ H) (c : Cl B W σ ρ H G Φ) (h : Φ ((f ρ).bind k)) :
    liftA B W f σ H (fun us' H1 => ∃ vs' ρ1 G1, Pend B σ ρ H G ρ1 H1 G1 us' vs' ∧ Φ (k vs' ρ1)) := liftA_next (Pend.nil r) c h
/-! ### a value's top in the heap, its items frozen -/
def Tz (B : Bk) (G H : Hp) (u : V) : D → Prop
  | .lst ds => ∃ a xs, u = .ref a ∧ H a = some (.lst xs) ∧ FzL B G xs ds
  | .dct ds => ∃ a kvs, u = .ref a ∧ H a = some (.dK kvs) ∧ FzK B G kvs ds
  | .dd ds => ∃ a ob es, u = .ref a ∧ H a = some (dnO B.w a ob es) ∧ FzD B G es ds
  | .ins c ds => ∃ a C dx fs, u = .ref a ∧ H a = some (.ins C dx fs) ∧ G dx = some (.own a) ∧ B.mg c = some (.ref C) ∧ FzF B G fs ds
  | x => Fz B G u x
theorem Fz.tz {u : V} {x : D} (s : Same G H) (h : Fz B G u x) : Tz B G H u x := by
  cases x with
  | lst ds => rw [Fz] at h; obtain ⟨a, xs, e, q, r⟩ := h; exact ⟨a, xs, e, s _ _ q, r⟩
  | dct ds => rw [Fz] at h; obtain ⟨a, xs, e, q, r⟩ := h; exact ⟨a, xs, e, s _ _ q, r⟩
  | dd ds => rw [Fz] at h; obtain ⟨a, ob, xs, e, q, r⟩ := h; exact ⟨a, ob, xs, e, s _ _ q, r⟩
  | ins c ds => rw [Fz] at h; obtain ⟨a, C, dx, fs, e, q, q1, q2, r⟩ := h; exact ⟨a, C, dx, fs, e, s _ _ q, q1, q2, r⟩
  | _ => exact h
theorem RO.tz {ho : HO} {o : O} {a : Addr} (e : H a = some ho) (h : RO B G a ho o) : Tz B G H (.ref a) o.toD := by
  cases o with
  | lst ds => obtain ⟨xs, rfl, r⟩ := h; exact ⟨a, xs, rfl, e, r⟩
  | dct ds => obtain ⟨xs, rfl, r⟩ := h; exact ⟨a, xs, rfl, e, r⟩
  | dd ds => obtain ⟨ob, xs, rfl, r⟩ := h; exact ⟨a, ob, xs, rfl, e, r⟩
  | ins c ds => obtain ⟨C, dx, fs, rfl, r1, r2, r⟩ := h; exact ⟨a, C, dx, fs, rfl, e, r1, r2, r⟩
theorem Tz.fz {u : V} {x : D} (s : Same G H) (h : Tz B G H u x) : Fz B H u x := by
  cases x with
  | lst ds => obtain ⟨a, xs, e, q, r⟩ := h; rw [Fz]; exact ⟨a, xs, e, q, FzL.mono s _ _ r⟩
  | dct ds => obtain ⟨a, xs, e, q, r⟩ := h; rw [Fz]; exact ⟨a, xs, e, q, FzK.mono s _ _ r⟩
  | dd ds => obtain ⟨a, ob, xs, e, q, r⟩ := h; rw [Fz]; exact ⟨a, ob, xs, e, q, FzD.mono s _ _ r⟩
  | ins c ds => obtain ⟨a, C, dx, fs, e, q, q1, q2, r⟩ := h; rw [Fz]; exact ⟨a, C, dx, fs, e, q, s _ _ q1, q2, FzF.mono s _ _ r⟩
  | _ => exact Fz.mono s _ _ h
theorem Rel.val {u : V} {v : E} {x : D} (r : Rel B G σ ρ H) (h : RE B G σ ρ H u v) (e : v.val ρ = some x) : Tz B G H u x := by
  cases v with
  | d y =>
    cases e
    exact Fz.tz r.sub h
  | sl i =>
    have h : σ[i]? = some (some u) := h
    simp only [E.val] at e
    split at e
    · rename_i y hy
      cases e
      obtain ⟨v, h1, w, h2, h3⟩ := r.slot i _ hy
      rw [h] at h1; cases h1; cases h2
      exact Fz.tz r.sub h3
    · rename_i o ho
      cases e
      obtain ⟨v, h1, a, ob, h2, h3, h4, h5⟩ := r.slot i _ ho
      rw [h] at h1; cases h1; cases h2
      exact h5.tz h3
    · cases e
  | fr o =>
    cases e
    obtain ⟨a, ho, rfl, e1, e2, r', n⟩ := h
    exact r'.tz e1
/-! ### a result -/
/-- at most one object is new: the result -/
structure New (B : Bk) (G H : Hp) (u : V) (v : E) (H' G' : Hp) : Prop where
  grow : Same G G'
  stay : Same H H'
  sub : Same G' H'
  keep : ∀ b o, H b = some o → G b = none → G' b = none
  val : match v with
    | .d x => Fz B G' u x
    | .sl _ => False
    | .fr o => ∃ a ho, u = .ref a ∧ H a = none ∧ H' a = some ho ∧ G' a = none ∧ RO B G' a ho o
theorem New.scalar {u : V} {x : D} (s : Same G H) (h : Fz B G u x) : New B G H u (.d x) H G := ⟨.refl _, .refl _, s, fun _ _ _ h => h, h⟩
theorem New.tup {p : Addr} {us : List V} {ds : List D} (s : Same G H) (hp : H p = none) (h : FzL B G us ds) : New B G H (.ref p) (.d (.tup ds)) (upd H p (.tup us)) (upd G p (.tup us)) := by
  have sg : Same G (upd G p (.tup us)) := upd_self_same (s.free hp)
  refine ⟨sg, upd_self_same hp, fun b o e => ?_, fun b o e g => ?_, ?_⟩
  · by_cases hb : b = p
    · subst hb; rw [upd_same] at e ⊢; exact e
    · rw [upd_ne hb] at e ⊢; exact s b o e
  · rw [upd_ne (ne_of_none e hp)]; exact g
  · show Fz B _ _ (.tup ds)
    rw [Fz]
    exact ⟨p, us, rfl, SqT.of upd_same, FzL.mono sg _ _ h⟩
theorem New.own {p : Addr} {ho : HO} {o : O} (s : Same G H) (hp : H p = none) (h : RO B G p ho o) : New B G H (.ref p) (.fr o) (upd H p ho) G :=
  ⟨.refl _, upd_self_same hp, fun b u e => by rw [upd_ne (ne_of_none e (s.free hp))]; exact s b u e, fun _ _ _ g => g, p, ho, rfl, hp, upd_same, s.free hp, h⟩
theorem New.post {u : V} {v : E} (p : Post B σ ρ0 H0 G0 σ ρ H G) (n : New B G H u v H' G') : Post B σ ρ0 H0 G0 σ ρ H' G' ∧ RE B G' σ ρ H' u v ∧ Fresh H0 u v := by
  have r : Rel B G' σ ρ H' := ⟨n.sub, p.rel.len, fun i s e => by
    obtain ⟨x, e1, e2⟩ := p.rel.slot i s e
    refine ⟨x, e1, ?_⟩
    cases s with
    | no => trivial
    | d y => obtain ⟨w, q1, q2⟩ := e2; exact ⟨w, q1, Fz.mono n.grow _ _ q2⟩
    | own o =>
      obtain ⟨a, ho, q1, q2, q3, q4⟩ := e2
      exact ⟨a, ho, q1, n.stay _ _ q2, n.keep _ _ q2 q3, q4.mono n.grow⟩, p.rel.sep⟩
  have q : Post B σ ρ H G σ ρ H' G' := ⟨n.grow, fun b e => Same.free n.stay e, fun b o e _ => n.stay b o e, fun b o e g _ => n.keep b o e g, r, fun _ _ w => .inl w⟩
  refine ⟨p.trans q, ?_, ?_⟩
  · have nv := n.val
    cases v with
    | d x => exact nv
    | sl i => exact nv.elim
    | fr o =>
      obtain ⟨a, ho, e, h0, h1, h2, h3⟩ := nv
      refine ⟨a, ho, e, h1, h2, h3, fun i w => ?_⟩
      obtain ⟨w1, o', w2⟩ := w
      obtain ⟨x, e1, b, hb, e2, e3, _⟩ := p.rel.slot i _ w2
      rw [w1] at e1; cases e1; cases e2
      rw [h0] at e3; cases e3
  · have nv := n.val
    cases v with
    | d x => trivial
    | sl i => trivial
    | fr o =>
      obtain ⟨a, ho, e, h0, h1, h2, h3⟩ := nv
      intro b eb
      rw [e] at eb; cases eb
      exact p.dom _ h0
/-- the end of an evaluation -/
theorem Aft.fin {Q : VK} {u : V} {v : E} (h : Aft B W σ ρ0 H0 G0 Q (.ok v ρ)) (p : Post B σ ρ0 H0 G0 σ ρ H G) (n : New B G H u v H' G') : Q u H' := by
  obtain ⟨p', r, f⟩ := n.post p
  exact h u H' G' p' r f
end
/-! ### rules -/
section
variable {X : Cx} {W : WX'}
abbrev _root_.L2.Cx.bk (X : Cx) : Bk := ⟨X.K, X.mg, X.w⟩
abbrev PEa (X : Cx) (W : WX') (e : Expr) (f : List S → Res E) : Prop := PE X e (lift X.bk W f)
abbrev PTa (X : Cx) (W : WX') (e : Expr) (f : List S → Res Bool) : Prop := PT X e (liftT X.bk W f)
abbrev PAa (X : Cx) (W : WX') (es : List Expr) (f : List S → Res (List E)) : Prop := PA X es (liftA X.bk W f)
theorem pe_imp {e : Expr} {t t' : TE} (h : PE X e t) (w : ∀ σ H Q, t' σ H Q → t σ H Q) : PE X e t' := ⟨fun pins s σ H Q I q => h.run pins s σ H Q I (w σ H Q q)⟩
theorem pt_imp {e : Expr} {t t' : TT} (h : PT X e t) (w : ∀ σ H Q, t' σ H Q → t σ H Q) : PT X e t' := ⟨fun pins s σ H Q I q => h.run pins s σ H Q I (w σ H Q q)⟩
theorem pa_imp {es : List Expr} {t t' : TA} (h : PA X es t) (w : ∀ σ H Q, t' σ H Q → t σ H Q) : PA X es t' := ⟨fun pos pins s σ H Q I q => h.run pos pins s σ H Q I (w σ H Q q)⟩
/-- a name of the def -/
def aVar (i : Nat) : List S → Res E := fun ρ => match ρ[i]? with
  | some (.d x) => .ok (.d x) ρ
  | some (.own _) => .ok (.sl i) ρ
  | _ => .no
theorem a_var (i : Nat) {x : Str} {pos : Pos} (hN : X.N[i]? = some x := by rfl) (hv : Vis X.env.scope x := by first | exact Or.inl rfl | exact Or.inr (Or.inl rfl) | exact Or.inr (Or.inr rfl))
    (hd : (x == ("__debug__" : Str)) = false := by decide) (hcd : (x == ("__classdict__" : Str)) = false := by decide) : PEa X W (.Name x pos) (aVar i) := by
  refine pe_imp (pe_var hN hv hd hcd) fun σ H Q ⟨G, ρ, r, h⟩ => ?_
  unfold aVar at h
  split at h
  · rename_i y hy
    obtain ⟨v, e1, w, e2, e3⟩ := r.slot i _ hy
    exact ⟨w, by rw [e1, e2], h w H G (.refl r) e3 trivial⟩
  · rename_i o ho
    obtain ⟨v, e1, a, ob, e2, e3, e4, e5⟩ := r.slot i _ ho
    exact ⟨.ref a, by rw [e1, e2], h _ H G (.refl r) (by show σ[i]? = _; rw [e1, e2]) trivial⟩
  · exact h.elim
/-- constants -/
def aK (x : D) : List S → Res E := fun ρ => .ok (.d x) ρ
theorem a_const {e : Expr} {v : V} {x : D} (h : PE X e (tC v)) (z : ∀ G, Fz X.bk G v x) : PEa X W e (aK x) :=
  pe_imp h fun σ H Q ⟨G, ρ, r, h⟩ => h v H G (.refl r) (z G) trivial
theorem a_int {i : Int} {j pos} : PEa X W (.Constant (.int i) j pos) (aK (.int i)) := a_const pe_int fun G => by rw [Fz]
theorem a_bl {b : Bool} {j pos} : PEa X W (.Constant (.bool b) j pos) (aK (.bl b)) := a_const pe_bl fun G => by rw [Fz]
theorem a_non {j pos} : PEa X W (.Constant .none j pos) (aK .non) := a_const pe_non fun G => by rw [Fz]
theorem a_str {x : Str} {j pos} : PEa X W (.Constant (.str x) j pos) (aK (.str x)) := a_const pe_str fun G => by rw [Fz]
/-- a name of the module whose value stands still -/
def GC (B : Bk) (x : Str) (d : D) : Prop := ∃ u v, B.mg x = some u ∧ RelV v u ∧ ∀ G, Fz B G v d
theorem a_glob {x : Str} {d : D} {pos : Pos} (h : GC X.bk x d) (hg : Gl X x := by rfl) (hd : (x == ("__debug__" : Str)) = false := by decide) : PEa X W (.Name x pos) (aK d) := by
  obtain ⟨u, v, e, r, z⟩ := h
  exact a_const (pe_glob hg e r hd) z
/-- what a rule by values asks, met by a function of contents -/
def Snd2 (B : Bk) (g : D → D → Option E) (r : R2) : Prop :=
  ∀ (x y : D) (v : E) (a b : V) (G H : Hp) (Q : VK), g x y = some v → Same G H → Tz B G H a x → Tz B G H b y → (∀ u H' G', New B G H u v H' G' → Q u H') → r a b H Q
def app2 (g : D → D → Option E) (va vb : E) (ρ : List S) : Res E := match va.val ρ, vb.val ρ with
  | some x, some y => match g x y with
    | some v => .ok v ρ
    | none => .no
  | _, _ => .no
def aOp2 (g : D → D → Option E) (fa fb : List S → Res E) : List S → Res E := fun ρ => (fa ρ).bind fun va ρ1 => (fb ρ1).bind fun vb ρ2 => app2 g va vb ρ2
section
variable {a b : Expr} {fa fb : List S → Res E} {pos : Pos} {g : D → D → Option E} {r : R2}
theorem op2_imp (sn : Snd2 X.bk g r) (σ : St) (H : Hp) (Q : VK) (h : lift X.bk W (aOp2 g fa fb) σ H Q) : tOp r (lift X.bk W fa) (lift X.bk W fb) σ H Q := by
  obtain ⟨G, ρ, rl, h⟩ := h
  refine lift_mono (lift_first rl (Aft.cl (Q := Q)) h) fun u1 H1 ⟨va, ρa, Ga, P1, h1⟩ => ?_
  refine lift_mono (lift_next P1 (Aft.cl (Q := Q)) h1) fun u2 H2 ⟨vb, ρb, Gb, P2, h2⟩ => ?_
  obtain ⟨x1, ex1, rx1⟩ := P2.re 0 va rfl
  obtain ⟨x2, ex2, rx2⟩ := P2.re 1 vb rfl
  cases ex1
  cases ex2
  unfold app2 at h2
  split at h2
  · rename_i dx dy hx hy
    split at h2
    · rename_i z hz
      exact sn dx dy z _ _ Gb H2 Q hz P2.post.rel.sub (P2.post.rel.val rx1 hx) (P2.post.rel.val rx2 hy) fun w H' G' n => h2.fin P2.post n
    · exact h2.elim
  · exact h2.elim
theorem a_bin {op : Operator} (ho : OpR X (binaryOp op) r) (sn : Snd2 X.bk g r) (ha : PEa X W a fa) (hb : PEa X W b fb) : PEa X W (.BinOp a op b pos) (aOp2 g fa fb) :=
  pe_imp (pe_op ho ha hb) (op2_imp sn)
theorem a_cmp {op : CmpOp} (ho : OpR X (compareOp op) r) (sn : Snd2 X.bk g r) (ha : PEa X W a fa) (hb : PEa X W b fb) (hm : behindInMarks op b = false := by first | exact nomark _ | rfl) : PEa X W (.Compare a [op] [b] pos) (aOp2 g fa fb) :=
  pe_imp (pe_cmpR ho ha hb hm) (op2_imp sn)
theorem a_ix (hr : IxR X r) (sn : Snd2 X.bk g r) (ha : PEa X W a fa) (hb : PEa X W b fb) (hs : PlainIx b := by intro _ _; rfl) : PEa X W (.Subscript a b pos) (aOp2 g fa fb) :=
  pe_imp (pe_ix hr ha hb hs) (op2_imp sn)
end
end
end L2.AL
/-! AN: dicts whose keys are tuples of any depth, over the abstract heap. -/
namespace L2.AL
open PySem PySem.Spec PyProof.Rows
/-! ### keys -/
mutual
inductive NkV (K : PySem.W.Frag) (H : Hp) : NestedKey → V → Prop
  | non : NkV K H .none .non
  | bl (b : Bool) : NkV K H (.num (if b = true then 1 else 0)) (.bl b)
  | int (i : Int) : NkV K H (.num i) (.int i)
  | str (x : Str) : NkV K H (.text x) (.str x)
  | tup {a : Addr} {xs : List V} {ks : List NestedKey} : SqT K H a xs → NkA K H ks xs → NkV K H (.tup ks) (.ref a)
inductive NkA (K : PySem.W.Frag) (H : Hp) : List NestedKey → List V → Prop
  | nil : NkA K H [] []
  | cons {k : NestedKey} {ks : List NestedKey} {v : V} {vs : List V} : NkV K H k v → NkA K H ks vs → NkA K H (k :: ks) (v :: vs)
end
section
variable {B : Bk} {G H : Hp}
mutual
theorem nk_of (s : Same G H) : ∀ (x : D) (u : V) (k : NestedKey), x.nk? = some k → Fz B G u x → NkV B.K H k u
  | .non, u, k, e, h => by rw [D.nk?] at e; cases e; rw [Fz] at h; subst h; exact .non
  | .bl b, u, k, e, h => by rw [D.nk?] at e; cases e; rw [Fz] at h; subst h; exact .bl b
  | .int i, u, k, e, h => by rw [D.nk?] at e; cases e; rw [Fz] at h; subst h; exact .int i
  | .str x, u, k, e, h => by rw [D.nk?] at e; cases e; rw [Fz] at h; subst h; exact .str x
  | .tup xs, u, k, e, h => by
    rw [D.nk?] at e
    obtain ⟨ks, e1, rfl⟩ := Option.map_eq_some_iff.mp e
    rw [Fz] at h
    obtain ⟨a, vs, rfl, h1, h2⟩ := h
    exact .tup (Same.sqt s h1) (nkA_of s xs vs ks e1 h2)
  | .lst _, _, _, e, _ => by rw [D.nk?] at e; cases e
  | .dct _, _, _, e, _ => by rw [D.nk?] at e; cases e
  | .fn _, _, _, e, _ => by rw [D.nk?] at e; cases e
  | .ty _, _, _, e, _ => by rw [D.nk?] at e; cases e
  | .scr _, _, _, e, _ => by rw [D.nk?] at e; cases e
  | .cd _, _, _, e, _ => by rw [D.nk?] at e; cases e
  | .dd _, _, _, e, _ => by rw [D.nk?] at e; cases e
  | .ins _ _, _, _, e, _ => by rw [D.nk?] at e; cases e
  | .raw _, _, _, e, _ => by rw [D.nk?] at e; cases e
theorem nkA_of (s : Same G H) : ∀ (xs : List D) (us : List V) (ks : List NestedKey), D.nkL xs = some ks → FzL B G us xs → NkA B.K H ks us
  | [], [], ks, e, h => by rw [D.nkL] at e; cases e; exact .nil
  | [], _ :: _, _, _, h => by rw [FzL] at h; exact h.elim
  | _ :: _, [], _, _, h => by rw [FzL] at h; exact h.elim
  | x :: xs, u :: us, ks, e, h => by
    rw [FzL] at h
    rw [D.nkL] at e
    split at e
    · rename_i a as e1 e2
      cases e
      exact .cons (nk_of s x u a e1 h.1) (nkA_of s xs us as e2 h.2)
    · cases e
end
end
section
variable {X : Cx} {pins : List (Addr × Obj)} {σ : St} {H : Hp} {s : Shared}
mutual
theorem NkV.is (I : Inv X pins σ H s) : ∀ (k : NestedKey) (v : V) (u : Value), NkV X.K H k v → RelV v u → NestedIs s.heap k u
  | .none, _, _, h, r => by cases h; cases r; exact .none
  | .num i, _, _, h, r => by
    cases h with
    | bl b => cases r; exact .bool rfl
    | int i => obtain ⟨t, rfl⟩ := r; exact .int _ _
  | .text x, _, _, h, r => by
    cases h
    obtain ⟨t, rfl⟩ := r
    exact .text _ _
  | .tup ks, _, _, h, r => by
    cases h with
    | tup hs ha =>
      cases r
      obtain ⟨its, rv, ⟨o, ho, hc, n, hd⟩, _⟩ := I.tuple hs
      exact .tup ho hc hd (NkA.is I ks _ _ ha rv)
theorem NkA.is (I : Inv X pins σ H s) : ∀ (ks : List NestedKey) (vs : List V) (us : List Value), NkA X.K H ks vs → Vals vs us → NestedAll s.heap ks us
  | [], _, _, h, r => by cases h; cases r; exact .nil
  | k :: ks, _, _, h, r => by
    cases h with
    | cons h1 h2 =>
      cases r with
      | cons r1 r2 => exact .cons (NkV.is I k _ _ h1 r1) (NkA.is I ks _ _ h2 r2)
end
end
/-! ### the dict as the library tells it -/
abbrev EnL := List (NestedKey × Addr × V)
abbrev XnL := List (NestedKey × Addr × Value)
def EnX : EnL → XnL → Prop := Paired fun e x => e.1 = x.1 ∧ e.2.1 = x.2.1 ∧ RelV e.2.2 x.2.2
def DnK (K : PySem.W.Frag) (H : Hp) (es : EnL) : Prop := ∀ e ∈ es, NkV K H e.1 (.ref e.2.1) ∧ e.1.depth ≤ 8
def enAt (es : EnL) (k : NestedKey) : Option (Addr × V) := (es.find? fun e => decide (e.1 = k)).map (·.2)
theorem enx_of {P : Program} {w : World} : ∀ {es : EnL} {l : List DictEntry}, Paired (fun (e : NestedKey × Addr × V) (x : DictEntry) => x.hash = e.1.hash w ∧ x.key = .ref e.2.1 ∧ RelV e.2.2 x.val) es l →
    ∃ xs, EnX es xs ∧ l = xs.map (entryOfKey (nestedKind P w))
  | _, _, .nil => ⟨[], .nil, rfl⟩
  | _, _, .cons (a := e) (b := x) ⟨h1, h2, h3⟩ t => by
    obtain ⟨xs, q, rfl⟩ := enx_of (P := P) t
    refine ⟨(e.1, e.2.1, x.val) :: xs, .cons ⟨rfl, rfl, h3⟩ q, ?_⟩
    rw [List.map_cons]
    congr 1
    cases x
    simp only at h1 h2
    subst h1 h2
    rfl
theorem of_enx {P : Program} {w : World} : ∀ {es : EnL} {xs : XnL}, EnX es xs → Paired (fun (e : NestedKey × Addr × V) (x : DictEntry) => x.hash = e.1.hash w ∧ x.key = .ref e.2.1 ∧ RelV e.2.2 x.val) es (xs.map (entryOfKey (nestedKind P w)))
  | _, _, .nil => .nil
  | _, _, .cons ⟨h1, h2, h3⟩ t => .cons ⟨by rw [h1]; rfl, by rw [h2]; rfl, h3⟩ (of_enx t)
theorem EnX.keys : ∀ {es : EnL} {xs : XnL}, EnX es xs → xs.map (·.1) = es.map (·.1)
  | _, _, .nil => rfl
  | _, _, .cons ⟨h1, _, _⟩ t => by rw [List.map_cons, List.map_cons, h1, EnX.keys t]
theorem EnX.at_ {k : NestedKey} : ∀ {es : EnL} {xs : XnL}, EnX es xs → match enAt es k with
    | some e => ∃ x, atKey xs k = some x ∧ e.1 = x.1 ∧ RelV e.2 x.2
    | none => atKey xs k = none
  | _, _, .nil => rfl
  | e :: es, x :: xs, .cons ⟨h1, h2, h3⟩ t => by
    by_cases hk : e.1 = k
    · have q1 : enAt (e :: es) k = some e.2 := by unfold enAt; rw [List.find?_cons_of_pos (by simpa using hk)]; rfl
      have q2 : atKey (x :: xs) k = some x.2 := by unfold atKey; rw [List.find?_cons_of_pos (by simpa [← h1] using hk)]; rfl
      rw [q1]
      exact ⟨x.2, q2, h2, h3⟩
    · have q1 : enAt (e :: es) k = enAt es k := by unfold enAt; rw [List.find?_cons_of_neg (by simpa using hk)]
      have q2 : atKey (x :: xs) k = atKey xs k := by unfold atKey; rw [List.find?_cons_of_neg (by simpa [← h1] using hk)]
      rw [q1, q2]
      exact EnX.at_ t
section
variable {X : Cx} {pins : List (Addr × Obj)} {σ : St} {H : Hp} {s : Shared} {p : Addr} {ob : Obj} {es : EnL}
theorem dn_of (I : Inv X pins σ H s) (hp : H p = some (dnO X.w p ob es)) (hk : DnK X.K H es) : ∃ xs, EnX es xs ∧ s.heap.DictOfH (nestedKind X.prog X.w) p xs ∧ (p == sysModules) = false ∧ es.length ≤ sizeLine := by
  obtain ⟨ho, h1, h2, h3, h4, arr, ep, h5, h6⟩ := (I.hok p _ hp).1
  obtain ⟨xs, q, e⟩ := enx_of (P := X.prog) h6
  refine ⟨xs, q, ⟨ob, arr, ep, ho, h4, h5, e, fun x hx => ?_, by rw [q.keys]; exact h3⟩, h1, h2⟩
  obtain ⟨i, hi⟩ := List.mem_iff_getElem?.mp hx
  have : ∀ {es : EnL} {xs : XnL} {i : Nat} {x : NestedKey × Addr × Value}, EnX es xs → xs[i]? = some x → ∃ e, es[i]? = some e ∧ e.1 = x.1 ∧ e.2.1 = x.2.1 := by
    intro es xs i x q hi
    induction q generalizing i with
    | nil => simp at hi
    | cons h t ih =>
      cases i with
      | zero => simp at hi; subst hi; exact ⟨_, rfl, h.1, h.2.1⟩
      | succ i => exact ih (i := i) (by simpa using hi)
  obtain ⟨e, e1, e2, e3⟩ := this q hi
  obtain ⟨n1, n2⟩ := hk e (List.mem_of_getElem? e1)
  rw [← e2, ← e3]
  exact ⟨NkV.is I _ _ _ n1 rfl, n2⟩
theorem dn_ok {P : Program} {w : World} {H : Hp} {h : Heap} {xs : XnL} (q : EnX es xs) (hd : (p == sysModules) = false) (hl : es.length ≤ sizeLine) (hm : h.DictOfH (nestedKind P w) p xs) : ∃ ob, ObjOk P w H h p (dnO w p ob es) := by
  obtain ⟨o, arr, ep, ho, hx, hdat, e, _, nd⟩ := hm
  refine ⟨o, ⟨ho, hd, hl, by rw [← q.keys]; exact nd, hx, arr, ep, hdat, by rw [e]; exact of_enx q⟩, ⟨o, ho⟩, fun h1 h2 z k => ⟨k _ z.1, z.2⟩⟩
end
/-! ### k in d, d[k], d.get, d[k] = v, len(d) -/
theorem nk_room {A : Around} (hu : A.units + 64 < cLine) : A.in1.units + 8 < cLine := by
  rw [Around.in1_units]; omega
section
variable {X : Cx}
/-- a key that is asked for -/
def KeyA (K : PySem.W.Frag) (H : Hp) (k : NestedKey) (x : V) : Prop := ∃ b, x = .ref b ∧ NkV K H k x ∧ k.depth ≤ 8
theorem KeyA.is {pins : List (Addr × Obj)} {σ : St} {H : Hp} {s : Shared} {k : NestedKey} {x : V} {v : Value} (I : Inv X pins σ H s) (h : KeyA X.K H k x) (r : RelV x v) : ∃ b, v = .ref b ∧ x = .ref b ∧ (nestedKind X.prog X.w).is s.heap k b := by
  obtain ⟨b, rfl, h1, h2⟩ := h
  cases r
  exact ⟨b, rfl, rfl, NkV.is I _ _ _ h1 rfl, h2⟩
/-- the dict at p -/
def DictN (K : PySem.W.Frag) (w : World) (H : Hp) (p : Addr) (es : EnL) : Prop := ∃ ob, H p = some (dnO w p ob es) ∧ DnK K H es
def rInN (K : PySem.W.Frag) (w : World) (neg : Bool) : R2 := fun x y H Q => ∃ p es k, y = .ref p ∧ DictN K w H p es ∧ KeyA K H k x ∧ Q (.bl (if neg then !(enAt es k).isSome else (enAt es k).isSome)) H
theorem enAt_some {es : EnL} {xs : XnL} {k : NestedKey} (q : EnX es xs) : (atKey xs k).isSome = (enAt es k).isSome := by
  have := q.at_ (k := k)
  cases e : enAt es k with
  | some z => rw [e] at this; obtain ⟨x, h, _⟩ := this; rw [h]; rfl
  | none => rw [e] at this; rw [this]; rfl
theorem op_inN (hu : X.A.units + 64 < cLine) : OpR X (compareOp .In) (rInN X.K X.w false) := by
  intro pins s σ H x y v u Q I rx ry h
  obtain ⟨p, es, k, rfl, ⟨ob, hp, hk⟩, ka, q⟩ := h
  cases ry
  obtain ⟨b, rfl, rfl, ks⟩ := ka.is I rx
  obtain ⟨xs, ex, hm, hd, _⟩ := dn_of I hp hk
  refine wpAny_in_heap (nk_room hu) ks hd hm ?_
  rw [enAt_some ex]
  exact ⟨.bl _, H, I.tok _, rfl, q⟩
theorem op_niN (hu : X.A.units + 64 < cLine) : OpR X (compareOp .NotIn) (rInN X.K X.w true) := by
  intro pins s σ H x y v u Q I rx ry h
  obtain ⟨p, es, k, rfl, ⟨ob, hp, hk⟩, ka, q⟩ := h
  cases ry
  obtain ⟨b, rfl, rfl, ks⟩ := ka.is I rx
  obtain ⟨xs, ex, hm, hd, _⟩ := dn_of I hp hk
  refine notIn_keyed (nk_room hu) ks hd ⟨xs, hm, rfl⟩ ?_
  rw [valueAt_pairsH, Option.isSome_map, enAt_some ex]
  exact ⟨.bl _, H, I.tok _, rfl, q⟩
def rIxN (K : PySem.W.Frag) (w : World) : R2 := fun x y H Q => ∃ p es k a z, x = .ref p ∧ DictN K w H p es ∧ KeyA K H k y ∧ enAt es k = some (a, z) ∧ Q z H
theorem ix_N (hu : X.A.units + 64 < cLine) : IxR X (rIxN X.K X.w) := by
  intro value slice pins s σ H x y v u Q I rx ry h hs
  obtain ⟨p, es, k, a, z, rfl, ⟨ob, hp, hk⟩, ka, e, q⟩ := h
  obtain rfl : v = Value.ref p := rx
  obtain ⟨b, rfl, rfl, ks⟩ := ka.is I ry
  obtain ⟨xs, ex, hm, hd, _⟩ := dn_of I hp hk
  have := ex.at_ (k := k)
  rw [e] at this
  obtain ⟨w, e2, _, rv⟩ := this
  exact tail_any hm.typeIs PySem.F.slot_dict_getitem.lookup (wpAny_getItem_heap (nk_room hu) ks hm e2 ⟨z, H, I.tok _, rv, q⟩) hs
def rGetN (K : PySem.W.Frag) (w : World) : V → List V → Hp → VK → Prop := fun x xs H Q => ∃ p es k y, x = .ref p ∧ DictN K w H p es ∧ KeyA K H k y ∧
  ((xs = [y] ∧ Q (((enAt es k).map (·.2)).getD .non) H) ∨ ∃ z, xs = [y, z] ∧ Q (((enAt es k).map (·.2)).getD z) H)
theorem getD_rel {es : EnL} {xs : XnL} {k : NestedKey} {z : V} {d : Value} (q : EnX es xs) (r : RelV z d) : RelV (((enAt es k).map (·.2)).getD z) ((valueAt (pairsH xs) k).getD d) := by
  rw [valueAt_pairsH]
  have := q.at_ (k := k)
  cases e : enAt es k with
  | some w => rw [e] at this; obtain ⟨x, h, _, rv⟩ := this; rw [h]; exact rv
  | none => rw [e] at this; rw [this]; exact r
theorem mt_getN (hu : X.A.units + 64 < cLine) : MtR X "dict.get" (rGetN X.K X.w) := by
  intro pins s σ H x xs v us Q I rx rs h
  obtain ⟨p, es, k, y, rfl, ⟨ob, hp, hk⟩, ka, ⟨rfl, q⟩ | ⟨z, rfl, q⟩⟩ := h
  · cases rx
    cases rs with
    | cons r1 rs =>
      cases rs
      obtain ⟨b, rfl, rfl, ks⟩ := ka.is I r1
      obtain ⟨xs, ex, hm, hd, _⟩ := dn_of I hp hk
      exact get_keyed (nk_room hu) ks hd ⟨xs, hm, rfl⟩ ⟨_, H, I.tok _, getD_rel (z := .non) (d := Value.none) ex rfl, q⟩
  · cases rx
    cases rs with
    | cons r1 rs =>
      cases rs with
      | cons r2 rs =>
        cases rs
        obtain ⟨b, rfl, rfl, ks⟩ := ka.is I r1
        obtain ⟨xs, ex, hm, hd, _⟩ := dn_of I hp hk
        exact getOr_keyed (nk_room hu) ks hd ⟨xs, hm, rfl⟩ ⟨_, H, I.tok _, getD_rel ex r2, q⟩
def enPut (es : EnL) (k : NestedKey) (b : Addr) (v : V) : EnL := if (enAt es k).isSome = true then es.map (fun e => if e.1 = k then (e.1, e.2.1, v) else e) else es ++ [(k, b, v)]
theorem EnX.mapP {k : NestedKey} {v : V} {u : Value} (r : RelV v u) : ∀ {es : EnL} {xs : XnL}, EnX es xs → EnX (es.map fun e => if e.1 = k then (e.1, e.2.1, v) else e) (xs.map (putAt k u))
  | _, _, .nil => .nil
  | e :: es, x :: xs, .cons ⟨h1, h2, h3⟩ t => by
    refine .cons ?_ (EnX.mapP r t)
    unfold putAt
    dsimp only
    by_cases hk : e.1 = k
    · rw [if_pos hk, if_pos (h1.symm.trans hk)]; exact ⟨h1, h2, r⟩
    · rw [if_neg hk, if_neg (fun z => hk (h1.trans z))]; exact ⟨h1, h2, h3⟩
theorem EnX.app {es es' : EnL} {xs xs' : XnL} (q : EnX es xs) (q' : EnX es' xs') : EnX (es ++ es') (xs ++ xs') := by
  induction q with
  | nil => exact q'
  | cons h t ih => exact .cons h ih
theorem EnX.put {es : EnL} {xs : XnL} {k : NestedKey} {b : Addr} {v : V} {u : Value} (q : EnX es xs) (r : RelV v u) : EnX (enPut es k b v) (storedH xs k b u) := by
  unfold enPut storedH
  rw [enAt_some q]
  split
  · exact q.mapP r
  · exact q.app (.cons ⟨rfl, rfl, r⟩ .nil)
theorem enPut_len {es : EnL} {k : NestedKey} {b : Addr} {v : V} : (enPut es k b v).length ≤ es.length + 1 := by
  unfold enPut
  split <;> simp
def tSetN (K : PySem.W.Frag) (w : World) : TSet := fun o i v H Q => ∃ p es k b, o = .ref p ∧ i = .ref b ∧ DictN K w H p es ∧ KeyA K H k i ∧ es.length < sizeLine ∧ ∀ ob', Q (upd H p (dnO w p ob' (enPut es k b v)))
theorem set_N (hu : X.A.units + 64 < cLine) : PSet X (tSetN X.K X.w) := by
  intro pins s σ H o i v ov iv u Q I r1 r2 r3 h
  obtain ⟨p, es, k, b, rfl, rfl, ⟨ob, hp, hk⟩, ka, hl, q⟩ := h
  cases r1
  obtain ⟨b', rfl, e, ks⟩ := ka.is I r2
  cases e
  obtain ⟨xs, ex, hm, hd, hl'⟩ := dn_of I hp hk
  have hx : xs.length = es.length := by have := congrArg List.length ex.keys; simpa using this
  refine wpAny_setItem_heap (nk_room hu) ks hm (fun h' hm' hs => ?_) (by rw [hx]; exact hl')
  have there : ∃ q, h'.get? p = some q := let ⟨q, _, _, hq, _⟩ := hm'; ⟨q, hq⟩
  obtain ⟨ob', ok⟩ := dn_ok (H := upd H p (.own p)) (ex.put r3) hd (Nat.le_trans enPut_len hl) hm'
  have ok' : ObjOk X.prog X.w (upd H p (dnO X.w p ob' (enPut es k b v))) h' p (dnO X.w p ob' (enPut es k b v)) := ok
  exact ⟨_, d_write I (by rw [hp]; exact True.intro) hs there ok', q ob'⟩
def rLenN (K : PySem.W.Frag) (w : World) : List V → Hp → VK → Prop := fun xs H Q => ∃ p es, xs = [.ref p] ∧ DictN K w H p es ∧ Q (.int ((es.length : Nat) : Int)) H
theorem call_lenN : CallR X (.builtin "len") (rLenN X.K X.w) := by
  intro pins s σ H xs us Q I r h
  obtain ⟨p, es, rfl, ⟨ob, hp, hk⟩, q⟩ := h
  obtain ⟨u, rfl, rx⟩ := vals1 r
  obtain rfl : u = .ref p := rx
  obtain ⟨xs, ex, hm, hd, hl⟩ := dn_of I hp hk
  have hx : xs.length = es.length := by have := congrArg List.length ex.keys; simpa using this
  refine call_len_dictH hd hm (by rw [hx]; rw [sizeLine_eq] at hl; omega) ?_
  rw [hx]
  exact ⟨.int ((es.length : Nat) : Int), H, I.tok _, ⟨_, rfl⟩, q⟩
/-! ### {}, {k: v} -/
theorem dn_empty {P : Program} {w : World} {H : Hp} (h : Heap) (hb : sysModules < h.objs.size) : ObjOk P w H (h.push { cls := .type "dict", data := .dict #[] }) h.objs.size (dnO w h.objs.size { cls := .type "dict", data := .dict #[] } []) := by
  have there : (h.push { cls := .type "dict", data := .dict #[] }).get? h.objs.size = some { cls := .type "dict", data := .dict #[] } := Heap.get?_push_size _ rfl
  exact ⟨⟨there, beq_eq_false_iff_ne.mpr (Nat.ne_of_gt hb), Nat.zero_le _, List.nodup_nil, ⟨rfl, rfl, rfl⟩, #[], 0, rfl, .nil⟩, ⟨_, there⟩, fun h1 h2 z k => ⟨k _ z.1, z.2⟩⟩
theorem pe_dictN0 {pos : Pos} : PE X (.Dict [] [] pos) (fun σ H Q => ∀ p ob, H p = none → Q (.ref p) (upd H p (dnO X.w p ob []))) := ⟨fun pins s σ H Q I h =>
  wpAny_Dict_empty ⟨.ref s.heap.objs.size, _, I.laid (a := s.heap.objs.size) (t' := s.toks) (fun _ _ q => Heap.get?_push_of_some _ q) (Nat.le_refl _) (dn_empty s.heap I.big), rfl, h _ _ (I.hok.fresh (Nat.le_refl _))⟩⟩
def tDictN1 (w : World) (K : PySem.W.Frag) (tk tv : TE) : TE := fun σ H Q => ∀ p ob, H p = none → tk σ (upd H p (dnO w p ob [])) fun x H1 => tv σ H1 fun y H2 => H2 p = some (dnO w p ob []) ∧ ∃ k b, x = .ref b ∧ KeyA K H2 k x ∧ ∀ ob', Q (.ref p) (upd H2 p (dnO w p ob' [(k, b, y)]))
theorem pe_dictN1 {k v : Expr} {tk tv : TE} {pos : Pos} (hu : X.A.units + 64 < cLine) (hk : PE X k tk) (hv : PE X v tv) : PE X (.Dict [some k] [v] pos) (tDictN1 X.w X.K tk tv) := by
  constructor
  intro pins s σ H Q I h
  have hn := I.hok.fresh (Nat.le_refl s.heap.objs.size)
  have I1 := I.laid (a := s.heap.objs.size) (t' := s.toks) (fun _ _ q => Heap.get?_push_of_some _ q) (Nat.le_refl _) (dn_empty (P := X.prog) (w := X.w) (H := upd H s.heap.objs.size (dnO X.w s.heap.objs.size { cls := .type "dict", data := .dict #[] } [])) s.heap I.big)
  have sh := zip_pairTrees [some k] [v] X.env pos rfl rfl
  rw [arm_eval_Dict, sh, dictDisplay_pairs _ (by exact List.cons_ne_nil _ _) (by show (1 : Nat) < 17; decide)]
  refine wpAny_bind (wpAny_standAt (wpAny_bind (wpAny_subDictH (knd := nestedKind X.prog X.w) (by have := hu; show X.A.units + 8 < cLine; omega) (by show (1 : Nat) ≤ 15; decide) ?_)))
  refine pairTrees_cons_walk (thn (hk.run pins _ σ _ _ I1 (h _ _ hn)) ?_)
  rintro u s1 ⟨x, H1, J1, r1, q1⟩
  refine thn (hv.run pins s1 σ H1 _ J1 q1) ?_
  rintro w2 s2 ⟨y, H2, J2, r2, hp, key, b, rfl, ka, q2⟩
  refine pairTrees_nil_walk ?_
  obtain ⟨b', rfl, e, ks⟩ := ka.is J2 r1
  cases e
  obtain ⟨xs, ex, hm, hd, _⟩ := dn_of J2 hp (fun e he => by simp at he)
  cases ex
  refine ⟨[(key, b, w2)], ⟨rfl, rfl, ks, trivial⟩, hm, fun h' tk' hm' hs => wpAny_pure ?_⟩
  have there : ∃ q, h'.get? s.heap.objs.size = some q := let ⟨q, _, _, hq, _⟩ := hm'; ⟨q, hq⟩
  have en : EnX [(key, b, y)] (storedAllH [] [(key, b, w2)]) := .cons ⟨rfl, rfl, r2⟩ .nil
  obtain ⟨ob', ok⟩ := dn_ok (H := upd H2 s.heap.objs.size (.own 0)) en hd (by show 1 ≤ sizeLine; decide) hm'
  have ok' : ObjOk X.prog X.w (upd H2 s.heap.objs.size (dnO X.w s.heap.objs.size ob' [(key, b, y)])) h' s.heap.objs.size (dnO X.w s.heap.objs.size ob' [(key, b, y)]) := ok
  exact ⟨.ref s.heap.objs.size, _, d_write J2 (by rw [hp]; exact True.intro) hs there ok', rfl, q2 ob'⟩
/-! ### for k in d -/
def ItN (w : World) (p : Addr) (ob : Obj) (es : EnL) : It where
  go := fun i H => H p = some (dnO w p ob es) ∧ i < es.length
  yld := fun i H v H' => H' = H ∧ ∃ e, es[i]? = some e ∧ v = .ref e.2.1
  stop := fun i H => H p = some (dnO w p ob es) ∧ i = es.length
theorem Paired.get_r {α β : Type} {F : α → β → Prop} : ∀ {as : List α} {bs : List β} {i : Nat} {b : β}, Paired F as bs → bs[i]? = some b → ∃ a, as[i]? = some a ∧ F a b
  | _, _, _, _, .nil, e => by simp at e
  | _, _, 0, _, .cons r _, e => by simp at e; subst e; exact ⟨_, rfl, r⟩
  | _, _, i + 1, _, .cons _ t, e => by
    obtain ⟨a, h1, h2⟩ := Paired.get_r (i := i) t (by simpa using e)
    exact ⟨a, by simpa using h1, h2⟩
theorem turn_N {P : Program} {w : World} {K : PySem.W.Frag} {tg : Expr} {p it ep : Addr} {ob : Obj} {es : EnL} {arr : Array DictEntry} (hne : p ≠ it) (hdat : ob.data = .dict arr ep) (hex : ob.ExactDict)
    (hpr : Paired (fun (e : NestedKey × Addr × V) (x : DictEntry) => x.hash = e.1.hash w ∧ x.key = .ref e.2.1 ∧ RelV e.2.2 x.val) es arr.toList) :
    Turn P w K tg (ItN w p ob es) [it] it (fun i h => h.IsKeyIter it p i arr.size ep) where
  mem := by simp
  obj := fun i h st b hb => by
    obtain rfl : b = it := by simpa using hb
    obtain ⟨o, ho, hc, hd⟩ := st
    exact ⟨o, ho, fun v q => by rw [hd] at q; cases q⟩
  keep := fun i h h' st k => st.at fun o e => k it (by simp) o e
  item := by
    rintro X rfl rfl rfl hc i pins s σ H E I hf st ⟨hp, hi⟩
    obtain ⟨ho, _⟩ := (I.hok p _ hp).1
    have hl : arr.size = es.length := by have := Paired.length hpr; simpa using this.symm
    have raw : s.heap.DictRaw p arr ep := ⟨ob, ho, hex, hdat⟩
    have hi' : i < arr.size := by omega
    refine wpAny_pyNext_keys_item_raw st raw hi' fun h' st' sb => ?_
    obtain ⟨e, e1, _, e2, _⟩ := Paired.get_r hpr (show arr.toList[i]? = some arr[i] by rw [Array.getElem?_toList]; simp [hi'])
    obtain ⟨f0, f1, f2, f3, f4, f5⟩ := hf it (by simp)
    have J : Inv X pins σ H { s with heap := h' } := I.turned (t' := s.toks) (fun b o hb q => (sb.2 b hb).trans q) f0 f1 f3 f4 f5
    obtain ⟨io, hio, hic, hid⟩ := st'
    refine ⟨_, rfl, go_of hio hic hid (by decide) ?_⟩
    rw [e2]
    exact ⟨.ref e.2.1, H, J, rfl, ⟨rfl, e, e1, rfl⟩, ⟨io, hio, hic, hid⟩, fun b hb => (hf b hb).1⟩
  done := by
    rintro X rfl rfl rfl hc i pins s σ H E I hf st ⟨hp, hi⟩
    obtain ⟨ho, _⟩ := (I.hok p _ hp).1
    have hl : arr.size = es.length := by have := Paired.length hpr; simpa using this.symm
    have raw : s.heap.DictRaw p arr ep := ⟨ob, ho, hex, hdat⟩
    obtain ⟨f0, f1, f2, f3, f4, f5⟩ := hf it (by simp)
    refine wpAny_pyNext_keys_end_raw (I.ok.hd hc) st raw (by omega) fun h' eb => ⟨rfl, I.turned (t' := s.toks) (fun b o hb q => eb b o hb q) f0 f1 f3 f4 f5⟩
  self := fun A i s Q E st h => wpAny_pyIter_keyiter st h
def iNest (K : PySem.W.Frag) (w : World) (te : TE) : TI := fun σ H R => te σ H fun v H1 => ∃ p ob es, v = .ref p ∧ H1 p = some (dnO w p ob es) ∧ R (ItN w p ob es) H1
theorem pi_N {tg e : Expr} {te : TE} (he : PE X e te) : PI X tg e (iNest X.K X.w te) := by
  constructor
  intro pins s σ H R I h
  refine thn (he.run pins s σ H _ I h) ?_
  rintro v s1 ⟨x, H1, I1, r1, p, ob, es, rfl, hp, q⟩
  cases r1
  obtain ⟨ho, h1, h2, h3, h4, arr, ep, h5, h6⟩ := (I1.hok p _ hp).1
  have raw : s1.heap.DictRaw p arr ep := ⟨ob, ho, h4, h5⟩
  refine wpAny_pyIter_dict_raw h1 raw ?_
  have J : Inv X pins σ H1 { s1 with heap := s1.heap.push { cls := .type "dict_keyiterator", data := .fields #[.ref p, .int 0 0, .int arr.size 0, .int ep 0] } } := I1.kept (t' := s1.toks) fun b o q => Heap.get?_push_of_some _ q
  refine ⟨s1.heap.objs.size, [s1.heap.objs.size], _, ItN X.w p ob es, H1, rfl, J, turn_N (Nat.ne_of_lt (Heap.lt_size ho)) h5 h4 h6, ⟨_, Heap.get?_push_size _ rfl, rfl, rfl⟩, fun b hb => ?_, q⟩
  obtain rfl : b = s1.heap.objs.size := by simpa using hb
  exact I1.fpOk (Nat.le_refl _) (I1.hok.fresh (Nat.le_refl _))
/-! ### list(d) -/
def rListN (w : World) : List V → Hp → VK → Prop := fun xs H Q => ∃ p ob es, xs = [.ref p] ∧ H p = some (dnO w p ob es) ∧ ∀ l, H l = none → Q (.ref l) (upd H l (.lst (es.map fun e => .ref e.2.1)))
theorem keys_vals {w : World} {es : EnL} {arr : Array DictEntry} {acc : Array Value} (hpr : Paired (fun (e : NestedKey × Addr × V) (x : DictEntry) => x.hash = e.1.hash w ∧ x.key = .ref e.2.1 ∧ RelV e.2.2 x.val) es arr.toList)
    (h : PySem.ItemsOf (fun i v => ∃ hi : i < arr.size, v = arr[i].key) acc arr.size) : Vals (es.map fun e => V.ref e.2.1) acc.toList := by
  have hk : acc.toList = es.map fun e => Value.ref e.2.1 := by
    have hl : es.length = arr.size := by have := Paired.length hpr; simpa using this
    apply List.ext_getElem?
    intro i
    by_cases hi : i < arr.size
    · have ha : i < acc.size := by rw [h.1]; exact hi
      obtain ⟨hi', ev⟩ := h.2 i acc[i] (by simp [ha])
      obtain ⟨e, e1, _, e2, _⟩ := Paired.get_r hpr (show arr.toList[i]? = some arr[i] by rw [Array.getElem?_toList]; simp [hi])
      rw [List.getElem?_map, e1, Array.getElem?_toList]
      simp [ha, ev, e2]
    · rw [List.getElem?_eq_none (by rw [Array.length_toList, h.1]; omega), List.getElem?_eq_none (by rw [List.length_map]; omega)]
  rw [hk]
  clear hk h hpr
  induction es with
  | nil => exact .nil
  | cons e es ih => exact .cons rfl ih
theorem call_listN (hc : X.calm = true) : CallR X (.type "list") (rListN X.w) := by
  intro pins s σ H xs us Q I r h
  obtain ⟨p, ob, es, rfl, hp, q⟩ := h
  obtain ⟨u, rfl, rx⟩ := vals1 r
  obtain rfl : u = .ref p := rx
  obtain ⟨ho, h1, h2, h3, h4, arr, ep, h5, h6⟩ := (I.hok p _ hp).1
  have raw : s.heap.DictRaw p arr ep := ⟨ob, ho, h4, h5⟩
  have hl : arr.size = es.length := by have := Paired.length h6; simpa using this.symm
  refine PySem.W.kdl_call (KdlSrc.rawDict h1) (I.ok.hd hc) raw (by omega) fun h' tk acc c hk hS hacc => ?_
  exact ⟨.ref _, _, I.laid (a := s.heap.objs.size) (t' := tk) (o := .lst (es.map fun e => .ref e.2.1)) hk (Nat.le_refl _) ⟨by rw [List.length_map]; exact h2, acc.toList, c, keys_vals h6 hacc, by simpa using hS⟩, rfl, q _ (I.hok.fresh (Nat.le_refl _))⟩
end
end L2.AL
/-! A3: operators by content. -/
namespace L2.AL
open PySem PySem.Spec PyProof.Rows
section
variable {B : Bk} {G H : Hp}
theorem tz_non {u : V} (h : Tz B G H u .non) : u = .non := by simpa [Tz, Fz] using h
theorem tz_int {u : V} {i : Int} (h : Tz B G H u (.int i)) : u = .int i := by simpa [Tz, Fz] using h
theorem tz_bl {u : V} {i : Bool} (h : Tz B G H u (.bl i)) : u = .bl i := by simpa [Tz, Fz] using h
theorem tz_str {u : V} {i : Str} (h : Tz B G H u (.str i)) : u = .str i := by simpa [Tz, Fz] using h
theorem tz_tup {u : V} {ds : List D} (h : Tz B G H u (.tup ds)) : ∃ a xs, u = .ref a ∧ SqT B.K G a xs ∧ FzL B G xs ds := by
  have h : Fz B G u (.tup ds) := h
  rw [Fz] at h
  exact h
theorem fz_non : Fz B G .non .non := by rw [Fz]
theorem fz_int (i : Int) : Fz B G (.int i) (.int i) := by rw [Fz]
theorem fz_bl (i : Bool) : Fz B G (.bl i) (.bl i) := by rw [Fz]
theorem fz_str (i : Str) : Fz B G (.str i) (.str i) := by rw [Fz]
end
abbrev eInt (i : Int) : E := .d (.int i)
abbrev eBl (b : Bool) : E := .d (.bl b)
abbrev eStr (x : Str) : E := .d (.str x)
/-! ### arithmetic -/
def gAdd : D → D → Option E
  | .int i, .int j => some (eInt (i + j))
  | .str x, .str y => if x.length + y.length ≤ sizeLine then some (eStr (x ++ y)) else none
  | .lst x, .lst y => if x.length + y.length ≤ sizeLine then some (.fr (.lst (x ++ y))) else none
  | .tup x, .tup y => if x.length + y.length ≤ sizeLine then some (.d (.tup (x ++ y))) else none
  | _, _ => none
def gSub : D → D → Option E
  | .int i, .int j => some (eInt (i - j))
  | _, _ => none
def gMul : D → D → Option E
  | .int i, .int j => if i.natAbs.log2 + j.natAbs.log2 < 1000000 then some (eInt (i * j)) else none
  | _, _ => none
def gMod : D → D → Option E
  | .int i, .int j => if 0 < j then some (eInt (i % j)) else none
  | _, _ => none
def gDiv : D → D → Option E
  | .int i, .int j => if 0 < j ∧ j.natAbs.log2 < 9000 then some (eInt (i / j)) else none
  | _, _ => none
def gPow : D → D → Option E
  | .int i, .int j => if 0 ≤ j ∧ (Builtin.Int.intBits i : Int) * j ≤ 2 ^ 27 then some (eInt (i ^ j.toNat)) else none
  | _, _ => none
section
variable {X : Cx}
theorem op_powB : OpR X (binaryOp .Pow) (rI (fun i j => 0 ≤ j ∧ (Builtin.Int.intBits i : Int) * j ≤ 2 ^ 27) fun i j => .int (i ^ j.toNat)) := opI fun _ _ _ _ _ _ _ hc q => PyProof.Rows.pow_int hc.1 hc.2 q
end
section
variable {B : Bk}
theorem rI0_snd {g : D → D → Option E} {f : Int → Int → Int} (hg : ∀ x y v, g x y = some v → ∃ i j, x = .int i ∧ y = .int j ∧ v = eInt (f i j)) : Snd2 B g (rI0 fun i j => .int (f i j)) := by
  intro x y v a b G H Q e s hx hy q
  obtain ⟨i, j, rfl, rfl, rfl⟩ := hg x y v e
  exact ⟨i, j, tz_int hx, tz_int hy, q _ _ _ (.scalar s (fz_int _))⟩
theorem rI_snd {g : D → D → Option E} {C : Int → Int → Prop} {f : Int → Int → Int} (hg : ∀ x y v, g x y = some v → ∃ i j, x = .int i ∧ y = .int j ∧ C i j ∧ v = eInt (f i j)) : Snd2 B g (rI C fun i j => .int (f i j)) := by
  intro x y v a b G H Q e s hx hy q
  obtain ⟨i, j, rfl, rfl, c, rfl⟩ := hg x y v e
  exact ⟨i, j, tz_int hx, tz_int hy, c, q _ _ _ (.scalar s (fz_int _))⟩
theorem sub_snd : Snd2 B gSub (rI0 fun i j => .int (i - j)) := rI0_snd fun x y v e => by
  cases x <;> cases y <;> simp [gSub] at e
  exact ⟨_, _, rfl, rfl, e.symm⟩
theorem mul_snd : Snd2 B gMul (rI CMulW fun i j => .int (i * j)) := rI_snd fun x y v e => by
  cases x <;> cases y <;> simp [gMul] at e
  exact ⟨_, _, rfl, rfl, e.1, e.2.symm⟩
theorem mod_snd : Snd2 B gMod (rI (fun _ j => 0 < j) fun i j => .int (i % j)) := rI_snd fun x y v e => by
  cases x <;> cases y <;> simp [gMod] at e
  exact ⟨_, _, rfl, rfl, e.1, e.2.symm⟩
theorem div_snd : Snd2 B gDiv (rI CDivW fun i j => .int (i / j)) := rI_snd fun x y v e => by
  cases x <;> cases y <;> simp [gDiv] at e
  exact ⟨_, _, rfl, rfl, e.1, e.2.symm⟩
theorem pow_snd : Snd2 B gPow (rI (fun i j => 0 ≤ j ∧ (Builtin.Int.intBits i : Int) * j ≤ 2 ^ 27) fun i j => .int (i ^ j.toNat)) := rI_snd fun x y v e => by
  cases x <;> cases y <;> simp [gPow] at e
  exact ⟨_, _, rfl, rfl, e.1, e.2.symm⟩
abbrev rAddA (K : PySem.W.Frag) : R2 := fun x y H Q => ((rI0 fun i j => .int (i + j)) x y H Q ∨ (∃ i j, x = .str i ∧ y = .str j ∧ i.length + j.length ≤ sizeLine ∧ Q (.str (i ++ j)) H)) ∨ (rCat x y H Q ∨ rCatA K x y H Q)
theorem op_addA {X : Cx} : OpR X (binaryOp .Add) (rAddA X.K) := (op_add.or op_add_str).or (op_cat.or op_catA)
theorem add_snd : Snd2 B gAdd (rAddA B.K) := by
  intro x y v a b G H Q e s hx hy q
  cases x <;> cases y <;> simp [gAdd] at e
  · subst e
    exact .inl (.inl ⟨_, _, tz_int hx, tz_int hy, q _ _ _ (.scalar s (fz_int _))⟩)
  · obtain ⟨h, rfl⟩ := e
    exact .inl (.inr ⟨_, _, tz_str hx, tz_str hy, h, q _ _ _ (.scalar s (fz_str _))⟩)
  · rename_i ds es
    obtain ⟨h, rfl⟩ := e
    obtain ⟨p, xs, rfl, h1, r1⟩ := tz_tup hx
    obtain ⟨p', ys, rfl, h2, r2⟩ := tz_tup hy
    have l1 := r1.length
    have l2 := r2.length
    refine .inr (.inr ⟨p, p', xs, ys, rfl, rfl, Same.sqt s h1, Same.sqt s h2, by omega, fun e => ?_, fun e e' => ?_, fun e e' r hr => q _ _ _ (.tup s hr (r1.append r2))⟩)
    · subst e
      have : ds = [] := List.length_eq_zero_iff.mp (by simpa using l1.symm)
      subst this
      exact q _ _ _ (.scalar s hy)
    · subst e'
      have : es = [] := List.length_eq_zero_iff.mp (by simpa using l2.symm)
      subst this
      exact q _ _ _ (.scalar s (by rw [List.append_nil]; exact hx))
  · rename_i ds es
    obtain ⟨h, rfl⟩ := e
    obtain ⟨p, xs, rfl, h1, r1⟩ := hx
    obtain ⟨p', ys, rfl, h2, r2⟩ := hy
    have l1 := r1.length
    have l2 := r2.length
    exact .inr (.inl ⟨p, p', xs, ys, rfl, rfl, h1, h2, by omega, fun r hr => q _ _ _ (.own s hr ⟨_, rfl, r1.append r2⟩)⟩)
/-! ### == of contents -/
mutual
def D.py : D → Option PyData
  | .non => some .none
  | .bl b => some (.bool b)
  | .int i => some (.int i)
  | .str x => some (.str x)
  | .tup xs => (D.pyL xs).map .tuple
  | .lst xs => (D.pyL xs).map .list
  | .dct _ => none
  | .fn _ => none
  | .ty _ => none
  | .scr _ => none
  | .cd _ => none
  | .dd _ => none
  | .ins _ _ => none
  | .raw _ => none
def D.pyL : List D → Option (List PyData)
  | [] => some []
  | x :: xs => match D.py x, D.pyL xs with
    | some a, some as => some (a :: as)
    | _, _ => none
end
mutual
theorem dp_of {G : Hp} : ∀ (x : D) (u : V) (p : PyData), x.py = some p → Fz B G u x → Dp B.K G u p
  | .non, u, p, e, h => by rw [D.py] at e; cases e; rw [Fz] at h; subst h; exact .non
  | .bl b, u, p, e, h => by rw [D.py] at e; cases e; rw [Fz] at h; subst h; exact .bl b
  | .int i, u, p, e, h => by rw [D.py] at e; cases e; rw [Fz] at h; subst h; exact .int i
  | .str x, u, p, e, h => by rw [D.py] at e; cases e; rw [Fz] at h; subst h; exact .str x
  | .tup xs, u, p, e, h => by
    rw [D.py] at e
    obtain ⟨ps, e1, rfl⟩ := Option.map_eq_some_iff.mp e
    rw [Fz] at h
    obtain ⟨a, vs, rfl, h1, h2⟩ := h
    exact .tup h1 (dpL_of xs vs ps e1 h2)
  | .lst xs, u, p, e, h => by
    rw [D.py] at e
    obtain ⟨ps, e1, rfl⟩ := Option.map_eq_some_iff.mp e
    rw [Fz] at h
    obtain ⟨a, vs, rfl, h1, h2⟩ := h
    exact .lst (SqL.of h1) (dpL_of xs vs ps e1 h2)
  | .dct _, _, _, e, _ => by rw [D.py] at e; cases e
  | .fn _, _, _, e, _ => by rw [D.py] at e; cases e
  | .ty _, _, _, e, _ => by rw [D.py] at e; cases e
  | .scr _, _, _, e, _ => by rw [D.py] at e; cases e
  | .cd _, _, _, e, _ => by rw [D.py] at e; cases e
  | .dd _, _, _, e, _ => by rw [D.py] at e; cases e
  | .ins _ _, _, _, e, _ => by rw [D.py] at e; cases e
  | .raw _, _, _, e, _ => by rw [D.py] at e; cases e
theorem dpL_of {G : Hp} : ∀ (xs : List D) (us : List V) (ps : List PyData), D.pyL xs = some ps → FzL B G us xs → DpAll B.K G us ps
  | [], [], ps, e, h => by rw [D.pyL] at e; cases e; exact .nil
  | [], _ :: _, _, _, h => by rw [FzL] at h; exact h.elim
  | _ :: _, [], _, _, h => by rw [FzL] at h; exact h.elim
  | x :: xs, u :: us, ps, e, h => by
    rw [FzL] at h
    rw [D.pyL] at e
    split at e
    · rename_i a as e1 e2
      cases e
      exact .cons (dp_of x u a e1 h.1) (dpL_of xs us as e2 h.2)
    · cases e
end
/-- == -/
def D.eq? (x y : D) : Option Bool := match x, y with
  | .int i, .int j => some (i == j)
  | .str i, .str j => some (i == j)
  | .bl i, .bl j => some (i == j)
  | x, y => match x.py, y.py with
    | some a, some b => if SeqAt.shaped a = true ∧ SeqAt.shaped b = true then some (PyData.eqv a b) else none
    | _, _ => none
def gEq (x y : D) : Option E := (x.eq? y).map eBl
def gNe (x y : D) : Option E := (x.eq? y).map fun b => eBl (!b)
theorem dec_beq {α : Type} [DecidableEq α] (i j : α) : decide (i = j) = (i == j) := by
  rw [Bool.eq_iff_iff]; simp
theorem eq_cases {x y : D} {b : Bool} (h : x.eq? y = some b) : (∃ i j, x = .int i ∧ y = .int j ∧ b = (i == j)) ∨ (∃ i j, x = .str i ∧ y = .str j ∧ b = (i == j)) ∨ (∃ i j, x = .bl i ∧ y = .bl j ∧ b = (i == j)) ∨
    ∃ p q, x.py = some p ∧ y.py = some q ∧ SeqAt.shaped p = true ∧ SeqAt.shaped q = true ∧ b = PyData.eqv p q := by
  unfold D.eq? at h
  split at h
  · cases h; exact .inl ⟨_, _, rfl, rfl, rfl⟩
  · cases h; exact .inr (.inl ⟨_, _, rfl, rfl, rfl⟩)
  · cases h; exact .inr (.inr (.inl ⟨_, _, rfl, rfl, rfl⟩))
  · split at h
    · rename_i p q e1 e2
      split at h
      · rename_i hs
        cases h
        exact .inr (.inr (.inr ⟨p, q, e1, e2, hs.1, hs.2, rfl⟩))
      · cases h
    · cases h
abbrev rEqA (K : PySem.W.Frag) : R2 := fun x y H Q => rEq x y H Q ∨ rEqD K x y H Q
abbrev rNeA (K : PySem.W.Frag) : R2 := fun x y H Q => rNe x y H Q ∨ rNeD K x y H Q
theorem op_eqA {X : Cx} (hu : X.A.units + 64 < cLine) : OpR X (compareOp .Eq) (rEqA X.K) := op_eq.or (op_eqD hu)
theorem op_neA {X : Cx} (hu : X.A.units + 64 < cLine) : OpR X (compareOp .NotEq) (rNeA X.K) := op_ne.or (op_neD hu)
theorem eq_snd : Snd2 B gEq (rEqA B.K) := by
  intro x y v a b G H Q e s hx hy q
  obtain ⟨k, e1, rfl⟩ := Option.map_eq_some_iff.mp e
  have fin := q _ _ _ (.scalar s (fz_bl k))
  rcases eq_cases e1 with ⟨i, j, rfl, rfl, rfl⟩ | ⟨i, j, rfl, rfl, rfl⟩ | ⟨i, j, rfl, rfl, rfl⟩ | ⟨p, r, e2, e3, s1, s2, rfl⟩
  · rw [tz_int hx, tz_int hy]; exact .inl ⟨rfl, by rw [dec_int]; exact fin⟩
  · rw [tz_str hx, tz_str hy]; exact .inl ⟨rfl, by rw [dec_str]; exact fin⟩
  · rw [tz_bl hx, tz_bl hy]; exact .inl ⟨rfl, by rw [dec_bl]; exact fin⟩
  · exact .inr ⟨p, r, dp_of _ _ _ e2 (hx.fz s), dp_of _ _ _ e3 (hy.fz s), s1, s2, fin⟩
theorem ne_snd : Snd2 B gNe (rNeA B.K) := by
  intro x y v a b G H Q e s hx hy q
  obtain ⟨k, e1, rfl⟩ := Option.map_eq_some_iff.mp e
  have fin := q _ _ _ (.scalar s (fz_bl (!k)))
  rcases eq_cases e1 with ⟨i, j, rfl, rfl, rfl⟩ | ⟨i, j, rfl, rfl, rfl⟩ | ⟨i, j, rfl, rfl, rfl⟩ | ⟨p, r, e2, e3, s1, s2, rfl⟩
  · rw [tz_int hx, tz_int hy]; exact .inl ⟨rfl, by rw [dec_int]; exact fin⟩
  · rw [tz_str hx, tz_str hy]; exact .inl ⟨rfl, by rw [dec_str]; exact fin⟩
  · rw [tz_bl hx, tz_bl hy]; exact .inl ⟨rfl, by rw [dec_bl]; exact fin⟩
  · exact .inr ⟨p, r, dp_of _ _ _ e2 (hx.fz s), dp_of _ _ _ e3 (hy.fz s), s1, s2, fin⟩
/-! ### order -/
def gLt : D → D → Option E
  | .int i, .int j => some (eBl (decide (i < j)))
  | .str i, .str j => some (eBl (decide (i.cps.toList < j.cps.toList)))
  | _, _ => none
def gLe : D → D → Option E
  | .int i, .int j => some (eBl (decide (i ≤ j)))
  | .str i, .str j => some (eBl (!decide (j.cps.toList < i.cps.toList)))
  | _, _ => none
def gGt : D → D → Option E
  | .int i, .int j => some (eBl (decide (j < i)))
  | _, _ => none
def gGe : D → D → Option E
  | .int i, .int j => some (eBl (decide (j ≤ i)))
  | _, _ => none
theorem gt_snd : Snd2 B gGt (rI0 fun i j => .bl (decide (j < i))) := by
  intro x y v a b G H Q e s hx hy q
  cases x <;> cases y <;> simp [gGt] at e
  subst e
  exact ⟨_, _, tz_int hx, tz_int hy, q _ _ _ (.scalar s (fz_bl _))⟩
theorem ge_snd : Snd2 B gGe (rI0 fun i j => .bl (decide (j ≤ i))) := by
  intro x y v a b G H Q e s hx hy q
  cases x <;> cases y <;> simp [gGe] at e
  subst e
  exact ⟨_, _, tz_int hx, tz_int hy, q _ _ _ (.scalar s (fz_bl _))⟩
abbrev rLtA : R2 := fun x y H Q => (rI0 fun i j => .bl (decide (i < j))) x y H Q ∨ (∃ i j, x = .str i ∧ y = .str j ∧ Q (.bl (decide (i.cps.toList < j.cps.toList))) H)
theorem op_ltA {X : Cx} : OpR X (compareOp .Lt) rLtA := op_lt.or op_lt_str
theorem lt_snd : Snd2 B gLt rLtA := by
  intro x y v a b G H Q e s hx hy q
  cases x <;> cases y <;> simp only [gLt, Option.some.injEq, reduceCtorEq] at e
  · subst e; exact .inl ⟨_, _, tz_int hx, tz_int hy, q _ _ _ (.scalar s (fz_bl _))⟩
  · subst e; exact .inr ⟨_, _, tz_str hx, tz_str hy, q _ _ _ (.scalar s (fz_bl _))⟩
abbrev rLeA : R2 := fun x y H Q => (rI0 fun i j => .bl (decide (i ≤ j))) x y H Q ∨ (∃ i j, x = .str i ∧ y = .str j ∧ Q (.bl (!decide (j.cps.toList < i.cps.toList))) H)
theorem op_leA {X : Cx} : OpR X (compareOp .LtE) rLeA := op_le.or op_le_str
theorem le_snd : Snd2 B gLe rLeA := by
  intro x y v a b G H Q e s hx hy q
  cases x <;> cases y <;> simp only [gLe, Option.some.injEq, reduceCtorEq] at e
  · subst e; exact .inl ⟨_, _, tz_int hx, tz_int hy, q _ _ _ (.scalar s (fz_bl _))⟩
  · subst e; exact .inr ⟨_, _, tz_str hx, tz_str hy, q _ _ _ (.scalar s (fz_bl _))⟩
/-! ### in -/
def D.flat : D → Bool
  | .non => true
  | .bl _ => true
  | .int _ => true
  | .str _ => true
  | _ => false
/-- == of flat contents -/
def D.eqf : D → D → Bool
  | .non, .non => true
  | .bl a, .bl b => a == b
  | .bl a, .int b => (if a then 1 else 0) == b
  | .int a, .bl b => a == (if b then 1 else 0)
  | .int a, .int b => a == b
  | .str a, .str b => a == b
  | _, _ => false
def D.inF (x : D) (xs : List D) : Bool := xs.any fun y => D.eqf y x
def D.key? : D → Option Key
  | .int i => some (.inl i)
  | .str x => some (.inr x)
  | _ => none
def kget (kvs : List (Key × D)) (k : Key) : Option D := (kvs.find? fun kv => decide (kv.1 = k)).map (·.2)
/-- a content as a key of a dict whose keys are tuples -/
def D.keyN? : D → Option NestedKey
  | .tup xs => (D.nkL xs).bind fun ks => if NestedKey.depthAll ks + 1 ≤ 8 then some (.tup ks) else none
  | _ => none
def dget (kvs : List (D × D)) (k : NestedKey) : Option D := (kvs.find? fun kv => decide (kv.1.nk? = some k)).map (·.2)
def D.in? : D → D → Option Bool
  | .str c, .str z => match c.cps.toList with
    | [k] => some (decide (k ∈ z.cps.toList))
    | _ => none
  | x, .lst ys => if x.flat = true ∧ ys.all D.flat = true then some (x.inF ys) else none
  | x, .tup ys => if x.flat = true ∧ ys.all D.flat = true then some (x.inF ys) else none
  | x, .dct kvs => x.key?.map fun k => (kget kvs k).isSome
  | .str z, .cd kvs => some (kvs.lookup z).isSome
  | x, .dd kvs => x.keyN?.map fun k => (dget kvs k).isSome
  | _, _ => none
def gIn (x y : D) : Option E := (x.in? y).map eBl
def gNi (x y : D) : Option E := (x.in? y).map fun b => eBl (!b)
theorem flat_v {G : Hp} {x : D} {u : V} (h : Fz B G u x) (f : x.flat = true) : flatV u = true := by
  cases x <;> simp [D.flat] at f <;> rw [Fz] at h <;> subst h <;> rfl
theorem flats_v {G : Hp} : ∀ {ds : List D} {us : List V}, FzL B G us ds → ds.all D.flat = true → us.all flatV = true
  | [], [], _, _ => rfl
  | [], _ :: _, h, _ => by rw [FzL] at h; exact h.elim
  | _ :: _, [], h, _ => by rw [FzL] at h; exact h.elim
  | d :: ds, u :: us, h, f => by
    rw [FzL] at h
    rw [List.all_cons, Bool.and_eq_true] at f ⊢
    exact ⟨flat_v h.1 f.1, flats_v h.2 f.2⟩
theorem eqf_v {G : Hp} {x y : D} {u v : V} (h : Fz B G u x) (h' : Fz B G v y) (f : x.flat = true) (f' : y.flat = true) : eqV u v = x.eqf y := by
  cases x <;> simp [D.flat] at f <;> rw [Fz] at h <;> subst h <;> cases y <;> simp [D.flat] at f' <;> rw [Fz] at h' <;> subst h' <;> rfl
theorem inF_v {G : Hp} {x : D} {v : V} (h : Fz B G v x) (f : x.flat = true) : ∀ {ds : List D} {us : List V}, FzL B G us ds → ds.all D.flat = true → inV v us = x.inF ds
  | [], [], _, _ => rfl
  | [], _ :: _, h, _ => by rw [FzL] at h; exact h.elim
  | _ :: _, [], h, _ => by rw [FzL] at h; exact h.elim
  | d :: ds, u :: us, h1, f1 => by
    rw [FzL] at h1
    rw [List.all_cons, Bool.and_eq_true] at f1
    have q := inF_v h f h1.2 f1.2
    unfold inV D.inF at q ⊢
    rw [List.any_cons, List.any_cons, eqf_v h1.1 h f1.1 f, q]
theorem key_v {G : Hp} {x : D} {u : V} {k : Key} (h : Fz B G u x) (e : x.key? = some k) : u = kV k := by
  cases x <;> simp [D.key?] at e <;> subst e <;> rw [Fz] at h <;> exact h
theorem kget_v {G : Hp} {k : Key} : ∀ {ds : List (Key × D)} {kvs : List (Key × V)}, FzK B G kvs ds → match kget ds k with
    | some d => ∃ v, valV kvs k = some v ∧ Fz B G v d
    | none => valV kvs k = none
  | [], [], _ => rfl
  | [], _ :: _, h => by rw [FzK] at h; exact h.elim
  | _ :: _, [], h => by rw [FzK] at h; exact h.elim
  | d :: ds, p :: kvs, h => by
    rw [FzK] at h
    by_cases hk : d.1 = k
    · have e1 : kget (d :: ds) k = some d.2 := by unfold kget; rw [List.find?_cons_of_pos (by simpa using hk)]; rfl
      rw [e1]
      exact ⟨p.2, valV_pos (h.1.trans hk), h.2.1⟩
    · have e1 : kget (d :: ds) k = kget ds k := by unfold kget; rw [List.find?_cons_of_neg (by simpa using hk)]
      rw [e1, valV_neg (fun z => hk (h.1.symm.trans z))]
      exact kget_v h.2.2
theorem kget_some {G : Hp} {k : Key} {ds : List (Key × D)} {kvs : List (Key × V)} {d : D} (h : FzK B G kvs ds) (e : kget ds k = some d) : ∃ v, valV kvs k = some v ∧ Fz B G v d := by
  have := kget_v (k := k) h
  rw [e] at this; exact this
theorem kget_none {G : Hp} {k : Key} {ds : List (Key × D)} {kvs : List (Key × V)} (h : FzK B G kvs ds) (e : kget ds k = none) : valV kvs k = none := by
  have := kget_v (k := k) h
  rw [e] at this; exact this
theorem kget_isSome {G : Hp} {k : Key} {ds : List (Key × D)} {kvs : List (Key × V)} (h : FzK B G kvs ds) : (valV kvs k).isSome = (kget ds k).isSome := by
  cases e : kget ds k with
  | some d => obtain ⟨v, e1, _⟩ := kget_some h e; rw [e1]; rfl
  | none => rw [kget_none h e]; rfl
/-- a written dict is looked up -/
theorem cd_get {G : Hp} {a : Addr} {z : Str} : ∀ {kvs : List (Str × D)} {d : D}, FzC B G a kvs → kvs.lookup z = some d → ∃ u v, PySem.W.nsIn B.K a z = some (some u) ∧ RelV v u ∧ Fz B G v d
  | [], _, _, e => by cases e
  | p :: kvs, d, h, e => by
    rw [FzC] at h
    rw [List.lookup_cons] at e
    split at e
    · rename_i hb
      have hz : z = p.1 := by simpa using hb
      cases e
      subst hz
      exact h.1
    · exact cd_get h.2 e
theorem keyN_a {G H : Hp} {x : D} {u : V} {k : NestedKey} (s : Same G H) (h : Fz B G u x) (e : x.keyN? = some k) : KeyA B.K H k u := by
  cases x <;> simp only [D.keyN?, reduceCtorEq] at e
  rename_i xs
  obtain ⟨ks, e1, e2⟩ := Option.bind_eq_some_iff.mp e
  split at e2
  · rename_i hd
    cases e2
    have n := nk_of s (.tup xs) u (.tup ks) (by rw [D.nk?, e1]; rfl) h
    rw [Fz] at h
    obtain ⟨a, us, rfl, _⟩ := h
    exact ⟨a, rfl, n, hd⟩
  · cases e2
theorem keyN_tz {G H : Hp} {x : D} {u : V} {k : NestedKey} (s : Same G H) (h : Tz B G H u x) (e : x.keyN? = some k) : KeyA B.K H k u := by
  cases x <;> first | exact keyN_a s h e | (simp only [D.keyN?, reduceCtorEq] at e)
theorem fzd_k {G H : Hp} (s : Same G H) : ∀ {ds : List (D × D)} {es : EnL}, FzD B G es ds → DnK B.K H es
  | [], [], _ => fun e he => by simp at he
  | [], _ :: _, h => by rw [FzD] at h; exact h.elim
  | _ :: _, [], h => by rw [FzD] at h; exact h.elim
  | d :: ds, e :: es, h => fun e' he => by
    rw [FzD] at h
    rcases List.mem_cons.mp he with rfl | he
    · exact ⟨nk_of s _ _ _ h.1.1 h.2.1, h.1.2⟩
    · exact fzd_k s h.2.2.2 e' he
theorem dget_v {G : Hp} {k : NestedKey} : ∀ {ds : List (D × D)} {es : EnL}, FzD B G es ds → match dget ds k with
    | some d => ∃ a v, enAt es k = some (a, v) ∧ Fz B G v d
    | none => enAt es k = none
  | [], [], _ => rfl
  | [], _ :: _, h => by rw [FzD] at h; exact h.elim
  | _ :: _, [], h => by rw [FzD] at h; exact h.elim
  | d :: ds, e :: es, h => by
    rw [FzD] at h
    by_cases hk : e.1 = k
    · have e1 : dget (d :: ds) k = some d.2 := by unfold dget; rw [List.find?_cons_of_pos (by simp [h.1.1, hk])]; rfl
      have e2 : enAt (e :: es) k = some e.2 := by unfold enAt; rw [List.find?_cons_of_pos (by simpa using hk)]; rfl
      rw [e1]
      exact ⟨e.2.1, e.2.2, e2, h.2.2.1⟩
    · have e1 : dget (d :: ds) k = dget ds k := by unfold dget; rw [List.find?_cons_of_neg (by simp [h.1.1, hk])]
      have e2 : enAt (e :: es) k = enAt es k := by unfold enAt; rw [List.find?_cons_of_neg (by simpa using hk)]
      rw [e1, e2]
      exact dget_v h.2.2.2
theorem dget_isSome {G : Hp} {k : NestedKey} {ds : List (D × D)} {es : EnL} (h : FzD B G es ds) : (enAt es k).isSome = (dget ds k).isSome := by
  have := dget_v (k := k) h
  cases e : dget ds k with
  | some d => rw [e] at this; obtain ⟨a, v, q, _⟩ := this; rw [q]; rfl
  | none => rw [e] at this; rw [this]; rfl
/-- in, for any of these -/
def rInA (K : PySem.W.Frag) (w : World) (neg : Bool) : R2 := fun x y H Q => ∃ b, Q (.bl (if neg then !b else b)) H ∧
  ((∃ c : Nat, ∃ z : Str, ∃ s : Str, x = .str s ∧ s.cps.toList = [c] ∧ y = .str z ∧ b = decide (c ∈ z.cps.toList)) ∨
   (∃ p xs, y = .ref p ∧ (SqL K H p xs ∨ SqT K H p xs) ∧ flatV x = true ∧ xs.all flatV = true ∧ b = inV x xs) ∨
   (∃ p kvs k, y = .ref p ∧ H p = some (.dK kvs) ∧ x = kV k ∧ b = (valV kvs k).isSome) ∨
   (∃ p es n z r, y = .ref p ∧ KDict K w p es n ∧ x = .str z ∧ PySem.W.nsIn K p z = some r ∧ b = r.isSome) ∨
   (∃ p es k, y = .ref p ∧ DictN K w H p es ∧ KeyA K H k x ∧ b = (enAt es k).isSome))
theorem op_inA {X : Cx} (hu : X.A.units + 64 < cLine) : OpR X (compareOp .In) (rInA X.K X.w false) := by
  intro pins s σ H x y v u Q I rx ry h
  obtain ⟨b, q, h | h | h | h | h⟩ := h
  · obtain ⟨c, z, sg, rfl, e, rfl, rfl⟩ := h
    have es : sg = ⟨#[c]⟩ := by
      cases sg with
      | mk cps => simp at e; congr 1; apply Array.toList_inj.mp; simpa using e
    subst es
    exact op_in_sign pins s σ H _ _ v u Q I rx ry ⟨c, z, rfl, rfl, q⟩
  · obtain ⟨p, xs, rfl, hq, f1, f2, rfl⟩ := h
    exact op_in_seq pins s σ H _ _ v u Q I rx ry ⟨p, xs, rfl, hq, f1, f2, q⟩
  · obtain ⟨p, kvs, k, rfl, hq, rfl, rfl⟩ := h
    obtain rfl : u = Value.ref p := ry
    exact d_in (by omega) I (DGet.k hq) rx fun s' I' => ⟨.bl _, H, I', rfl, q⟩
  · obtain ⟨p, es, n, z, r, rfl, kd, rfl, e, rfl⟩ := h
    exact op_in_kd kd pins s σ H _ _ v u Q I rx ry ⟨z, r, rfl, rfl, e, q⟩
  · obtain ⟨p, es, k, rfl, dn, ka, rfl⟩ := h
    exact op_inN hu pins s σ H _ _ v u Q I rx ry ⟨p, es, k, rfl, dn, ka, q⟩
theorem op_niA {X : Cx} (hu : X.A.units + 64 < cLine) : OpR X (compareOp .NotIn) (rInA X.K X.w true) := by
  intro pins s σ H x y v u Q I rx ry h
  obtain ⟨b, q, h | h | h | h | h⟩ := h
  · obtain ⟨c, z, sg, rfl, e, rfl, rfl⟩ := h
    have es : sg = ⟨#[c]⟩ := by
      cases sg with
      | mk cps => simp at e; congr 1; apply Array.toList_inj.mp; simpa using e
    subst es
    exact op_notIn_sign pins s σ H _ _ v u Q I rx ry ⟨c, z, rfl, rfl, q⟩
  · obtain ⟨p, xs, rfl, hq, f1, f2, rfl⟩ := h
    exact op_notIn_seq pins s σ H _ _ v u Q I rx ry ⟨p, xs, rfl, hq, f1, f2, q⟩
  · obtain ⟨p, kvs, k, rfl, hq, rfl, rfl⟩ := h
    obtain rfl : u = Value.ref p := ry
    exact d_notIn (by omega) I (DGet.k hq) rx fun s' I' => ⟨.bl _, H, I', rfl, q⟩
  · obtain ⟨p, es, n, z, r, rfl, kd, rfl, e, rfl⟩ := h
    exact op_notIn_kd kd pins s σ H _ _ v u Q I rx ry ⟨z, r, rfl, rfl, e, q⟩
  · obtain ⟨p, es, k, rfl, dn, ka, rfl⟩ := h
    exact op_niN hu pins s σ H _ _ v u Q I rx ry ⟨p, es, k, rfl, dn, ka, q⟩
theorem in_any {x y : D} {b : Bool} {u v : V} {G H : Hp} (e : x.in? y = some b) (s : Same G H) (hx : Tz B G H u x) (hy : Tz B G H v y) :
    (∃ c : Nat, ∃ z : Str, ∃ s : Str, u = .str s ∧ s.cps.toList = [c] ∧ v = .str z ∧ b = decide (c ∈ z.cps.toList)) ∨
   (∃ p xs, v = .ref p ∧ (SqL B.K H p xs ∨ SqT B.K H p xs) ∧ flatV u = true ∧ xs.all flatV = true ∧ b = inV u xs) ∨
   (∃ p kvs k, v = .ref p ∧ H p = some (.dK kvs) ∧ u = kV k ∧ b = (valV kvs k).isSome) ∨
   (∃ p es n z r, v = .ref p ∧ KDict B.K B.w p es n ∧ u = .str z ∧ PySem.W.nsIn B.K p z = some r ∧ b = r.isSome) ∨
   (∃ p es k, v = .ref p ∧ DictN B.K B.w H p es ∧ KeyA B.K H k u ∧ b = (enAt es k).isSome) := by
  unfold D.in? at e
  split at e
  · split at e
    · rename_i k hk
      cases e
      exact .inl ⟨k, _, _, tz_str hx, hk, tz_str hy, rfl⟩
    · cases e
  · split at e
    · rename_i ys hf
      cases e
      obtain ⟨p, xs, rfl, h1, h2⟩ := hy
      have h2 := FzL.mono s _ _ h2
      have hx' := hx.fz s
      exact .inr (.inl ⟨p, xs, rfl, .inl (SqL.of h1), flat_v hx' hf.1, flats_v h2 hf.2, (inF_v hx' hf.1 h2 hf.2).symm⟩)
    · cases e
  · split at e
    · rename_i ys hf
      cases e
      obtain ⟨p, xs, rfl, h1, h2⟩ := tz_tup hy
      have h2 := FzL.mono s _ _ h2
      have hx' := hx.fz s
      exact .inr (.inl ⟨p, xs, rfl, .inr (Same.sqt s h1), flat_v hx' hf.1, flats_v h2 hf.2, (inF_v hx' hf.1 h2 hf.2).symm⟩)
    · cases e
  · obtain ⟨k, e1, rfl⟩ := Option.map_eq_some_iff.mp e
    obtain ⟨p, kvs, rfl, h1, h2⟩ := hy
    exact .inr (.inr (.inl ⟨p, kvs, k, rfl, h1, key_v (hx.fz s) e1, (kget_isSome h2).symm⟩))
  · cases e
    rename_i z kvs
    have hy : Fz B G v (.cd kvs) := hy
    rw [Fz] at hy
    obtain ⟨a, rfl, ⟨⟨es, n, kd⟩, hn⟩, hc⟩ := hy
    cases el : kvs.lookup z with
    | some d =>
      obtain ⟨u0, v0, e0, _, _⟩ := cd_get hc el
      exact .inr (.inr (.inr (.inl ⟨a, es, n, z, _, rfl, kd, tz_str hx, e0, rfl⟩)))
    | none => exact .inr (.inr (.inr (.inl ⟨a, es, n, z, _, rfl, kd, tz_str hx, hn z el, rfl⟩)))
  · obtain ⟨k, e1, rfl⟩ := Option.map_eq_some_iff.mp e
    obtain ⟨p, ob, es, rfl, h1, h2⟩ := hy
    exact .inr (.inr (.inr (.inr ⟨p, es, k, rfl, ⟨ob, h1, fzd_k s h2⟩, keyN_tz s hx e1, (dget_isSome h2).symm⟩)))
  · cases e
theorem in_snd : Snd2 B gIn (rInA B.K B.w false) := by
  intro x y v a b G H Q e s hx hy q
  obtain ⟨k, e1, rfl⟩ := Option.map_eq_some_iff.mp e
  exact ⟨k, q _ _ _ (.scalar s (fz_bl k)), in_any e1 s hx hy⟩
theorem ni_snd : Snd2 B gNi (rInA B.K B.w true) := by
  intro x y v a b G H Q e s hx hy q
  obtain ⟨k, e1, rfl⟩ := Option.map_eq_some_iff.mp e
  exact ⟨k, q _ _ _ (.scalar s (fz_bl (!k))), in_any e1 s hx hy⟩
/-! ### is -/
def D.is? : D → D → Option Bool
  | .bl a, .bl b => some (decide (a = b))
  | .non, .non => some true
  | .bl _, .non => some false
  | .int _, .non => some false
  | .str _, .non => some false
  | .tup _, .non => some false
  | .lst _, .non => some false
  | .dct _, .non => some false
  | .dd _, .non => some false
  | .ins _ _, .non => some false
  | _, _ => none
def gIs (x y : D) : Option E := (x.is? y).map eBl
def gIsn (x y : D) : Option E := (x.is? y).map fun b => eBl (!b)
abbrev rIsA : R2 := fun x y H Q => (y = .non ∧ Q (.bl (decide (x = .non))) H) ∨ rIsB x y H Q
abbrev rIsnA : R2 := fun x y H Q => (y = .non ∧ Q (.bl (!decide (x = .non))) H) ∨ rNotB x y H Q
theorem op_isA {X : Cx} : OpR X (compareOp .Is) rIsA := op_isN.or op_isBl
theorem op_isnA {X : Cx} : OpR X (compareOp .IsNot) rIsnA := op_notN.or op_notBl
theorem is_any {x y : D} {b : Bool} {u v : V} {G H : Hp} (e : x.is? y = some b) (hx : Tz B G H u x) (hy : Tz B G H v y) :
    (v = .non ∧ b = decide (u = .non)) ∨ ∃ p q : Bool, u = .bl p ∧ v = .bl q ∧ b = decide (p = q) := by
  unfold D.is? at e
  split at e <;> cases e
  · exact .inr ⟨_, _, tz_bl hx, tz_bl hy, rfl⟩
  · exact .inl ⟨tz_non hy, by rw [tz_non hx]; simp⟩
  · exact .inl ⟨tz_non hy, by rw [tz_bl hx]; simp⟩
  · exact .inl ⟨tz_non hy, by rw [tz_int hx]; simp⟩
  · exact .inl ⟨tz_non hy, by rw [tz_str hx]; simp⟩
  · obtain ⟨p, xs, rfl, _⟩ := tz_tup hx; exact .inl ⟨tz_non hy, by simp⟩
  · obtain ⟨p, xs, rfl, _⟩ := hx; exact .inl ⟨tz_non hy, by simp⟩
  · obtain ⟨p, xs, rfl, _⟩ := hx; exact .inl ⟨tz_non hy, by simp⟩
  · obtain ⟨p, ob, xs, rfl, _⟩ := hx; exact .inl ⟨tz_non hy, by simp⟩
  · obtain ⟨p, C, dx, xs, rfl, _⟩ := hx; exact .inl ⟨tz_non hy, by simp⟩
theorem is_snd : Snd2 B gIs rIsA := by
  intro x y v a b G H Q e s hx hy q
  obtain ⟨k, e1, rfl⟩ := Option.map_eq_some_iff.mp e
  have fin := q _ _ _ (.scalar s (fz_bl k))
  rcases is_any e1 hx hy with ⟨h1, h2⟩ | ⟨p, r, h1, h2, h3⟩
  · exact .inl ⟨h1, by rw [← h2]; exact fin⟩
  · exact .inr ⟨p, r, h1, h2, by rw [← h3]; exact fin⟩
theorem isn_snd : Snd2 B gIsn rIsnA := by
  intro x y v a b G H Q e s hx hy q
  obtain ⟨k, e1, rfl⟩ := Option.map_eq_some_iff.mp e
  have fin := q _ _ _ (.scalar s (fz_bl (!k)))
  rcases is_any e1 hx hy with ⟨h1, h2⟩ | ⟨p, r, h1, h2, h3⟩
  · exact .inl ⟨h1, by rw [← h2]; exact fin⟩
  · exact .inr ⟨p, r, h1, h2, by rw [← h3]; exact fin⟩
/-! ### a place -/
def gIx : D → D → Option E
  | .lst xs, .int i => (atI xs i).map .d
  | .tup xs, .int i => (atI xs i).map .d
  | .scr ns, .int i => (atI ns i).map eInt
  | .str z, .int i => if z.length ≤ sizeLine then (atI z.cps.toList i).map (fun c => eStr ⟨#[c]⟩) else none
  | .dct kvs, k => k.key?.bind fun k => (kget kvs k).map .d
  | .cd kvs, .str z => (kvs.lookup z).map .d
  | .dd kvs, k => k.keyN?.bind fun k => (dget kvs k).map .d
  | _, _ => none
theorem atI_map {α β : Type} {f : α → β} {xs : List α} {i : Int} : atI (xs.map f) i = (atI xs i).map f := by
  unfold atI
  rw [List.length_map]
  cases ixN xs.length i with
  | none => rfl
  | some j => simp
theorem FzL.at {G : Hp} {ds : List D} {us : List V} {i : Int} {d : D} (h : FzL B G us ds) (e : atI ds i = some d) : ∃ u, atI us i = some u ∧ Fz B G u d := by
  unfold atI at e ⊢
  rw [h.length]
  cases hx : ixN ds.length i with
  | none => rw [hx] at e; cases e
  | some j =>
    rw [hx] at e
    exact h.get (i := j) e
def rIxDK : R2 := fun x y H Q => ∃ p kvs k v, x = .ref p ∧ y = kV k ∧ H p = some (.dK kvs) ∧ valV kvs k = some v ∧ Q v H
theorem ix_dK {X : Cx} (hu : X.A.units + 64 < cLine) : IxR X rIxDK := by
  intro value slice pins s σ H x y v u Q I rx ry h hs
  obtain ⟨p, kvs, k, z, rfl, rfl, hp, hv, q⟩ := h
  obtain rfl : v = Value.ref p := rx
  have g : DGet H p (kV k) (some z) := by rw [← hv]; exact DGet.k hp
  exact tail_any (dict_typeIs I g) PySem.F.slot_dict_getitem.lookup (d_getItem (by omega) I g ry fun w' s' I' r' => ⟨z, H, I', r', q⟩) hs
abbrev rIxA (K : PySem.W.Frag) (w : World) : R2 := fun x y H Q => ((rIx K x y H Q ∨ rIxDK x y H Q) ∨ rIxD K w x y H Q) ∨ rIxN K w x y H Q
theorem ix_any {X : Cx} (hu : X.A.units + 64 < cLine) : IxR X (rIxA X.K X.w) := ((ix_seq.or (ix_dK hu)).or ix_kdict).or (ix_N hu)
theorem ix_snd : Snd2 B gIx (rIxA B.K B.w) := by
  intro x y v a b G H Q e s hx hy q
  unfold gIx at e
  split at e
  · obtain ⟨d, e1, rfl⟩ := Option.map_eq_some_iff.mp e
    obtain ⟨p, us, rfl, h1, h2⟩ := hx
    obtain ⟨u, e2, hf⟩ := h2.at e1
    exact .inl (.inl (.inl (.inl ⟨p, us, _, u, rfl, tz_int hy, SqL.of h1, e2, q _ _ _ (.scalar s hf)⟩)))
  · obtain ⟨d, e1, rfl⟩ := Option.map_eq_some_iff.mp e
    obtain ⟨p, us, rfl, h1, h2⟩ := tz_tup hx
    obtain ⟨u, e2, hf⟩ := h2.at e1
    exact .inl (.inl (.inl (.inr (.inl ⟨p, us, _, u, rfl, tz_int hy, Same.sqt s h1, e2, q _ _ _ (.scalar s hf)⟩))))
  · rename_i ns i
    obtain ⟨d, e1, rfl⟩ := Option.map_eq_some_iff.mp e
    have hx : Fz B G a (.scr ns) := hx
    rw [Fz] at hx
    obtain ⟨p, rfl, h1⟩ := hx
    exact .inl (.inl (.inl (.inl ⟨p, _, _, .int d, rfl, tz_int hy, Same.seq s h1, by rw [atI_map, e1]; rfl, q _ _ _ (.scalar s (fz_int _))⟩)))
  · split at e
    · rename_i hz
      obtain ⟨c, e1, rfl⟩ := Option.map_eq_some_iff.mp e
      exact .inl (.inl (.inl (.inr (.inr ⟨_, _, c, tz_str hx, tz_int hy, hz, e1, q _ _ _ (.scalar s (fz_str _))⟩))))
    · cases e
  · obtain ⟨k, e1, e2⟩ := Option.bind_eq_some_iff.mp e
    obtain ⟨d, e3, rfl⟩ := Option.map_eq_some_iff.mp e2
    obtain ⟨p, kvs, rfl, h1, h2⟩ := hx
    obtain ⟨w, e4, hf⟩ := kget_some h2 e3
    exact .inl (.inl (.inr ⟨p, kvs, k, w, rfl, key_v (hy.fz s) e1, h1, e4, q _ _ _ (.scalar s hf)⟩))
  · rename_i kvs z
    obtain ⟨d, e1, rfl⟩ := Option.map_eq_some_iff.mp e
    have hx : Fz B G a (.cd kvs) := hx
    rw [Fz] at hx
    obtain ⟨p, rfl, ⟨⟨es, n, kd⟩, hn⟩, hc⟩ := hx
    obtain ⟨u0, v0, e0, r0, f0⟩ := cd_get hc e1
    exact .inl (.inr ⟨p, z, v0, rfl, tz_str hy, ⟨es, n, u0, kd.at_, kd.lit, e0, r0⟩, q _ _ _ (.scalar s f0)⟩)
  · obtain ⟨k, e1, e2⟩ := Option.bind_eq_some_iff.mp e
    obtain ⟨d, e3, rfl⟩ := Option.map_eq_some_iff.mp e2
    obtain ⟨p, ob, es, rfl, h1, h2⟩ := hx
    have := dget_v (k := k) h2
    rw [e3] at this
    obtain ⟨a, w, e4, hf⟩ := this
    exact .inr ⟨p, es, k, a, w, rfl, ⟨ob, h1, fzd_k s h2⟩, keyN_tz s hy e1, e4, q _ _ _ (.scalar s hf)⟩
  · cases e
end
end L2.AL
/-! AS: sorted, by data. -/
namespace L2.AL
open PySem PySem.Spec PyProof.Rows
mutual
theorem reads_lt {h : Heap} : ∀ {v : Value} {d : PyData} {as : List Addr}, Reads h v d as → ∀ a ∈ as, a < h.objs.size
  | _, _, _, .none => fun a ha => by simp at ha
  | _, _, _, .bool _ => fun a ha => by simp at ha
  | _, _, _, .int _ _ => fun a ha => by simp at ha
  | _, _, _, .str _ _ => fun a ha => by simp at ha
  | _, _, _, .list h1 _ _ h4 => fun a ha => by
    rcases List.mem_cons.mp ha with rfl | ha
    · exact Heap.lt_size h1
    · exact readsAll_lt h4 a ha
  | _, _, _, .tuple _ _ _ h4 => readsAll_lt h4
  | _, _, _, .dict h1 _ _ h4 h5 => fun a ha => by
    rcases List.mem_cons.mp ha with rfl | ha
    · exact Heap.lt_size h1
    · rcases List.mem_append.mp ha with ha | ha
      · exact readsAll_lt h4 a ha
      · exact readsAll_lt h5 a ha
theorem readsAll_lt {h : Heap} : ∀ {vs : List Value} {ds : List PyData} {as : List Addr}, ReadsAll h vs ds as → ∀ a ∈ as, a < h.objs.size
  | _, _, _, .nil => fun a ha => by simp at ha
  | _, _, _, .cons r rs => fun a ha => by
    rcases List.mem_append.mp ha with ha | ha
    · exact reads_lt r a ha
    · exact readsAll_lt rs a ha
end
def D.pyd (x : D) : PyData := x.py.getD .none
/-- a <= b, as sorted asks -/
def D.sle (x y : D) : Bool := !PySem.W.dataLt y.pyd x.pyd
def tup1 : PyData → Bool
  | .tuple (_ :: _) => true
  | _ => false
def other1 : PyData → Bool
  | .tuple _ => false
  | .none => false
  | _ => true
def sortOk (ds : List D) : Bool := ds.all (fun d => d.py.isSome && decide (d.pyd.depth ≤ 60)) && (ds.all fun d => ds.all fun e => PySem.W.alike d.pyd e.pyd) && ((ds.all fun d => tup1 d.pyd) || ds.all fun d => other1 d.pyd)
def sortD (ds : List D) : List D := ds.mergeSort D.sle
def sortP (ps : List (V × D)) : List (V × D) := ps.mergeSort fun p q => D.sle p.2 q.2
theorem sortP_snd (ps : List (V × D)) : (sortP ps).map (·.2) = sortD (ps.map (·.2)) := by
  unfold sortP sortD
  exact List.map_mergeSort (fun _ _ _ _ => rfl)
theorem sortD_perm (ds : List D) : (sortD ds).Perm ds := List.mergeSort_perm _ _
theorem sortP_perm (ps : List (V × D)) : (sortP ps).Perm ps := List.mergeSort_perm _ _
section
variable {X : Cx} {pins : List (Addr × Obj)} {σ : St} {H : Hp} {s : Shared} {Q : VK}
theorem sorted_col (I : Inv X pins σ H s) (hu : X.A.units + 64 < cLine) {r : Addr} {ps : List (V × D)}
    (col : ∀ R : List Value → Shared → Prop, (∀ h' tk vs, (∀ b o, s.heap.get? b = some o → h'.get? b = some o) → Vals (ps.map (·.1)) vs → R vs { s with heap := h', toks := tk }) → wpAny (model X.prog X.w) X.A.in1 (collect (.ref r)) R X.xe s)
    (hd : ∀ p ∈ ps, Dp X.K H p.1 p.2.pyd) (ok : sortOk (ps.map (·.2)) = true) (hl : ps.length ≤ sizeLine) (q : ∀ l, H l = none → Q (.ref l) (upd H l (.lst ((sortP ps).map (·.1))))) :
    wpAny (model X.prog X.w) X.A (call (.builtin "sorted") [.ref r]) (EP X pins σ Q) X.xe s := by
  unfold sortOk at ok
  simp only [Bool.and_eq_true, Bool.or_eq_true, List.all_eq_true, decide_eq_true_eq, List.mem_map, forall_exists_index, and_imp, forall_apply_eq_imp_iff₂] at ok
  obtain ⟨⟨ok1, ok2⟩, ok3⟩ := ok
  refine Calls.call_function_entry PyProof.Rows.kind_sorted PyProof.Rows.plain_sorted PyProof.Rows.entry_sorted (PyProof.Rows.args_sorted1 _) ?_
  unfold Builtin.«sorted»
  refine wpAny_bind (m := checkCount "sorted" 1 1 _) (wpAny_pure ?_)
  refine wpAny_bind (col _ fun h' tk vs hk rv => ?_)
  have hlen : vs.length = ps.length := by rw [← rv.length, List.length_map]
  have I1 : Inv X pins σ H { s with heap := h', toks := tk } := I.kept hk
  refine wpAny_bind (wpAny_newList ?_ (by rw [hlen]; exact hl))
  have there : (h'.push (seqObj "list" vs.toArray 0)).get? h'.objs.size = some (seqObj "list" vs.toArray 0) := Heap.get?_push_size _ rfl
  show wpAny _ _ _ _ _ { s with heap := h'.push (seqObj "list" vs.toArray 0), toks := tk }
  have each : PySem.W.EachIs (fun (v : Value) (p : V × D) => RelV p.1 v) vs ps := by
    clear hlen hd ok1 ok2 ok3 hl q col there
    induction ps generalizing vs with
    | nil => rw [List.map_nil] at rv; cases rv; exact .nil
    | cons p ps ih => rw [List.map_cons] at rv; cases rv with | cons r1 r2 => exact .cons r1 (ih _ r2)
  have reads : PySem.W.EachIs (fun (v : Value) (p : V × D) => ∃ as, Reads (h'.push (seqObj "list" vs.toArray 0)) v p.2.pyd as ∧ h'.objs.size ∉ as) vs ps := by
    have : ∀ {us : List Value} {qs : List (V × D)}, PySem.W.EachIs (fun (v : Value) (p : V × D) => RelV p.1 v) us qs → (∀ p ∈ qs, p ∈ ps) → PySem.W.EachIs (fun (v : Value) (p : V × D) => ∃ as, Reads (h'.push (seqObj "list" vs.toArray 0)) v p.2.pyd as ∧ h'.objs.size ∉ as) us qs := by
      intro us qs e
      induction e with
      | nil => intro _; exact .nil
      | cons h t ih =>
        intro sub
        refine .cons ?_ (ih fun p hp => sub p (List.mem_cons_of_mem _ hp))
        obtain ⟨as, ra⟩ := Dp.reads I1 _ _ _ (hd _ (sub _ List.mem_cons_self)) h
        exact ⟨as, PyProof.Rows.Reads.keeps (fun _ _ e => Heap.get?_push_of_some _ e) ra, fun hm => Nat.lt_irrefl _ (reads_lt ra _ hm)⟩
    exact this each fun _ h => h
  refine wpAny_bind (wpAny_holding (PySem.W.list_sort_data (s := { s with heap := h'.push (seqObj "list" vs.toArray 0), toks := tk }) (enc := fun p : V × D => p.2.pyd) there each reads ?_ ?_ hl ?_ fun out ho eo => ?_))
  · intro d hd' e he'
    obtain ⟨p, hp, rfl⟩ := List.mem_map.mp hd'
    obtain ⟨p', hp', rfl⟩ := List.mem_map.mp he'
    exact ok2 p hp p' hp'
  · rcases ok3 with h | h
    · refine .inl fun d hd' => ?_
      obtain ⟨p, hp, rfl⟩ := List.mem_map.mp hd'
      have := h p hp
      unfold tup1 at this
      split at this
      · rename_i x r e; exact ⟨x, r, e⟩
      · cases this
    · refine .inr fun d hd' => ?_
      obtain ⟨p, hp, rfl⟩ := List.mem_map.mp hd'
      have := h p hp
      unfold other1 at this
      split at this
      · cases this
      · cases this
      · rename_i h1 h2; exact ⟨h2, h1⟩
  · intro p hp
    have := (ok1 p hp).2
    rw [Around.in1_units]; omega
  · obtain ⟨c, at_⟩ := PyProof.Rows.sortedHeap_at (vs := vs) (out := out.toArray) there
    have sv : Vals ((sortP ps).map (·.1)) out := by
      have all : ∀ {us : List Value} {qs : List (V × D)}, PySem.W.EachIs (fun (v : Value) (p : V × D) => RelV p.1 v) us qs → Vals (qs.map (·.1)) us := by
        intro us qs e
        induction e with
        | nil => exact .nil
        | cons h t ih => exact .cons h ih
      exact all (show PySem.W.EachIs (fun (v : Value) (p : V × D) => RelV p.1 v) out (sortP ps) from eo)
    refine wpAny_pure ⟨_, rfl, .ref h'.objs.size, _, I1.laid (a := h'.objs.size) (t' := tk) (o := .lst ((sortP ps).map (·.1))) (fun b u e => ?_) (Nat.le_refl _) ⟨by rw [List.length_map, (sortP_perm ps).length_eq]; exact hl, out, c, sv, at_⟩, rfl, q _ (I1.hok.fresh (Nat.le_refl _))⟩
    have hb : b < h'.objs.size := Heap.lt_size e
    rw [PyProof.Rows.sortedHeap_old (Nat.ne_of_lt hb) (by rw [size_push']; exact Nat.lt_succ_of_lt hb)]
    exact Heap.get?_push_of_some _ e
end
end L2.AL
/-! A4: tests, displays, slices, built-in calls. -/
namespace L2.AL
open PySem PySem.Spec PyProof.Rows
section
variable {X : Cx} {W : WX'} {a b c e : Expr} {rest es : List Expr} {fa fb fc : List S → Res E} {ta tb : List S → Res Bool} {fs : List S → Res (List E)} {pos : Pos}
/-! ### tests -/
/-- a value that is a truth, as a test -/
def aT (f : List S → Res E) : List S → Res Bool := fun ρ => (f ρ).bind fun v ρ1 => match v with
  | .d (.bl b) => .ok b ρ1
  | _ => .no
theorem aT_imp {B : Bk} {σ : St} {H : Hp} {Q : Bool → Hp → Prop} {f : List S → Res E} (h : liftT B W (aT f) σ H Q) : lift B W f σ H (fun x H' => ∃ k, x = .bl k ∧ Q k H') := by
  obtain ⟨G, ρ, r, h⟩ := h
  refine lift_mono (lift_first r (AftT.cl (Q := Q)) h) fun u H1 ⟨v, ρ1, G1, P, h1⟩ => ?_
  obtain ⟨x, e, re⟩ := P.re 0 v rfl
  cases e
  split at h1
  · rename_i k
    have re : Fz B G1 u (.bl k) := re
    rw [Fz] at re
    exact ⟨k, re, h1 _ _ P.post⟩
  · exact h1.elim
theorem a_tval {f : List S → Res E} (h : PEa X W a f) (he : ∀ whole, isTrue a X.env whole = (do let v ← whole; standAt a.pos; holding [v] (truthy v)) := by intro _; rfl) : PTa X W a (aT f) :=
  pt_imp (pt_val h he) fun σ H Q q => aT_imp q
theorem a_tcmp {op : CmpOp} {g : D → D → Option E} {r : R2} (ho : OpR X (compareOp op) r) (sn : Snd2 X.bk g r) (ha : PEa X W a fa) (hb : PEa X W b fb) (hm : behindInMarks op b = false := by first | exact nomark _ | rfl) : PTa X W (.Compare a [op] [b] pos) (aT (aOp2 g fa fb)) :=
  pt_imp (pt_cmpR ho ha hb hm) fun σ H Q q => op2_imp sn σ H _ (aT_imp q)
/-- truth of contents -/
def D.truth : D → Option Bool
  | .non => some false
  | .bl b => some b
  | .int i => some (i != 0)
  | .str x => if x.length ≤ sizeLine then some ((x.length : Int) != 0) else none
  | .lst xs => some (!xs.isEmpty)
  | .tup xs => some (!xs.isEmpty)
  | .dct xs => some (!xs.isEmpty)
  | _ => none
def aTruth (f : List S → Res E) : List S → Res Bool := fun ρ => (f ρ).bind fun v ρ1 => match (v.val ρ1).bind D.truth with
  | some b => .ok b ρ1
  | none => .no
theorem FzL.isEmpty {B : Bk} {G : Hp} {us : List V} {ds : List D} (h : FzL B G us ds) : us.isEmpty = ds.isEmpty := by
  have := h.length
  cases us <;> cases ds <;> simp_all
theorem FzK.isEmpty {B : Bk} {G : Hp} {us : List (Key × V)} {ds : List (Key × D)} (h : FzK B G us ds) : us.isEmpty = ds.isEmpty := by
  cases us <;> cases ds <;> first | rfl | (rw [FzK] at h; exact h.elim)
theorem truth_v {B : Bk} {G H : Hp} {x : D} {u : V} {k : Bool} (s : Same G H) (h : Tz B G H u x) (e : x.truth = some k) : TruV B.K u H k := by
  cases x <;> simp only [D.truth, Option.some.injEq, reduceCtorEq] at e
  · rw [tz_non h]; exact e.symm
  · rw [tz_bl h]; exact e.symm
  · rw [tz_int h]; exact e.symm
  · rw [tz_str h]
    split at e
    · rename_i hz; cases e; exact ⟨hz, rfl⟩
    · cases e
  · obtain ⟨p, xs, rfl, h1, h2⟩ := tz_tup h
    exact .inr (.inl ⟨xs, Same.sqt s h1, by rw [h2.isEmpty]; exact e.symm⟩)
  · obtain ⟨p, xs, rfl, h1, h2⟩ := h
    exact .inl ⟨xs, SqL.of h1, by rw [h2.isEmpty]; exact e.symm⟩
  · obtain ⟨p, xs, rfl, h1, h2⟩ := h
    exact .inr (.inr ⟨xs, h1, by rw [h2.isEmpty]; exact e.symm⟩)
theorem a_truth {f : List S → Res E} (h : PEa X W a f) (he : ∀ whole, isTrue a X.env whole = (do let v ← whole; standAt a.pos; holding [v] (truthy v)) := by intro _; rfl) : PTa X W a (aTruth f) :=
  pt_imp (pt_truth h he) fun σ H Q ⟨G, ρ, r, h⟩ => by
    refine lift_mono (lift_first r (AftT.cl (Q := Q)) h) fun u H1 ⟨v, ρ1, G1, P, h1⟩ => ?_
    obtain ⟨x, e, re⟩ := P.re 0 v rfl
    cases e
    split at h1
    · rename_i k hk
      obtain ⟨d, e1, e2⟩ := Option.bind_eq_some_iff.mp hk
      exact ⟨k, truth_v P.post.rel.sub (P.post.rel.val re e1) e2, h1 _ _ P.post⟩
    · exact h1.elim
def aNotT (t : List S → Res Bool) : List S → Res Bool := fun ρ => (t ρ).bind fun c ρ1 => .ok (!c) ρ1
theorem a_notT (h : PTa X W a ta) : PTa X W (.UnaryOp .Not a pos) (aNotT ta) :=
  pt_imp (pt_not h) fun σ H Q ⟨G, ρ, r, h⟩ => by
    refine liftT_mono (liftT_next (Pend.nil r) (AftT.cl (Q := Q)) h) fun c H1 ⟨ρ1, G1, p, h1⟩ => h1 _ _ p
def aAndT (t u : List S → Res Bool) : List S → Res Bool := fun ρ => (t ρ).bind fun c ρ1 => if c = true then u ρ1 else .ok false ρ1
def aOrT (t u : List S → Res Bool) : List S → Res Bool := fun ρ => (t ρ).bind fun c ρ1 => if c = true then .ok true ρ1 else u ρ1
abbrev PWa (X : Cx) (W : WX') (e : Expr) (f : List S → Res Bool) : Prop := PW X e (liftT X.bk W f)
theorem pw_imp {e : Expr} {t t' : TT} (h : PW X e t) (w : ∀ σ H Q, t' σ H Q → t σ H Q) : PW X e t' := ⟨fun wh pins s σ H Q I q => h.run wh pins s σ H Q I (w σ H Q q)⟩
theorem a_and1 (h : PTa X W a ta) : PWa X W (.BoolOp .And [a] pos) ta := pw_and1 h
theorem a_or1 (h : PTa X W a ta) : PWa X W (.BoolOp .Or [a] pos) ta := pw_or1 h
/-- on from a test's end -/
theorem aftT_go {B : Bk} {σ : St} {ρ ρ1 : List S} {H H1 G G1 : Hp} {Q : Bool → Hp → Prop} {r : Res Bool} (p : Post B σ ρ H G σ ρ1 H1 G1) (h : AftT B W σ ρ H G Q r) : AftT B W σ ρ1 H1 G1 Q r := by
  cases r with
  | ok b ρ' => exact fun H' G' q => h H' G' (p.trans q)
  | ex x ρ' => exact Out.back h p
  | no => exact h
theorem fresh_back {B : Bk} {σ : St} {ρ ρ1 : List S} {H H1 G G1 : Hp} {u : V} {v : E} (p : Post B σ ρ H G σ ρ1 H1 G1) (h : Fresh H1 u v) : Fresh H u v := by
  cases v with
  | d x => trivial
  | sl i => trivial
  | fr o => exact fun a e => p.dom a (h a e)
theorem aft_go {B : Bk} {σ : St} {ρ ρ1 : List S} {H H1 G G1 : Hp} {Q : VK} {r : Res E} (p : Post B σ ρ H G σ ρ1 H1 G1) (h : Aft B W σ ρ H G Q r) : Aft B W σ ρ1 H1 G1 Q r := by
  cases r with
  | ok b ρ' => exact fun u H' G' q re fr => h u H' G' (p.trans q) re (fresh_back p fr)
  | ex x ρ' => exact Out.back h p
  | no => exact h
theorem a_andT (ha : PTa X W a ta) (hb : PWa X W (.BoolOp .And (b :: rest) pos) tb) : PWa X W (.BoolOp .And (a :: b :: rest) pos) (aAndT ta tb) :=
  pw_imp (pw_and ha hb) fun σ H Q ⟨G, ρ, r, h⟩ => by
    refine liftT_mono (liftT_next (Pend.nil r) (AftT.cl (Q := Q)) h) fun c H1 ⟨ρ1, G1, p, h1⟩ => ?_
    cases c with
    | true => rw [if_pos rfl] at h1 ⊢; exact ⟨G1, ρ1, p.rel, aftT_go p h1⟩
    | false => rw [if_neg Bool.false_ne_true] at h1 ⊢; exact h1 _ _ p
theorem a_orT (ha : PTa X W a ta) (hb : PWa X W (.BoolOp .Or (b :: rest) pos) tb) : PWa X W (.BoolOp .Or (a :: b :: rest) pos) (aOrT ta tb) :=
  pw_imp (pw_or ha hb) fun σ H Q ⟨G, ρ, r, h⟩ => by
    refine liftT_mono (liftT_next (Pend.nil r) (AftT.cl (Q := Q)) h) fun c H1 ⟨ρ1, G1, p, h1⟩ => ?_
    cases c with
    | false => rw [if_neg Bool.false_ne_true] at h1 ⊢; exact ⟨G1, ρ1, p.rel, aftT_go p h1⟩
    | true => rw [if_pos rfl] at h1 ⊢; exact h1 _ _ p
/-! ### and, or, not as values, a if t else b -/
def aAndV (f g : List S → Res E) : List S → Res E := fun ρ => (aT f ρ).bind fun c ρ1 => if c = true then g ρ1 else .ok (.d (.bl false)) ρ1
def aOrV (f g : List S → Res E) : List S → Res E := fun ρ => (aT f ρ).bind fun c ρ1 => if c = true then .ok (.d (.bl true)) ρ1 else g ρ1
def aNotV (f : List S → Res E) : List S → Res E := fun ρ => (aT f ρ).bind fun c ρ1 => .ok (.d (.bl (!c))) ρ1
/-- a first part that is a truth, then on -/
theorem aTV {B : Bk} {σ : St} {H G : Hp} {ρ : List S} {Q : VK} {f : List S → Res E} {k : Bool → List S → Res E} (r : Rel B G σ ρ H) (h : Aft B W σ ρ H G Q ((aT f ρ).bind k)) :
    lift B W f σ H (fun x H1 => ∃ c, x = .bl c ∧ ∃ ρ1 G1, Post B σ ρ H G σ ρ1 H1 G1 ∧ Aft B W σ ρ H G Q (k c ρ1)) := by
  refine aT_imp ⟨G, ρ, r, ?_⟩
  cases e : aT f ρ with
  | ok c ρ1 => rw [e] at h; exact fun H' G' p => ⟨ρ1, G', p, h⟩
  | ex x ρ1 => rw [e] at h; exact h
  | no => rw [e] at h; exact h
theorem a_one {op} (h : PEa X W a fa) : PEa X W (.BoolOp op [a] pos) fa := pe_one h
theorem a_andV (ha : PEa X W a fa) (hb : PEa X W (.BoolOp .And (b :: rest) pos) fb) : PEa X W (.BoolOp .And (a :: b :: rest) pos) (aAndV fa fb) :=
  pe_imp (pe_and ha hb) fun σ H Q ⟨G, ρ, r, h⟩ => by
    refine lift_mono (aTV r h) fun x H1 ⟨c, e, ρ1, G1, p, h1⟩ => ⟨c, e, ?_⟩
    cases c with
    | true => rw [if_pos rfl] at h1 ⊢; exact ⟨G1, ρ1, p.rel, aft_go p h1⟩
    | false => rw [if_neg Bool.false_ne_true] at h1 ⊢; exact h1.fin p (.scalar p.rel.sub (fz_bl _))
theorem a_orV (ha : PEa X W a fa) (hb : PEa X W (.BoolOp .Or (b :: rest) pos) fb) : PEa X W (.BoolOp .Or (a :: b :: rest) pos) (aOrV fa fb) :=
  pe_imp (pe_or ha hb) fun σ H Q ⟨G, ρ, r, h⟩ => by
    refine lift_mono (aTV r h) fun x H1 ⟨c, e, ρ1, G1, p, h1⟩ => ⟨c, e, ?_⟩
    cases c with
    | false => rw [if_neg Bool.false_ne_true] at h1 ⊢; exact ⟨G1, ρ1, p.rel, aft_go p h1⟩
    | true => rw [if_pos rfl] at h1 ⊢; exact h1.fin p (.scalar p.rel.sub (fz_bl _))
theorem a_notV (ha : PEa X W a fa) : PEa X W (.UnaryOp .Not a pos) (aNotV fa) :=
  pe_imp (pe_not ha) fun σ H Q ⟨G, ρ, r, h⟩ => by
    refine lift_mono (aTV r h) fun x H1 ⟨c, e, ρ1, G1, p, h1⟩ => ⟨c, e, ?_⟩
    exact h1.fin p (.scalar p.rel.sub (fz_bl _))
def aIf (t : List S → Res Bool) (f g : List S → Res E) : List S → Res E := fun ρ => (t ρ).bind fun c ρ1 => if c = true then f ρ1 else g ρ1
theorem a_ifx (hc : PTa X W c ta) (ha : PEa X W a fa) (hb : PEa X W b fb) : PEa X W (.IfExp c a b pos) (aIf ta fa fb) :=
  pe_imp (pe_ifExp hc ha hb) fun σ H Q ⟨G, ρ, r, h⟩ => by
    refine liftT_mono (liftT_next (Pend.nil r) (Aft.cl (Q := Q)) h) fun c H1 ⟨ρ1, G1, p, h1⟩ => ?_
    cases c with
    | true => rw [if_pos rfl] at h1 ⊢; exact ⟨G1, ρ1, p.rel, aft_go p h1⟩
    | false => rw [if_neg Bool.false_ne_true] at h1 ⊢; exact ⟨G1, ρ1, p.rel, aft_go p h1⟩
/-! ### a < b < c -/
/-- two operands, an answer that is a truth, then on -/
def aChain (g g' : D → D → Option E) (fa fb fc : List S → Res E) : List S → Res E := fun ρ => (fa ρ).bind fun va ρ1 => (fb ρ1).bind fun vb ρ2 =>
  match va.val ρ2, vb with
  | some x, .d y => match g x y with
    | some (.d (.bl true)) => (fc ρ2).bind fun vc ρ3 => app2 g' (.d y) vc ρ3
    | some (.d (.bl false)) => .ok (.d (.bl false)) ρ2
    | _ => .no
  | _, _ => .no
theorem chain_imp {B : Bk} {g g' : D → D → Option E} {r r' : R2} (sn : Snd2 B g r) (sn' : Snd2 B g' r') (nb : ∀ x y v, g x y = some v → ∃ k, v = eBl k) (σ : St) (H : Hp) (Q : VK) (h : lift B W (aChain g g' fa fb fc) σ H Q) :
    tChain r r' (lift B W fa) (lift B W fb) (lift B W fc) σ H Q := by
  obtain ⟨G, ρ, rl, h⟩ := h
  refine lift_mono (lift_first rl (Aft.cl (Q := Q)) h) fun u1 H1 ⟨va, ρa, Ga, P1, h1⟩ => ?_
  refine lift_mono (lift_next P1 (Aft.cl (Q := Q)) h1) fun u2 H2 ⟨vb, ρb, Gb, P2, h2⟩ => ?_
  obtain ⟨x1, ex1, rx1⟩ := P2.re 0 va rfl
  obtain ⟨x2, ex2, rx2⟩ := P2.re 1 vb rfl
  cases ex1
  cases ex2
  split at h2
  · rename_i dx dy hx
    have fy : Fz B Gb u2 dy := rx2
    have ty : Tz B Gb H2 u2 dy := Fz.tz P2.post.rel.sub fy
    cases eg : g dx dy with
    | none => rw [eg] at h2; exact h2.elim
    | some z =>
      refine sn dx dy z _ _ Gb H2 _ eg P2.post.rel.sub (P2.post.rel.val rx1 hx) ty fun w H' G' n => ?_
      obtain ⟨k, rfl⟩ := nb _ _ _ eg
      have hw : Fz B G' w (.bl k) := n.val
      rw [Fz] at hw
      obtain ⟨p3, _, _⟩ := n.post P2.post
      refine ⟨k, hw, ?_⟩
      rw [eg] at h2
      cases k with
      | false => rw [if_neg Bool.false_ne_true]; exact h2.fin p3 (.scalar p3.rel.sub (fz_bl _))
      | true =>
        rw [if_pos rfl]
        have pd : Pend B σ ρ H G ρb H' G' [u2] [.d dy] := by
          refine ⟨p3, rfl, fun i v e => ?_, fun i o a e => ?_, fun i j o o' a e => ?_⟩
          · cases i with
            | zero => cases e; exact ⟨u2, rfl, Fz.mono n.grow _ _ fy⟩
            | succ i => simp at e
          · cases i with
            | zero => cases e
            | succ i => simp at e
          · cases i with
            | zero => cases e
            | succ i => simp at e
        refine lift_mono (lift_next pd (Aft.cl (Q := Q)) h2) fun u3 H3 ⟨vc, ρc, Gc, P3, h3⟩ => ?_
        obtain ⟨x3, ex3, rx3⟩ := P3.re 0 _ rfl
        obtain ⟨x4, ex4, rx4⟩ := P3.re 1 vc rfl
        cases ex3
        cases ex4
        unfold app2 at h3
        split at h3
        · rename_i d1 dz hx' hz
          split at h3
          · rename_i z' hz'
            exact sn' d1 dz z' _ _ Gc H3 Q hz' P3.post.rel.sub (P3.post.rel.val rx3 hx') (P3.post.rel.val rx4 hz) fun w H' G' n => h3.fin P3.post n
          · exact h3.elim
        · exact h3.elim
  · exact h2.elim
theorem a_chain {op op' : CmpOp} {g g' : D → D → Option E} {r r' : R2} (ho : OpR X (compareOp op) r) (ho' : OpR X (compareOp op') r') (sn : Snd2 X.bk g r) (sn' : Snd2 X.bk g' r') (nb : ∀ x y v, g x y = some v → ∃ k, v = eBl k)
    (ha : PEa X W a fa) (hb : PEa X W b fb) (hc : PEa X W c fc) (hm : lastMarks [op, op'] [b, c] = false := by with_unfolding_all rfl) : PEa X W (.Compare a [op, op'] [b, c] pos) (aChain g g' fa fb fc) :=
  pe_imp (pe_chain ho ho' ha hb hc hm) (chain_imp sn sn' nb)
theorem a_tchain {op op' : CmpOp} {g g' : D → D → Option E} {r r' : R2} (ho : OpR X (compareOp op) r) (ho' : OpR X (compareOp op') r') (sn : Snd2 X.bk g r) (sn' : Snd2 X.bk g' r') (nb : ∀ x y v, g x y = some v → ∃ k, v = eBl k)
    (ha : PEa X W a fa) (hb : PEa X W b fb) (hc : PEa X W c fc) (hm : lastMarks [op, op'] [b, c] = false := by with_unfolding_all rfl) : PTa X W (.Compare a [op, op'] [b, c] pos) (aT (aChain g g' fa fb fc)) :=
  pt_imp (pt_chain ho ho' ha hb hc hm) fun σ H Q q => chain_imp sn sn' nb σ H _ (aT_imp q)
theorem le_bl (x y : D) (v : E) (e : gLe x y = some v) : ∃ k, v = eBl k := by
  cases x <;> cases y <;> simp only [gLe, Option.some.injEq, reduceCtorEq] at e <;> exact ⟨_, e.symm⟩
theorem lt_bl (x y : D) (v : E) (e : gLt x y = some v) : ∃ k, v = eBl k := by
  cases x <;> cases y <;> simp only [gLt, Option.some.injEq, reduceCtorEq] at e <;> exact ⟨_, e.symm⟩
/-! ### argument lists, displays -/
def aNil : List S → Res (List E) := fun ρ => .ok [] ρ
def aCons (f : List S → Res E) (r : List S → Res (List E)) : List S → Res (List E) := fun ρ => (f ρ).bind fun v ρ1 => (r ρ1).bind fun vs ρ2 => .ok (v :: vs) ρ2
theorem a_nil : PAa X W [] aNil := pa_imp pa_nil fun σ H Q ⟨G, ρ, r, h⟩ => h [] H G (Pend.nil r)
theorem a_cons (he : PEa X W e fa) (hr : PAa X W es fs) (hs : starEach (e :: es) X.env = (false, eval e X.env) :: starEach es X.env := by rfl) : PAa X W (e :: es) (aCons fa fs) :=
  pa_imp (pa_cons he hr hs) fun σ H Q ⟨G, ρ, r, h⟩ => by
    refine lift_mono (lift_first r (AftA.cl (Q := Q)) h) fun u H1 ⟨v, ρ1, G1, P1, h1⟩ => ?_
    refine liftA_mono (liftA_next P1 (AftA.cl (Q := Q)) h1) fun us H2 ⟨vs, ρ2, G2, P2, h2⟩ => ?_
    exact h2 _ _ _ P2
/-- contents of an argument list -/
def valL (ρ : List S) : List E → Option (List D)
  | [] => some []
  | v :: vs => match v.val ρ, valL ρ vs with
    | some x, some xs => some (x :: xs)
    | _, _ => none
def TzL (B : Bk) (G H : Hp) : List V → List D → Prop
  | [], [] => True
  | u :: us, d :: ds => Tz B G H u d ∧ TzL B G H us ds
  | [], _ :: _ => False
  | _ :: _, [] => False
theorem Pend.tail {B : Bk} {σ : St} {ρ0 ρ : List S} {H0 G0 H G : Hp} {u : V} {v : E} {us : List V} {vs : List E} (p : Pend B σ ρ0 H0 G0 ρ H G (u :: us) (v :: vs)) : Pend B σ ρ0 H0 G0 ρ H G us vs :=
  ⟨p.post, by simpa using p.len, fun i w e => p.re (i + 1) w e, fun i o a e e' => p.new (i + 1) o a e e', fun i j o o' a e e' w w' => by have := p.apart (i + 1) (j + 1) o o' a e e' w w'; omega⟩
theorem Pend.vals {B : Bk} {σ : St} {ρ0 ρ : List S} {H0 G0 H G : Hp} : ∀ {us : List V} {vs : List E} {xs : List D}, Pend B σ ρ0 H0 G0 ρ H G us vs → valL ρ vs = some xs → TzL B G H us xs
  | [], [], xs, _, e => by cases e; trivial
  | [], _ :: _, _, p, _ => by have := p.len; simp at this
  | _ :: _, [], _, p, _ => by have := p.len; simp at this
  | u :: us, v :: vs, xs, p, e => by
    simp only [valL] at e
    split at e
    · rename_i x ys e1 e2
      cases e
      obtain ⟨w, ew, rw'⟩ := p.re 0 v rfl
      cases ew
      exact ⟨p.post.rel.val rw' e1, Pend.vals p.tail e2⟩
    · cases e
/-- the first of some values is given away -/
theorem Pend.keep1 {B : Bk} {σ : St} {ρ0 ρ ρ' : List S} {H0 G0 H G : Hp} {u : V} {v : E} {us : List V} {vs : List E} {x : D} (p : Pend B σ ρ0 H0 G0 ρ H G (u :: us) (v :: vs)) (e : keep1 v ρ = some (x, ρ')) :
    ∃ G', Pend B σ ρ0 H0 G0 ρ' H G' us vs ∧ Fz B G' u x ∧ Same G G' := by
  obtain ⟨w, ew, rw'⟩ := p.re 0 v rfl
  cases ew
  have fr_of : ∀ {i : Nat} {o : O}, (v :: vs)[i]? = some (.fr o) → ∃ a ho, (u :: us)[i]? = some (.ref a) ∧ H a = some ho ∧ G a = none ∧ RO B G a ho o ∧ ∀ j, ¬ Own σ ρ j a := fun {i o} e => by
    obtain ⟨y, e1, a, ho, rfl, r1, r2, r3, r4⟩ := p.re i _ e
    exact ⟨a, ho, e1, r1, r2, r3, r4⟩
  cases v with
  | d y =>
    cases e
    exact ⟨G, p.tail, rw', .refl _⟩
  | sl i =>
    obtain ⟨G', q, hf, hk⟩ := freeze_ok p.post.rel rw' e
    refine ⟨G', ⟨p.post.trans q, p.tail.len, fun j w ej => ?_, fun j o a ej e' => p.tail.new j o a ej e', p.tail.apart⟩, hf, q.grow⟩
    obtain ⟨y, e1, e2⟩ := p.tail.re j w ej
    exact ⟨y, e1, e2.step q⟩
  | fr o =>
    cases e
    obtain ⟨a, ho, rfl, r1, r2, r3, r4⟩ := rw'
    have h0 := p.new 0 o a rfl rfl
    have sg : Same G (upd G a ho) := upd_self_same r2
    have q : Post B σ ρ0 H0 G0 σ ρ H (upd G a ho) := by
      refine ⟨p.post.grow.trans sg, p.post.dom, p.post.frame, fun b ob hb hg n => ?_, ⟨fun b ob hb => ?_, p.post.rel.len, fun j s hs => ?_, p.post.rel.sep⟩, p.post.own⟩
      · rw [upd_ne (ne_of_none hb h0)]; exact p.post.keep b ob hb hg n
      · by_cases hb' : b = a
        · subst hb'; rw [upd_same] at hb; cases hb; exact r1
        · rw [upd_ne hb'] at hb; exact p.post.rel.sub b ob hb
      · obtain ⟨w, e1, e2⟩ := p.post.rel.slot j s hs
        refine ⟨w, e1, ?_⟩
        cases s with
        | no => trivial
        | d y => obtain ⟨w', q1, q2⟩ := e2; exact ⟨w', q1, Fz.mono sg _ _ q2⟩
        | own o' =>
          obtain ⟨b, ob', q1, q2, q3, q4⟩ := e2
          subst q1
          refine ⟨b, ob', rfl, q2, ?_, q4.mono sg⟩
          rw [upd_ne]
          · exact q3
          · intro z
            subst z
            exact r4 j ⟨e1, o', hs⟩
    refine ⟨upd G a ho, ⟨q, p.tail.len, fun j w ej => ?_, p.tail.new, p.tail.apart⟩, (r3.mono sg).fz upd_same, sg⟩
    obtain ⟨y, e1, e2⟩ := p.tail.re j w ej
    refine ⟨y, e1, ?_⟩
    cases w with
    | d z => exact Fz.mono sg _ _ e2
    | sl k => exact e2
    | fr o' =>
      obtain ⟨b, ob, rfl, t1, t2, t3, t4⟩ := e2
      refine ⟨b, ob, rfl, t1, ?_, t3.mono sg, t4⟩
      rw [upd_ne]
      · exact t2
      · intro z
        subst z
        have := p.apart 0 (j + 1) o o' b rfl ej rfl e1
        omega
theorem Pend.keepL {B : Bk} {σ : St} {ρ0 : List S} {H0 G0 H : Hp} : ∀ {us : List V} {vs : List E} {xs : List D} {ρ ρ' : List S} {G : Hp}, Pend B σ ρ0 H0 G0 ρ H G us vs → keepL vs ρ = some (xs, ρ') →
    ∃ G', Post B σ ρ0 H0 G0 σ ρ' H G' ∧ FzL B G' us xs ∧ Same G G'
  | [], [], xs, ρ, ρ', G, p, e => by cases e; exact ⟨G, p.post, .nil, .refl _⟩
  | [], _ :: _, _, _, _, _, p, _ => by have := p.len; simp at this
  | _ :: _, [], _, _, _, _, p, _ => by have := p.len; simp at this
  | u :: us, v :: vs, xs, ρ, ρ', G, p, e => by
    simp only [AL.keepL] at e
    split at e
    · cases e
    · rename_i x ρ1 e1
      split at e
      · cases e
      · rename_i ys ρ2 e2
        cases e
        obtain ⟨G1, p1, f1, s1⟩ := p.keep1 e1
        obtain ⟨G2, p2, f2, s2⟩ := Pend.keepL p1 e2
        exact ⟨G2, p2, .cons (Fz.mono s2 _ _ f1) f2, s1.trans s2⟩
/-- (a, b, ..) -/
def aTup (fs : List S → Res (List E)) : List S → Res E := fun ρ => (fs ρ).bind fun vs ρ1 => match keepL vs ρ1 with
  | some (xs, ρ2) => if xs.length ≤ sizeLine then .ok (.d (.tup xs)) ρ2 else .no
  | none => .no
/-- [a, b, ..] -/
def aLst (fs : List S → Res (List E)) : List S → Res E := fun ρ => (fs ρ).bind fun vs ρ1 => match keepL vs ρ1 with
  | some (xs, ρ2) => if xs.length ≤ sizeLine then .ok (.fr (.lst xs)) ρ2 else .no
  | none => .no
theorem a_tup {x1 : Nat} (h : PAa X W es fs) : PEa X W (.Tuple es x1 pos) (aTup fs) :=
  pe_imp (pe_tup h) fun σ H Q ⟨G, ρ, r, h⟩ => by
    refine liftA_mono (liftA_first r (Aft.cl (Q := Q)) h) fun us H1 ⟨vs, ρ1, G1, P, h1⟩ => ?_
    split at h1
    · rename_i xs ρ2 e
      split at h1
      · rename_i hz
        obtain ⟨G2, p, f, _⟩ := P.keepL e
        exact ⟨by rw [f.length]; exact hz, fun q hq => h1.fin p (.tup p.rel.sub hq f)⟩
      · exact h1.elim
    · exact h1.elim
theorem a_lst (h : PAa X W es fs) : PEa X W (.List es pos) (aLst fs) :=
  pe_imp (pe_lst h) fun σ H Q ⟨G, ρ, r, h⟩ => by
    refine liftA_mono (liftA_first r (Aft.cl (Q := Q)) h) fun us H1 ⟨vs, ρ1, G1, P, h1⟩ => ?_
    split at h1
    · rename_i xs ρ2 e
      split at h1
      · rename_i hz
        obtain ⟨G2, p, f, _⟩ := P.keepL e
        exact ⟨by rw [f.length]; exact hz, fun q hq => h1.fin p (.own p.rel.sub hq ⟨us, rfl, f⟩)⟩
      · exact h1.elim
    · exact h1.elim
/-! ### calls of built-ins, by content -/
def SndL (B : Bk) (g : List D → Option E) (r : List V → Hp → VK → Prop) : Prop :=
  ∀ (xs : List D) (v : E) (as : List V) (G H : Hp) (Q : VK), g xs = some v → Same G H → TzL B G H as xs → (∀ u H' G', New B G H u v H' G' → Q u H') → r as H Q
def aCall (g : List D → Option E) (fs : List S → Res (List E)) : List S → Res E := fun ρ => (fs ρ).bind fun vs ρ1 => match (valL ρ1 vs).bind g with
  | some v => .ok v ρ1
  | none => .no
theorem call_imp {B : Bk} {g : List D → Option E} {r : List V → Hp → VK → Prop} (sn : SndL B g r) (σ : St) (H : Hp) (Q : VK) (h : lift B W (aCall g fs) σ H Q) : tCB r (liftA B W fs) σ H Q := by
  obtain ⟨G, ρ, rl, h⟩ := h
  refine liftA_mono (liftA_first rl (Aft.cl (Q := Q)) h) fun us H1 ⟨vs, ρ1, G1, P, h1⟩ => ?_
  split at h1
  · rename_i v e
    obtain ⟨xs, e1, e2⟩ := Option.bind_eq_some_iff.mp e
    exact sn xs v us G1 H1 Q e2 P.post.rel.sub (P.vals e1) fun u H' G' n => h1.fin P.post n
  · exact h1.elim
section
variable {x : Str} {p : Pos} {id T : String} {g : List D → Option E} {r : List V → Hp → VK → Prop}
theorem a_callB (hc : CallR X (.builtin id) r) (sn : SndL X.bk g r) (hm : X.mg x = none) (hv : bootBuiltins x = some (.builtin id)) (ha : PAa X W (e :: es) fs) (hg : Gl X x := by rfl) (hn : x ≠ "__name__" := by decide) (hdb : (x == ("__debug__" : Str)) = false := by decide)
    (he : starEach (e :: es) X.env = (false, eval e X.env) :: starEach es X.env := by rfl) (hpl : (backTo pos (starEach es X.env)).any (·.1) = false := by rfl) : PEa X W (.Call (.Name x p) (e :: es) [] pos) (aCall g fs) :=
  pe_imp (pe_callB hc hg hm hv ha hn hdb he hpl) (call_imp sn)
theorem a_callT (hc : CallR X (.type T) r) (sn : SndL X.bk g r) (hm : X.mg x = none) (hv : bootBuiltins x = some (.type T)) (ha : PAa X W (e :: es) fs) (hg : Gl X x := by rfl) (hn : x ≠ "__name__" := by decide) (hdb : (x == ("__debug__" : Str)) = false := by decide)
    (he : starEach (e :: es) X.env = (false, eval e X.env) :: starEach es X.env := by rfl) (hpl : (backTo pos (starEach es X.env)).any (·.1) = false := by rfl) : PEa X W (.Call (.Name x p) (e :: es) [] pos) (aCall g fs) :=
  pe_imp (pe_callTy hc hg hm hv ha hn hdb he hpl) (call_imp sn)
end
end
end L2.AL
/-! A5: starred parts, slices, the built-ins by content, methods, stores. -/
namespace L2.AL
open PySem PySem.Spec PyProof.Rows
section
variable {X : Cx} {W : WX'} {a b c e o : Expr} {rest es : List Expr} {fa fb fc : List S → Res E} {fs : List S → Res (List E)} {pos : Pos}
/-! ### *e in a display or a call -/
def D.seq? : D → Option (List D)
  | .tup xs => some xs
  | .lst xs => some xs
  | _ => none
def aStar (f : List S → Res E) (r : List S → Res (List E)) : List S → Res (List E) := fun ρ => (f ρ).bind fun v ρ1 => match (v.val ρ1).bind D.seq? with
  | some xs => (r ρ1).bind fun vs ρ2 => .ok (xs.map E.d ++ vs) ρ2
  | none => .no
theorem pend_items {B : Bk} {σ : St} {ρ0 ρ : List S} {H0 G0 H G : Hp} {us : List V} {ds : List D} (p : Post B σ ρ0 H0 G0 σ ρ H G) (h : FzL B G us ds) : Pend B σ ρ0 H0 G0 ρ H G us (ds.map E.d) := by
  refine ⟨p, by rw [List.length_map]; exact h.length, fun i v e => ?_, fun i o a e => ?_, fun i j o o' a e => ?_⟩
  · rw [List.getElem?_map] at e
    obtain ⟨d, e1, rfl⟩ := Option.map_eq_some_iff.mp e
    obtain ⟨u, e2, hf⟩ := h.get e1
    exact ⟨u, e2, hf⟩
  · rw [List.getElem?_map] at e
    obtain ⟨d, e1, e2⟩ := Option.map_eq_some_iff.mp e
    cases e2
  · rw [List.getElem?_map] at e
    obtain ⟨d, e1, e2⟩ := Option.map_eq_some_iff.mp e
    cases e2
theorem seq_of {B : Bk} {G H : Hp} {u : V} {x : D} {xs : List D} (s : Same G H) (h : Tz B G H u x) (e : x.seq? = some xs) : ∃ p us, u = .ref p ∧ (SqT B.K H p us ∨ SqL B.K H p us) ∧ FzL B G us xs := by
  cases x <;> simp only [D.seq?, Option.some.injEq, reduceCtorEq] at e
  · subst e
    obtain ⟨p, us, rfl, h1, h2⟩ := tz_tup h
    exact ⟨p, us, rfl, .inl (Same.sqt s h1), h2⟩
  · subst e
    obtain ⟨p, us, rfl, h1, h2⟩ := h
    exact ⟨p, us, rfl, .inr (SqL.of h1), h2⟩
theorem a_star {p : Pos} (he : PEa X W e fa) (hr : PAa X W es fs) (hs : starEach (.Starred e p :: es) X.env = (true, eval e X.env) :: starEach es X.env := by rfl) : PAa X W (.Starred e p :: es) (aStar fa fs) :=
  pa_imp (StX.pa_star he hr hs) fun σ H Q ⟨G, ρ, r, h⟩ => by
    refine lift_mono (lift_first r (AftA.cl (Q := Q)) h) fun u H1 ⟨v, ρ1, G1, P1, h1⟩ => ?_
    obtain ⟨w, ew, rw'⟩ := P1.re 0 v rfl
    cases ew
    split at h1
    · rename_i xs hx
      obtain ⟨d, e1, e2⟩ := Option.bind_eq_some_iff.mp hx
      obtain ⟨q, us, rfl, hq, hf⟩ := seq_of P1.post.rel.sub (P1.post.rel.val rw' e1) e2
      refine ⟨q, us, rfl, hq, ?_⟩
      exact liftA_mono (liftA_next (pend_items P1.post hf) (AftA.cl (Q := Q)) h1) fun ys H2 ⟨vs, ρ2, G2, P2, h2⟩ => h2 _ _ _ P2
    · exact h1.elim
/-! ### slices -/
def AftO (B : Bk) (W : WX') (σ : St) (ρ : List S) (H G : Hp) (Q : Option Int → Hp → Prop) : Res (Option Int) → Prop
  | .ok b ρ' => ∀ H' G', Post B σ ρ H G σ ρ' H' G' → Q b H'
  | .ex e ρ' => Out B W σ ρ H G e ρ'
  | .no => False
def liftO (B : Bk) (W : WX') (f : List S → Res (Option Int)) : TO := fun σ H Q => ∃ G ρ, Rel B G σ ρ H ∧ AftO B W σ ρ H G Q (f ρ)
theorem AftO.cl {B : Bk} {σ : St} {ρ : List S} {H G : Hp} {Q : Option Int → Hp → Prop} : Cl B W σ ρ H G (AftO B W σ ρ H G Q) := ⟨fun _ _ h => h, fun h => h⟩
abbrev POa (X : Cx) (W : WX') (e : Option Expr) (f : List S → Res (Option Int)) : Prop := PO X e (liftO X.bk W f)
def aPartN : List S → Res (Option Int) := fun ρ => .ok none ρ
def aPart (f : List S → Res E) : List S → Res (Option Int) := fun ρ => (f ρ).bind fun v ρ1 => match v with
  | .d (.int i) => .ok (some i) ρ1
  | _ => .no
theorem po_imp {e : Option Expr} {t t' : TO} (h : PO X e t) (w : ∀ σ H Q, t' σ H Q → t σ H Q) : PO X e t' := ⟨fun pins s σ H Q I q => h.run pins s σ H Q I (w σ H Q q)⟩
theorem a_partN : POa X W none aPartN := po_imp po_none fun σ H Q ⟨G, ρ, r, h⟩ => h H G (.refl r)
theorem a_part (h : PEa X W e fa) : POa X W (some e) (aPart fa) := po_imp (po_some h) fun σ H Q ⟨G, ρ, r, h⟩ => by
  refine lift_mono (lift_first r (AftO.cl (Q := Q)) h) fun u H1 ⟨v, ρ1, G1, P1, h1⟩ => ?_
  obtain ⟨w, ew, rw'⟩ := P1.re 0 v rfl
  cases ew
  split at h1
  · rename_i i
    have rw' : Fz X.bk G1 u (.int i) := rw'
    rw [Fz] at rw'
    exact ⟨i, rw', h1 _ _ P1.post⟩
  · exact h1.elim
theorem liftO_mono {B : Bk} {σ : St} {H : Hp} {f : List S → Res (Option Int)} {Q Q' : Option Int → Hp → Prop} (h : liftO B W f σ H Q) (w : ∀ u H, Q u H → Q' u H) : liftO B W f σ H Q' := by
  obtain ⟨G, ρ, r, h⟩ := h
  refine ⟨G, ρ, r, ?_⟩
  cases e : f ρ with
  | ok v ρ1 => rw [e] at h; exact fun H' G' p => w _ _ (h H' G' p)
  | ex x ρ1 => rw [e] at h; exact h
  | no => rw [e] at h; exact h
theorem Pend.step {B : Bk} {σ : St} {ρ0 ρ ρ' : List S} {H0 G0 H G H' G' : Hp} {us : List V} {vs : List E} (p : Pend B σ ρ0 H0 G0 ρ H G us vs) (q : Post B σ ρ H G σ ρ' H' G') : Pend B σ ρ0 H0 G0 ρ' H' G' us vs :=
  ⟨p.post.trans q, p.len, fun i v e => let ⟨u, e1, e2⟩ := p.re i v e; ⟨u, e1, e2.step q⟩, p.new, p.apart⟩
theorem liftO_next {B : Bk} {σ : St} {ρ0 ρ : List S} {H0 G0 H G : Hp} {us : List V} {vs : List E} {β : Type} {Φ : Res β → Prop} {f : List S → Res (Option Int)} {k : Option Int → List S → Res β} (p : Pend B σ ρ0 H0 G0 ρ H G us vs) (c : Cl B W σ ρ0 H0 G0 Φ) (h : Φ ((f ρ).bind k)) :
    liftO B W f σ H (fun b H1 => ∃ ρ1 G1, Pend B σ ρ0 H0 G0 ρ1 H1 G1 us vs ∧ Φ (k b ρ1)) := by
  refine ⟨G, ρ, p.post.rel, ?_⟩
  cases e : f ρ with
  | ok v ρ1 =>
    rw [e] at h
    exact fun H' G' q => ⟨ρ1, G', p.step q, h⟩
  | ex x ρ1 =>
    rw [e] at h
    exact (c.ex x ρ1 h).back p.post
  | no =>
    rw [e] at h
    exact c.no h
def cutG {α : Type} (xs : List α) (lo hi : Option Int) : List α := (xs.drop (HT.sIx xs.length 0 lo)).take (HT.sIx xs.length xs.length hi - HT.sIx xs.length 0 lo)
def gSl : D → Option Int → Option Int → Option E
  | .lst xs, lo, hi => some (.fr (.lst (cutG xs lo hi)))
  | .tup xs, lo, hi => some (.d (.tup (cutG xs lo hi)))
  | .str z, lo, hi => if z.length ≤ sizeLine then some (eStr (cutS z lo hi)) else none
  | _, _, _ => none
theorem FzL.cut {B : Bk} {G : Hp} {us : List V} {ds : List D} (h : FzL B G us ds) (lo hi : Option Int) : FzL B G (cutV us lo hi) (cutG ds lo hi) := by
  unfold cutV cutG
  rw [h.length]
  exact FzL.take _ (FzL.drop _ h)
theorem cutG_whole {α : Type} {xs : List α} {lo hi : Option Int} (h : HT.sIx xs.length 0 lo = 0 ∧ HT.sIx xs.length xs.length hi = xs.length) : cutG xs lo hi = xs := by
  unfold cutG
  rw [h.1, h.2]
  simp
def rSlX (K : PySem.W.Frag) : V → Option Int → Option Int → Hp → VK → Prop := fun x lo hi H Q => rSlL K x lo hi H Q ∨ (rSlA K x lo hi H Q ∨ rSlS x lo hi H Q)
theorem sl_any : SlR X (rSlX X.K) := sl_list.or (sl_tupA.or sl_str)
theorem sl_snd {B : Bk} {x : D} {lo hi : Option Int} {v : E} {u : V} {G H : Hp} {Q : VK} (e : gSl x lo hi = some v) (s : Same G H) (h : Tz B G H u x) (q : ∀ w H' G', New B G H w v H' G' → Q w H') : rSlX B.K u lo hi H Q := by
  cases x <;> simp only [gSl, Option.some.injEq, reduceCtorEq] at e
  · split at e
    · rename_i hz
      cases e
      exact .inr (.inr ⟨_, tz_str h, hz, q _ _ _ (.scalar s (fz_str _))⟩)
    · cases e
  · subst e
    obtain ⟨p, us, rfl, h1, h2⟩ := tz_tup h
    refine .inr (.inl ⟨p, us, rfl, Same.sqt s h1, fun hw => ?_, fun hw r hr => q _ _ _ (.tup s hr (h2.cut lo hi))⟩)
    rw [h2.length] at hw
    refine q _ _ _ (.scalar s ?_)
    rw [cutG_whole hw]
    exact h
  · subst e
    obtain ⟨p, us, rfl, h1, h2⟩ := h
    exact .inl ⟨p, us, rfl, SqL.of h1, fun r hr => q _ _ _ (.own s hr ⟨_, rfl, h2.cut lo hi⟩)⟩
def aSlice (f : List S → Res E) (fl fh : List S → Res (Option Int)) : List S → Res E := fun ρ => (f ρ).bind fun v ρ1 => (fl ρ1).bind fun lo ρ2 => (fh ρ2).bind fun hi ρ3 => match (v.val ρ3).bind fun x => gSl x lo hi with
  | some w => .ok w ρ3
  | none => .no
theorem a_slice {lo hi : Option Expr} {fl fh : List S → Res (Option Int)} {p2 : Pos} (he : PEa X W e fa) (hl : POa X W lo fl) (hu : POa X W hi fh) : PEa X W (.Subscript e (.Slice lo hi none p2) pos) (aSlice fa fl fh) :=
  pe_imp (pe_slice sl_any he hl hu) fun σ H Q ⟨G, ρ, r, h⟩ => by
    refine lift_mono (lift_first r (Aft.cl (Q := Q)) h) fun u H1 ⟨v, ρ1, G1, P1, h1⟩ => ?_
    refine liftO_mono (liftO_next P1 (Aft.cl (Q := Q)) h1) fun l H2 ⟨ρ2, G2, P2, h2⟩ => ?_
    refine liftO_mono (liftO_next P2 (Aft.cl (Q := Q)) h2) fun k H3 ⟨ρ3, G3, P3, h3⟩ => ?_
    obtain ⟨w, ew, rw'⟩ := P3.re 0 v rfl
    cases ew
    split at h3
    · rename_i z hz
      obtain ⟨d, e1, e2⟩ := Option.bind_eq_some_iff.mp hz
      exact sl_snd e2 P3.post.rel.sub (P3.post.rel.val rw' e1) fun w H' G' n => h3.fin P3.post n
    · exact h3.elim
/-! ### built-ins by content -/
theorem tzl1 {B : Bk} {G H : Hp} {us : List V} {x : D} (h : TzL B G H us [x]) : ∃ u, us = [u] ∧ Tz B G H u x := by
  match us, h with
  | [u], h => exact ⟨u, rfl, h.1⟩
theorem tzl2 {B : Bk} {G H : Hp} {us : List V} {x y : D} (h : TzL B G H us [x, y]) : ∃ u v, us = [u, v] ∧ Tz B G H u x ∧ Tz B G H v y := by
  match us, h with
  | [u, v], h => exact ⟨u, v, rfl, h.1, h.2.1⟩
def gLen : List D → Option E
  | [.lst xs] => some (eInt xs.length)
  | [.tup xs] => some (eInt xs.length)
  | [.scr xs] => some (eInt xs.length)
  | [.str z] => if z.length ≤ sizeLine then some (eInt z.length) else none
  | [.dct kvs] => some (eInt kvs.length)
  | [.dd kvs] => some (eInt kvs.length)
  | _ => none
theorem FzD.length {B : Bk} {G : Hp} : ∀ {us : EnL} {ds : List (D × D)}, FzD B G us ds → us.length = ds.length
  | [], [], _ => rfl
  | [], _ :: _, h => by rw [FzD] at h; exact h.elim
  | _ :: _, [], h => by rw [FzD] at h; exact h.elim
  | _ :: _, _ :: _, h => by rw [FzD] at h; rw [List.length_cons, List.length_cons, FzD.length h.2.2.2]
theorem FzK.length {B : Bk} {G : Hp} : ∀ {us : List (Key × V)} {ds : List (Key × D)}, FzK B G us ds → us.length = ds.length
  | [], [], _ => rfl
  | [], _ :: _, h => by rw [FzK] at h; exact h.elim
  | _ :: _, [], h => by rw [FzK] at h; exact h.elim
  | _ :: _, _ :: _, h => by rw [FzK] at h; rw [List.length_cons, List.length_cons, FzK.length h.2.2]
abbrev rLenA (K : PySem.W.Frag) (w : World) : List V → Hp → VK → Prop := fun xs H Q => ((∃ x n, xs = [x] ∧ LenV K x H n ∧ Q (.int n) H) ∨ (∃ a kvs, xs = [V.ref a] ∧ H a = some (.dK kvs) ∧ Q (.int kvs.length) H)) ∨ rLenN K w xs H Q
theorem call_lenA : CallR X (.builtin "len") (rLenA X.K X.w) := (call_len.or call_lenD).or call_lenN
theorem len_snd {B : Bk} : SndL B gLen (rLenA B.K B.w) := by
  intro xs v us G H Q e s hx q
  unfold gLen at e
  split at e
  · cases e
    obtain ⟨u, rfl, p, ws, rfl, h1, h2⟩ := tzl1 hx
    exact .inl (.inl ⟨_, _, rfl, .inl ⟨ws, SqL.of h1, rfl⟩, by rw [h2.length]; exact q _ _ _ (.scalar s (fz_int _))⟩)
  · cases e
    obtain ⟨u, rfl, h⟩ := tzl1 hx
    obtain ⟨p, ws, rfl, h1, h2⟩ := tz_tup h
    exact .inl (.inl ⟨_, _, rfl, .inr ⟨ws, Same.sqt s h1, rfl⟩, by rw [h2.length]; exact q _ _ _ (.scalar s (fz_int _))⟩)
  · cases e
    rename_i ns
    obtain ⟨u, rfl, h⟩ := tzl1 hx
    have h : Fz B G u (.scr ns) := h
    rw [Fz] at h
    obtain ⟨p, rfl, h1⟩ := h
    exact .inl (.inl ⟨_, _, rfl, .inl ⟨_, Same.seq s h1, rfl⟩, by rw [List.length_map]; exact q _ _ _ (.scalar s (fz_int _))⟩)
  · split at e
    · rename_i hz
      cases e
      obtain ⟨u, rfl, h⟩ := tzl1 hx
      exact .inl (.inl ⟨_, _, rfl, by rw [tz_str h]; exact ⟨hz, rfl⟩, q _ _ _ (.scalar s (fz_int _))⟩)
    · cases e
  · cases e
    obtain ⟨u, rfl, p, ws, rfl, h1, h2⟩ := tzl1 hx
    exact .inl (.inr ⟨_, _, rfl, h1, by rw [h2.length]; exact q _ _ _ (.scalar s (fz_int _))⟩)
  · cases e
    obtain ⟨u, rfl, p, ob, es, rfl, h1, h2⟩ := tzl1 hx
    exact .inr ⟨p, es, rfl, ⟨ob, h1, fzd_k s h2⟩, by rw [h2.length]; exact q _ _ _ (.scalar s (fz_int _))⟩
  · cases e
def gAbs : List D → Option E
  | [.int i] => some (eInt (if i < 0 then -i else i))
  | _ => none
theorem abs_snd {B : Bk} : SndL B gAbs (fun xs H Q => ∃ i, xs = [.int i] ∧ Q (.int (if i < 0 then -i else i)) H) := by
  intro xs v us G H Q e s hx q
  unfold gAbs at e
  split at e
  · cases e
    obtain ⟨u, rfl, h⟩ := tzl1 hx
    exact ⟨_, by rw [tz_int h], q _ _ _ (.scalar s (fz_int _))⟩
  · cases e
def gMax : List D → Option E
  | [.int i, .int j] => some (eInt (if j > i then j else i))
  | _ => none
def gMin : List D → Option E
  | [.int i, .int j] => some (eInt (if j < i then j else i))
  | _ => none
theorem max_snd {B : Bk} : SndL B gMax (fun xs H Q => ∃ i j, xs = [.int i, .int j] ∧ Q (.int (if j > i then j else i)) H) := by
  intro xs v us G H Q e s hx q
  unfold gMax at e
  split at e
  · cases e
    obtain ⟨u, w, rfl, h, h'⟩ := tzl2 hx
    exact ⟨_, _, by rw [tz_int h, tz_int h'], q _ _ _ (.scalar s (fz_int _))⟩
  · cases e
theorem min_snd {B : Bk} : SndL B gMin (fun xs H Q => ∃ i j, xs = [.int i, .int j] ∧ Q (.int (if j < i then j else i)) H) := by
  intro xs v us G H Q e s hx q
  unfold gMin at e
  split at e
  · cases e
    obtain ⟨u, w, rfl, h, h'⟩ := tzl2 hx
    exact ⟨_, _, by rw [tz_int h, tz_int h'], q _ _ _ (.scalar s (fz_int _))⟩
  · cases e
def gInt : List D → Option E
  | [.int i] => some (eInt i)
  | [.bl k] => some (eInt (if k then 1 else 0))
  | [.str z] => if z.length ≤ 640 then (PySem.intText? z).map eInt else none
  | _ => none
abbrev rIntA : List V → Hp → VK → Prop := fun xs H Q => ((∃ i, xs = [.int i] ∧ Q (.int i) H) ∨ ∃ k, xs = [.bl k] ∧ Q (.int (if k then 1 else 0)) H) ∨ (∃ a n, xs = [.str a] ∧ PySem.intText? a = some n ∧ a.length ≤ 640 ∧ Q (.int n) H)
theorem call_intA : CallR X (.type "int") rIntA := call_int1.or call_int_str
theorem int_snd {B : Bk} : SndL B gInt rIntA := by
  intro xs v us G H Q e s hx q
  unfold gInt at e
  split at e
  · cases e
    obtain ⟨u, rfl, h⟩ := tzl1 hx
    exact .inl (.inl ⟨_, by rw [tz_int h], q _ _ _ (.scalar s (fz_int _))⟩)
  · cases e
    obtain ⟨u, rfl, h⟩ := tzl1 hx
    exact .inl (.inr ⟨_, by rw [tz_bl h], q _ _ _ (.scalar s (fz_int _))⟩)
  · split at e
    · rename_i hz
      obtain ⟨n, e1, rfl⟩ := Option.map_eq_some_iff.mp e
      obtain ⟨u, rfl, h⟩ := tzl1 hx
      exact .inr ⟨_, n, by rw [tz_str h], e1, hz, q _ _ _ (.scalar s (fz_int _))⟩
    · cases e
  · cases e
def gStr : List D → Option E
  | [.int i] => if i.natAbs.log2 < 1920 then some (eStr (toString i)) else none
  | [.str z] => some (eStr z)
  | _ => none
abbrev rStrA : List V → Hp → VK → Prop := fun xs H Q => (∃ i, xs = [.int i] ∧ i.natAbs.log2 < 1920 ∧ Q (.str (toString i)) H) ∨ (∃ a, xs = [.str a] ∧ Q (.str a) H)
theorem call_strA : CallR X (.type "str") rStrA := call_str_int.or SkE.call_str_str
theorem str_snd {B : Bk} : SndL B gStr rStrA := by
  intro xs v us G H Q e s hx q
  unfold gStr at e
  split at e
  · split at e
    · rename_i hz
      cases e
      obtain ⟨u, rfl, h⟩ := tzl1 hx
      exact .inl ⟨_, by rw [tz_int h], hz, q _ _ _ (.scalar s (fz_str _))⟩
    · cases e
  · cases e
    obtain ⟨u, rfl, h⟩ := tzl1 hx
    exact .inr ⟨_, by rw [tz_str h], q _ _ _ (.scalar s (fz_str _))⟩
  · cases e
/-- a list of truths, of ints, of texts -/
def D.bls? : List D → Option (List Bool)
  | [] => some []
  | .bl b :: r => (D.bls? r).map (b :: ·)
  | _ :: _ => none
def D.ints? : List D → Option (List Int)
  | [] => some []
  | .int b :: r => (D.ints? r).map (b :: ·)
  | _ :: _ => none
def D.strs? : List D → Option (List Str)
  | [] => some []
  | .str b :: r => (D.strs? r).map (b :: ·)
  | _ :: _ => none
theorem bls_v {B : Bk} {G : Hp} : ∀ {ds : List D} {us : List V} {bs : List Bool}, FzL B G us ds → D.bls? ds = some bs → us = bs.map V.bl
  | [], [], _, _, e => by cases e; rfl
  | [], _ :: _, _, h, _ => by rw [FzL] at h; exact h.elim
  | _ :: _, [], _, h, _ => by rw [FzL] at h; exact h.elim
  | d :: ds, u :: us, bs, h, e => by
    rw [FzL] at h
    cases d <;> simp only [D.bls?, reduceCtorEq] at e
    obtain ⟨r, e1, rfl⟩ := Option.map_eq_some_iff.mp e
    have h1 := h.1
    rw [Fz] at h1
    rw [h1, bls_v h.2 e1]; rfl
theorem ints_v {B : Bk} {G : Hp} : ∀ {ds : List D} {us : List V} {bs : List Int}, FzL B G us ds → D.ints? ds = some bs → us = bs.map V.int
  | [], [], _, _, e => by cases e; rfl
  | [], _ :: _, _, h, _ => by rw [FzL] at h; exact h.elim
  | _ :: _, [], _, h, _ => by rw [FzL] at h; exact h.elim
  | d :: ds, u :: us, bs, h, e => by
    rw [FzL] at h
    cases d <;> simp only [D.ints?, reduceCtorEq] at e
    obtain ⟨r, e1, rfl⟩ := Option.map_eq_some_iff.mp e
    have h1 := h.1
    rw [Fz] at h1
    rw [h1, ints_v h.2 e1]; rfl
theorem strs_v {B : Bk} {G : Hp} : ∀ {ds : List D} {us : List V} {bs : List Str}, FzL B G us ds → D.strs? ds = some bs → us = bs.map V.str
  | [], [], _, _, e => by cases e; rfl
  | [], _ :: _, _, h, _ => by rw [FzL] at h; exact h.elim
  | _ :: _, [], _, h, _ => by rw [FzL] at h; exact h.elim
  | d :: ds, u :: us, bs, h, e => by
    rw [FzL] at h
    cases d <;> simp only [D.strs?, reduceCtorEq] at e
    obtain ⟨r, e1, rfl⟩ := Option.map_eq_some_iff.mp e
    have h1 := h.1
    rw [Fz] at h1
    rw [h1, strs_v h.2 e1]; rfl
@[simp] theorem bls_map (bs : List Bool) : D.bls? (bs.map .bl) = some bs := by
  induction bs with
  | nil => rfl
  | cons b r ih => simp [D.bls?, ih]
@[simp] theorem ints_map (bs : List Int) : D.ints? (bs.map .int) = some bs := by
  induction bs with
  | nil => rfl
  | cons b r ih => simp [D.ints?, ih]
@[simp] theorem strs_map (bs : List Str) : D.strs? (bs.map .str) = some bs := by
  induction bs with
  | nil => rfl
  | cons b r ih => simp [D.strs?, ih]
theorem fz_ints {B : Bk} {G : Hp} : ∀ ns : List Int, FzL B G (ns.map V.int) (ns.map .int)
  | [] => .nil
  | n :: r => .cons (fz_int n) (fz_ints r)
theorem fz_strs {B : Bk} {G : Hp} : ∀ ns : List Str, FzL B G (ns.map V.str) (ns.map .str)
  | [] => .nil
  | n :: r => .cons (fz_str n) (fz_strs r)
def gAll : List D → Option E
  | [.lst xs] => (D.bls? xs).map fun bs => eBl (bs.all id)
  | _ => none
def gAny : List D → Option E
  | [.lst xs] => (D.bls? xs).map fun bs => eBl (bs.any id)
  | _ => none
theorem all_snd {B : Bk} : SndL B gAll (rAll B.K) := by
  intro xs v us G H Q e s hx q
  unfold gAll at e
  split at e
  · obtain ⟨bs, e1, rfl⟩ := Option.map_eq_some_iff.mp e
    obtain ⟨u, rfl, p, ws, rfl, h1, h2⟩ := tzl1 hx
    rw [bls_v h2 e1] at h1
    exact ⟨p, bs, rfl, SqL.of h1, q _ _ _ (.scalar s (fz_bl _))⟩
  · cases e
theorem any_snd {B : Bk} : SndL B gAny (rAny B.K) := by
  intro xs v us G H Q e s hx q
  unfold gAny at e
  split at e
  · obtain ⟨bs, e1, rfl⟩ := Option.map_eq_some_iff.mp e
    obtain ⟨u, rfl, p, ws, rfl, h1, h2⟩ := tzl1 hx
    rw [bls_v h2 e1] at h1
    exact ⟨p, bs, rfl, SqL.of h1, q _ _ _ (.scalar s (fz_bl _))⟩
  · cases e
def gTuple : List D → Option E
  | [.lst xs] => some (.d (.tup xs))
  | [.tup xs] => some (.d (.tup xs))
  | _ => none
abbrev rTupA (K : PySem.W.Frag) : List V → Hp → VK → Prop := fun xs H Q => ∃ p ys, xs = [.ref p] ∧ ((SqL K H p ys ∧ ∀ l, H l = none → Q (.ref l) (upd H l (.tup ys))) ∨ (SqT K H p ys ∧ Q (.ref p) H))
theorem tuple_snd {B : Bk} : SndL B gTuple (rTupA B.K) := by
  intro xs v us G H Q e s hx q
  unfold gTuple at e
  split at e
  · cases e
    obtain ⟨u, rfl, p, ws, rfl, h1, h2⟩ := tzl1 hx
    exact ⟨p, ws, rfl, .inl ⟨SqL.of h1, fun l hl => q _ _ _ (.tup s hl h2)⟩⟩
  · cases e
    obtain ⟨u, rfl, h⟩ := tzl1 hx
    obtain ⟨p, ws, rfl, h1, h2⟩ := tz_tup h
    exact ⟨p, ws, rfl, .inr ⟨Same.sqt s h1, q _ _ _ (.scalar s h)⟩⟩
  · cases e
def gList : List D → Option E
  | [.lst xs] => some (.fr (.lst xs))
  | [.tup xs] => some (.fr (.lst xs))
  | _ => none
abbrev rListA (K : PySem.W.Frag) : List V → Hp → VK → Prop := fun xs H Q => ∃ p ys, xs = [.ref p] ∧ (SqL K H p ys ∨ SqT K H p ys) ∧ ∀ l, H l = none → Q (.ref l) (upd H l (.lst ys))
theorem list_snd {B : Bk} : SndL B gList (rListA B.K) := by
  intro xs v us G H Q e s hx q
  unfold gList at e
  split at e
  · cases e
    obtain ⟨u, rfl, p, ws, rfl, h1, h2⟩ := tzl1 hx
    exact ⟨p, ws, rfl, .inl (SqL.of h1), fun l hl => q _ _ _ (.own s hl ⟨_, rfl, h2⟩)⟩
  · cases e
    obtain ⟨u, rfl, h⟩ := tzl1 hx
    obtain ⟨p, ws, rfl, h1, h2⟩ := tz_tup h
    exact ⟨p, ws, rfl, .inr (Same.sqt s h1), fun l hl => q _ _ _ (.own s hl ⟨_, rfl, h2⟩)⟩
  · cases e
/-- sorted, of ints -/
def sortI (ns : List Int) : List Int := ns.mergeSort (fun a b => decide (a ≤ b))
theorem sortI_perm (ns : List Int) : (sortI ns).Perm ns := List.mergeSort_perm _ _
theorem sortI_asc (ns : List Int) : (sortI ns).Pairwise (· ≤ ·) := by
  have h := List.pairwise_mergeSort (le := fun a b : Int => decide (a ≤ b)) (fun a b c h1 h2 => by simp at *; omega) (fun a b => by simp; omega) ns
  exact h.imp fun h => by simpa using h
theorem sortI_of {ns ns' : List Int} (h : ns'.Perm ns) (h' : ns'.Pairwise (· ≤ ·)) : ns' = sortI ns := PySem.W.ksm_same (h.trans (sortI_perm ns).symm) h' (sortI_asc ns)
def gSorted : List D → Option E
  | [.lst xs] => match D.ints? xs with
    | some ns => some (.fr (.lst ((sortI ns).map .int)))
    | none => if sortOk xs = true then some (.fr (.lst (sortD xs))) else none
  | [.tup xs] => if sortOk xs = true then some (.fr (.lst (sortD xs))) else none
  | [.dd kvs] => if sortOk (kvs.map (·.1)) = true then some (.fr (.lst (sortD (kvs.map (·.1))))) else none
  | _ => none
def SrcN (K : PySem.W.Frag) (w : World) (H : Hp) (a : Addr) (xs : List V) : Prop := SqL K H a xs ∨ SqT K H a xs ∨ ∃ ob es, H a = some (dnO w a ob es) ∧ xs = es.map fun e => .ref e.2.1
def rSortedD (K : PySem.W.Frag) (w : World) : List V → Hp → VK → Prop := fun vs H Q => ∃ a ps, vs = [.ref a] ∧ SrcN K w H a (ps.map (·.1)) ∧ (∀ p ∈ ps, Dp K H p.1 p.2.pyd) ∧ sortOk (ps.map (·.2)) = true ∧
  ∀ l, H l = none → Q (.ref l) (upd H l (.lst ((sortP ps).map (·.1))))
theorem cr_sortedD (hc : X.calm = true) (hu : X.A.units + 64 < cLine) : CallR X (.builtin "sorted") (rSortedD X.K X.w) := by
  intro pins s σ H vs us Q I r h
  obtain ⟨a, ps, rfl, src, hd, ok, q⟩ := h
  obtain ⟨u, rfl, rx⟩ := vals1 r
  obtain rfl : u = .ref a := rx
  rcases src with h | h | ⟨ob, es, hp, e⟩
  · obtain ⟨its, rv, ⟨o, n, ho, hcl, _, hdat⟩, hz⟩ := I.list h
    rw [List.length_map] at hz
    refine sorted_col I hu (fun R w => wpAny_collect_seq a (.inl rfl) ho hcl hdat (fun h' hk => w h' s.toks _ hk (by simpa using rv)) ?_) hd ok hz q
    rw [List.size_toArray, ← rv.length, List.length_map]; exact hz
  · obtain ⟨its, rv, ⟨o, ho, hcl, n, hdat⟩, hz⟩ := I.tuple h
    rw [List.length_map] at hz
    refine sorted_col I hu (fun R w => wpAny_collect_seq a (.inr rfl) ho hcl hdat (fun h' hk => w h' s.toks _ hk (by simpa using rv)) ?_) hd ok hz q
    rw [List.size_toArray, ← rv.length, List.length_map]; exact hz
  · obtain ⟨ho, h1, h2, h3, h4, arr, ep, h5, h6⟩ := (I.hok a _ hp).1
    have raw : s.heap.DictRaw a arr ep := ⟨ob, ho, h4, h5⟩
    have hl : arr.size = es.length := by have := Paired.length h6; simpa using this.symm
    have hz : ps.length ≤ sizeLine := by
      have := congrArg List.length e
      rw [List.length_map, List.length_map] at this
      omega
    refine sorted_col I hu (fun R w => PySem.W.kdu_collect (KdlSrc.rawDict h1) (I.ok.hd hc) raw (by omega) fun h' tk acc hk hacc => w h' tk _ hk ?_) hd ok hz q
    rw [e]
    exact keys_vals h6 hacc
theorem fz_pairs {B : Bk} {G H : Hp} (s : Same G H) : ∀ {us : List V} {ds : List D}, FzL B G us ds → ds.all (fun d => d.py.isSome) = true → ∃ ps : List (V × D), ps.map (·.1) = us ∧ ps.map (·.2) = ds ∧ (∀ p ∈ ps, Dp B.K H p.1 p.2.pyd) ∧ ∀ p ∈ ps, Fz B G p.1 p.2
  | [], [], _, _ => ⟨[], rfl, rfl, fun p h => by simp at h, fun p h => by simp at h⟩
  | [], _ :: _, h, _ => by rw [FzL] at h; exact h.elim
  | _ :: _, [], h, _ => by rw [FzL] at h; exact h.elim
  | u :: us, d :: ds, h, hp => by
    rw [FzL] at h
    rw [List.all_cons, Bool.and_eq_true] at hp
    obtain ⟨ps, e1, e2, e3, e4⟩ := fz_pairs s h.2 hp.2
    obtain ⟨p, hp'⟩ := Option.isSome_iff_exists.mp hp.1
    refine ⟨(u, d) :: ps, by rw [List.map_cons, e1], by rw [List.map_cons, e2], fun q hq => ?_, fun q hq => ?_⟩
    · rcases List.mem_cons.mp hq with rfl | hq
      · have := dp_of d u p hp' (Fz.mono s _ _ h.1)
        have e : d.pyd = p := by unfold D.pyd; rw [hp']; rfl
        show Dp B.K H u d.pyd
        rw [e]; exact this
      · exact e3 q hq
    · rcases List.mem_cons.mp hq with rfl | hq
      · exact h.1
      · exact e4 q hq
theorem fzl_of {B : Bk} {G : Hp} : ∀ {ps : List (V × D)}, (∀ p ∈ ps, Fz B G p.1 p.2) → FzL B G (ps.map (·.1)) (ps.map (·.2))
  | [], _ => .nil
  | p :: ps, h => .cons (h p List.mem_cons_self) (fzl_of fun q hq => h q (List.mem_cons_of_mem _ hq))
theorem sortOk_py {ds : List D} (h : sortOk ds = true) : ds.all (fun d => d.py.isSome) = true := by
  unfold sortOk at h
  simp only [Bool.and_eq_true, List.all_eq_true] at h
  rw [List.all_eq_true]
  exact fun d hd => (h.1.1 d hd).1
theorem sort_go {B : Bk} {G H : Hp} {Q : VK} {a : Addr} {us : List V} {ds : List D} (s : Same G H) (f : FzL B G us ds) (src : SrcN B.K B.w H a us) (ok : sortOk ds = true) (q : ∀ l us', H l = none → FzL B G us' (sortD ds) → Q (.ref l) (upd H l (.lst us'))) : rSortedD B.K B.w [.ref a] H Q := by
  obtain ⟨ps, rfl, rfl, h1, h2⟩ := fz_pairs s f (sortOk_py ok)
  refine ⟨a, ps, rfl, src, h1, ok, fun l hl => q l _ hl ?_⟩
  rw [← sortP_snd]
  exact fzl_of fun p hp => h2 p ((sortP_perm ps).mem_iff.mp hp)
theorem fzd_keys {B : Bk} {G : Hp} : ∀ {es : EnL} {ds : List (D × D)}, FzD B G es ds → FzL B G (es.map fun e => V.ref e.2.1) (ds.map (·.1))
  | [], [], _ => .nil
  | [], _ :: _, h => by rw [FzD] at h; exact h.elim
  | _ :: _, [], h => by rw [FzD] at h; exact h.elim
  | _ :: _, _ :: _, h => by rw [FzD] at h; exact .cons h.2.1 (fzd_keys h.2.2.2)
abbrev rSortedA (K : PySem.W.Frag) (w : World) : List V → Hp → VK → Prop := fun xs H Q => rSortedI K xs H Q ∨ rSortedD K w xs H Q
theorem cr_sortedA (hc : X.calm = true) (hu : X.A.units + 64 < cLine) : CallR X (.builtin "sorted") (rSortedA X.K X.w) := cr_sortedI.or (cr_sortedD hc hu)
theorem sorted_snd {B : Bk} : SndL B gSorted (rSortedA B.K B.w) := by
  intro xs v us G H Q e s hx q
  unfold gSorted at e
  split at e
  · rename_i xs
    obtain ⟨u, rfl, p, ws, rfl, h1, h2⟩ := tzl1 hx
    split at e
    · rename_i ns e1
      cases e
      rw [ints_v h2 e1] at h1
      refine .inl ⟨p, ns, rfl, SqL.of h1, fun ns' r hp ha hr => ?_⟩
      rw [sortI_of hp ha]
      exact q _ _ _ (.own s hr ⟨_, rfl, fz_ints _⟩)
    · split at e
      · rename_i ok
        cases e
        exact .inr (sort_go s h2 (.inl (SqL.of h1)) ok fun l us' hl f => q _ _ _ (.own s hl ⟨_, rfl, f⟩))
      · cases e
  · split at e
    · rename_i ok
      cases e
      obtain ⟨u, rfl, h⟩ := tzl1 hx
      obtain ⟨p, ws, rfl, h1, h2⟩ := tz_tup h
      exact .inr (sort_go s h2 (.inr (.inl (Same.sqt s h1))) ok fun l us' hl f => q _ _ _ (.own s hl ⟨_, rfl, f⟩))
    · cases e
  · split at e
    · rename_i ok
      cases e
      obtain ⟨u, rfl, p, ob, es, rfl, h1, h2⟩ := tzl1 hx
      exact .inr (sort_go s (fzd_keys h2) (.inr (.inr ⟨ob, es, h1, rfl⟩)) ok fun l us' hl f => q _ _ _ (.own s hl ⟨_, rfl, f⟩))
    · cases e
  · cases e
/-! ### isinstance -/
def D.tyn : D → String
  | .non => "NoneType"
  | .bl _ => "bool"
  | .int _ => "int"
  | .str _ => "str"
  | .tup _ => "tuple"
  | .lst _ => "list"
  | .dct _ => "dict"
  | .scr _ => "list"
  | .cd _ => "written dict"
  | .dd _ => "nested dict"
  | .ins _ _ => "an own class"
  | .raw _ => "any value"
  | .fn _ => "function"
  | .ty _ => "type"
inductive Ty5 where | int | bool | str | tuple | list | dict
def Ty5.nm : Ty5 → String
  | .int => "int" | .bool => "bool" | .str => "str" | .tuple => "tuple" | .list => "list" | .dict => "dict"
/-- whether a content is of a built-in class -/
def D.isi : D → Ty5 → Option Bool
  | .non, _ => some false
  | .bl _, .bool => some true
  | .bl _, .int => some true
  | .bl _, _ => some false
  | .int _, .int => some true
  | .int _, _ => some false
  | .str _, .str => some true
  | .str _, _ => some false
  | .tup _, .tuple => some true
  | .tup _, _ => some false
  | .lst _, .list => some true
  | .lst _, _ => some false
  | .dct _, .dict => some true
  | .dct _, _ => some false
  | _, _ => none
def gIsi : List D → Option E
  | [x, .ty n] => if n = "int" then (x.isi .int).map eBl else if n = "bool" then (x.isi .bool).map eBl else if n = "str" then (x.isi .str).map eBl else if n = "tuple" then (x.isi .tuple).map eBl
    else if n = "list" then (x.isi .list).map eBl else if n = "dict" then (x.isi .dict).map eBl else none
  | _ => none
theorem kit_non (t : Ty5) : kitB "NoneType" t.nm = some false := by cases t <;> decide +kernel
theorem kit_bool (t : Ty5) : kitB "bool" t.nm = some (match t with | .bool => true | .int => true | _ => false) := by cases t <;> decide +kernel
theorem kit_int (t : Ty5) : kitB "int" t.nm = some (match t with | .int => true | _ => false) := by cases t <;> decide +kernel
theorem kit_str (t : Ty5) : kitB "str" t.nm = some (match t with | .str => true | _ => false) := by cases t <;> decide +kernel
theorem kit_tuple (t : Ty5) : kitB "tuple" t.nm = some (match t with | .tuple => true | _ => false) := by cases t <;> decide +kernel
theorem kit_list (t : Ty5) : kitB "list" t.nm = some (match t with | .list => true | _ => false) := by cases t <;> decide +kernel
theorem kit_dict (t : Ty5) : kitB "dict" t.nm = some (match t with | .dict => true | _ => false) := by cases t <;> decide +kernel
theorem tyx_tup {B : Bk} {H : Hp} {a : Addr} {xs : List V} (h : SqT B.K H a xs) : TyX B.K H (.ref a) (.type "tuple") := by
  rcases h with (h | ⟨o, h⟩) | ⟨o, its, n, h, c, _⟩
  · exact .base (.tup h)
  · exact .fTuple h
  · exact .kTuple h c
theorem isi_v {B : Bk} {G H : Hp} {x : D} {u : V} {t : Ty5} {k : Bool} (s : Same G H) (h : Tz B G H u x) (e : x.isi t = some k) : ∃ ty, TyX B.K H u ty ∧ PySem.W.kitOne B.K ty (.type t.nm) = some k := by
  cases x
  · rw [tz_non h]; exact ⟨_, .base .non, by rw [kit_ty (kit_non t)]; cases t <;> exact e⟩
  · rw [tz_bl h]; exact ⟨_, .base (.bl _), by rw [kit_ty (kit_bool t)]; cases t <;> exact e⟩
  · rw [tz_int h]; exact ⟨_, .base (.int _), by rw [kit_ty (kit_int t)]; cases t <;> exact e⟩
  · rw [tz_str h]; exact ⟨_, .base (.str _), by rw [kit_ty (kit_str t)]; cases t <;> exact e⟩
  · obtain ⟨p, us, rfl, h1, h2⟩ := tz_tup h; exact ⟨_, tyx_tup (Same.sqt s h1), by rw [kit_ty (kit_tuple t)]; cases t <;> exact e⟩
  · obtain ⟨p, us, rfl, h1, h2⟩ := h; exact ⟨_, .base (.lst h1), by rw [kit_ty (kit_list t)]; cases t <;> exact e⟩
  · obtain ⟨p, us, rfl, h1, h2⟩ := h; exact ⟨_, .base (.dK h1), by rw [kit_ty (kit_dict t)]; cases t <;> exact e⟩
  all_goals (cases t <;> cases e)
theorem isi_snd {B : Bk} : SndL B gIsi (rIsi B.K) := by
  intro xs v us G H Q e s hx q
  unfold gIsi at e
  split at e
  · rename_i x n
    obtain ⟨u, w, rfl, h, h'⟩ := tzl2 hx
    have h' : Fz B G w (.ty n) := h'
    rw [Fz] at h'
    subst h'
    have fin : ∀ t : Ty5, n = t.nm → (x.isi t).map eBl = some v → rIsi B.K [u, .ty n] H Q := fun t en e => by
      obtain ⟨k, e1, rfl⟩ := Option.map_eq_some_iff.mp e
      obtain ⟨ty, h1, h2⟩ := isi_v s h e1
      subst en
      exact ⟨u, _, ty, _, k, rfl, .ty _, h1, h2, q _ _ _ (.scalar s (fz_bl _))⟩
    split at e
    · rename_i en; exact fin .int en e
    · split at e
      · rename_i en; exact fin .bool en e
      · split at e
        · rename_i en; exact fin .str en e
        · split at e
          · rename_i en; exact fin .tuple en e
          · split at e
            · rename_i en; exact fin .list en e
            · split at e
              · rename_i en; exact fin .dict en e
              · cases e
  · cases e
/-! ### repr -/
def D.repr? (x : D) : Option Str := match x.py with
  | some p => if PyData.showable p = true ∧ p.depth ≤ 64 ∧ p.shown.length ≤ sizeLine then some p.shown else none
  | none => none
def gRepr : List D → Option E
  | [x] => x.repr?.map eStr
  | _ => none
def rReprA (K : PySem.W.Frag) : List V → Hp → VK → Prop := fun xs H Q => ∃ x p, xs = [x] ∧ Dp K H x p ∧ PyData.showable p = true ∧ p.depth ≤ 64 ∧ p.shown.length ≤ sizeLine ∧ Q (.str p.shown) H
theorem repr_snd {B : Bk} : SndL B gRepr (rReprA B.K) := by
  intro xs v us G H Q e s hx q
  unfold gRepr at e
  split at e
  · obtain ⟨z, e1, rfl⟩ := Option.map_eq_some_iff.mp e
    obtain ⟨u, rfl, h⟩ := tzl1 hx
    unfold D.repr? at e1
    split at e1
    · rename_i p hp
      split at e1
      · rename_i hc
        cases e1
        exact ⟨u, p, rfl, dp_of _ _ _ hp (h.fz s), hc.1, hc.2.1, hc.2.2, q _ _ _ (.scalar s (fz_str _))⟩
      · cases e1
    · cases e1
  · cases e
theorem py_hasDict : ∀ {d : PyData} {K : PySem.W.Frag} {H : Hp} {x : V}, Dp K H x d → d.hasDict = false := by
  intro d
  have : ∀ (d : PyData), (∀ (K : PySem.W.Frag) (H : Hp) (x : V), Dp K H x d → d.hasDict = false) := by
    intro d
    refine PyData.rec (motive_1 := fun d => ∀ (K : PySem.W.Frag) (H : Hp) (x : V), Dp K H x d → d.hasDict = false) (motive_2 := fun ds => ∀ (K : PySem.W.Frag) (H : Hp) (xs : List V), DpAll K H xs ds → PyData.hasDictAll ds = false)
      (motive_3 := fun _ => True) (motive_4 := fun _ => True) ?_ ?_ ?_ ?_ ?_ ?_ ?_ ?_ ?_ ?_ ?_ ?_ d
    · intro K H x _; simp only [PyData.hasDict]
    · intro b K H x _; simp only [PyData.hasDict]
    · intro b K H x _; simp only [PyData.hasDict]
    · intro b K H x _; simp only [PyData.hasDict]
    · intro xs ih K H x h
      cases h with
      | lst _ ha => simp only [PyData.hasDict]; exact ih _ _ _ ha
    · intro xs ih K H x h
      cases h with
      | tup _ ha => simp only [PyData.hasDict]; exact ih _ _ _ ha
    · intro kvs _ K H x h; cases h
    · intro K H xs _; simp only [PyData.hasDictAll]
    · intro x xs ih1 ih2 K H vs h
      cases h with
      | cons h1 h2 => simp only [PyData.hasDictAll, ih1 _ _ _ h1, ih2 _ _ _ h2, Bool.or_self]
    · trivial
    · intros; trivial
    · intros; trivial
  exact fun {K H x} h => this d K H x h
theorem call_reprA (hg : X.A.guards = some []) (hu : X.A.units + 64 < cLine) (hu2 : X.A.units + 65 < cLine) : CallR X (.builtin "repr") (rReprA X.K) := by
  intro pins s σ H xs us Q I r h
  obtain ⟨x, p, rfl, hd, h1, h2, h3, q⟩ := h
  obtain ⟨u, rfl, rx⟩ := vals1 r
  cases hd with
  | non => cases rx; exact PySem.P.repr_of_none ⟨.str _, H, I.tok _, ⟨s.toks, by simp only [PyData.shown]⟩, q⟩
  | bl b => cases rx; exact PySem.P.repr_of_bool ⟨.str _, H, I.tok _, ⟨s.toks, by simp only [PyData.shown]⟩, q⟩
  | int i =>
    obtain ⟨t, rfl⟩ := rx
    refine PySem.P.repr_of_int (by simpa [PyData.showable] using h1) ⟨.str _, H, I.tok _, ⟨s.toks, ?_⟩, q⟩
    simp only [PyData.shown]
  | str z =>
    obtain ⟨t, rfl⟩ := rx
    refine PySem.P.repr_of_str ⟨.str _, H, I.tok _, ⟨s.toks, ?_⟩, q⟩ (by simpa [PyData.shown] using h3)
    simp only [PyData.shown]
  | lst hs ha =>
    have hd : Dp X.K H _ (PyData.list _) := .lst hs ha
    cases rx
    obtain ⟨as, rr⟩ := Dp.reads I _ _ _ hd rfl
    refine repr_of_reads' rr h1 (fun z => by rw [py_hasDict hd] at z; cases z) hg (by omega) (fun _ _ e => e) (fun h' t tk hk => ?_) h3
    exact ⟨.str _, H, I.kept hk, ⟨_, rfl⟩, q⟩
  | tup hs ha =>
    have hd : Dp X.K H _ (PyData.tuple _) := .tup hs ha
    cases rx
    obtain ⟨as, rr⟩ := Dp.reads I _ _ _ hd rfl
    refine repr_of_reads' rr h1 (fun z => by rw [py_hasDict hd] at z; cases z) hg (by omega) (fun _ _ e => e) (fun h' t tk hk => ?_) h3
    exact ⟨.str _, H, I.kept hk, ⟨_, rfl⟩, q⟩
/-! ### methods that change nothing -/
def SndM (B : Bk) (g : D → List D → Option E) (r : V → List V → Hp → VK → Prop) : Prop :=
  ∀ (x : D) (xs : List D) (v : E) (a : V) (as : List V) (G H : Hp) (Q : VK), g x xs = some v → Same G H → Tz B G H a x → TzL B G H as xs → (∀ u H' G', New B G H u v H' G' → Q u H') → r a as H Q
def aMeth (T : String) (g : D → List D → Option E) (fo : List S → Res E) (fs : List S → Res (List E)) : List S → Res E := fun ρ => (fo ρ).bind fun v ρ1 => match v.val ρ1 with
  | some x0 => if x0.tyn = T ∧ T ≠ "tuple" then (fs ρ1).bind fun vs ρ2 => match v.val ρ2, valL ρ2 vs with
      | some x, some xs => match g x xs with
        | some w => .ok w ρ2
        | none => .no
      | _, _ => .no
    else .no
  | none => .no
theorem tyV_of {B : Bk} {G H : Hp} {x : D} {u : V} {T : String} (s : Same G H) (h : Tz B G H u x) (e : x.tyn = T) (ne : T ≠ "tuple") (hT : T = "str" ∨ T = "int" ∨ T = "list" ∨ T = "dict") : tyV B.K T u H := by
  cases x <;> simp only [D.tyn] at e <;> subst e
  · rcases hT with h | h | h | h <;> exact absurd h (by decide)
  · rcases hT with h | h | h | h <;> exact absurd h (by decide)
  · rw [tz_int h]; rfl
  · rw [tz_str h]; rfl
  · exact absurd rfl ne
  · obtain ⟨p, us, rfl, h1, h2⟩ := h; exact .inl ⟨rfl, us, SqL.of h1⟩
  · obtain ⟨p, us, rfl, h1, h2⟩ := h; exact .inr (.inr (.inl ⟨rfl, .inl ⟨us, h1⟩⟩))
  · rcases hT with h | h | h | h <;> exact absurd h (by decide)
  · rcases hT with h | h | h | h <;> exact absurd h (by decide)
  · rename_i ns
    have h : Fz B G u (.scr ns) := h
    rw [Fz] at h
    obtain ⟨p, rfl, h1⟩ := h
    exact .inl ⟨rfl, _, Same.seq s h1⟩
  · rcases hT with h | h | h | h <;> exact absurd h (by decide)
  · rcases hT with h | h | h | h <;> exact absurd h (by decide)
  · rcases hT with h | h | h | h <;> exact absurd h (by decide)
  · rcases hT with h | h | h | h <;> exact absurd h (by decide)
theorem a_meth {T id : String} {name : Str} {apos cpos : Pos} {g : D → List D → Option E} {r : V → List V → Hp → VK → Prop} (hT : T = "str" ∨ T = "int" ∨ T = "list" ∨ T = "dict") (pa : PlainAttrs T) (slot : Slot T name id) (hty : typeOf (.builtin id) = pure (.type "method_descriptor")) (hm : MtR X id r) (sn : SndM X.bk g r)
    (ho : PEa X W o fa) (ha : PAa X W (e :: es) fs) (hbase : attributeBase o name X.env (eval o X.env) = eval o X.env := by rfl)
    (hfew : ((backTo cpos (starEach (e :: es) X.env)).all (fun x => !x.1) && (backToKw cpos (keywordEach [] X.env)).all (fun x => x.1.isSome)
      && decide ((e :: es).length + ([] : List Keyword).length + (if ([] : List Keyword).isEmpty then 0 else 1) < 30)) = true := by rfl)
    (hline : (apos.endLine == cpos.line) = true := by rfl) (hs : starEach (e :: es) X.env = (false, eval e X.env) :: starEach es X.env := by rfl) (hplain : (backTo cpos (starEach es X.env)).any (·.1) = false := by rfl) :
    PEa X W (.Call (.Attribute o name apos) (e :: es) [] cpos) (aMeth T g fa fs) :=
  pe_imp (pe_bm pa slot hty hm ho ha hbase hfew hline hs hplain) fun σ H Q ⟨G, ρ, rl, h⟩ => by
    refine lift_mono (lift_first rl (Aft.cl (Q := Q)) h) fun u H1 ⟨v, ρ1, G1, P1, h1⟩ => ?_
    obtain ⟨w, ew, rw'⟩ := P1.re 0 v rfl
    cases ew
    split at h1
    · rename_i x0 hx0
      split at h1
      · rename_i hty
        refine ⟨tyV_of P1.post.rel.sub (P1.post.rel.val rw' hx0) hty.1 hty.2 hT, ?_⟩
        refine liftA_mono (liftA_next P1 (Aft.cl (Q := Q)) h1) fun us H2 ⟨vs, ρ2, G2, P2, h2⟩ => ?_
        split at h2
        · rename_i x xs hx hxs
          split at h2
          · rename_i z hz
            obtain ⟨w, ew, rw'⟩ := P2.re 0 v rfl
            cases ew
            exact sn x xs z u us G2 H2 Q hz P2.post.rel.sub (P2.post.rel.val rw' hx) (Pend.vals (P2.tail (us := us) (vs := vs)) hxs) fun w H' G' n => h2.fin P2.post n
          · exact h2.elim
        · exact h2.elim
      · exact h1.elim
    · exact h1.elim
def gJoin : D → List D → Option E
  | .str a, [.lst xs] => (D.strs? xs).bind fun ys => if (ys.map (·.length)).sum + ys.length * a.length ≤ 16777216 then some (eStr (Txt.join a ys)) else none
  | .str a, [.tup xs] => (D.strs? xs).bind fun ys => if (ys.map (·.length)).sum + ys.length * a.length ≤ 16777216 then some (eStr (Txt.join a ys)) else none
  | _, _ => none
abbrev rJoinA (K : PySem.W.Frag) : V → List V → Hp → VK → Prop := fun x xs H Q => ∃ a p, ∃ ys : List Str, x = .str a ∧ xs = [.ref p] ∧ (SqL K H p (ys.map V.str) ∨ SqT K H p (ys.map V.str)) ∧ (ys.map (·.length)).sum + ys.length * a.length ≤ 16777216 ∧ Q (.str (Txt.join a ys)) H
theorem join_snd {B : Bk} : SndM B gJoin (rJoinA B.K) := by
  intro x xs v a as G H Q e s hx hxs q
  unfold gJoin at e
  split at e
  · obtain ⟨ys, e1, e2⟩ := Option.bind_eq_some_iff.mp e
    split at e2
    · rename_i hz
      cases e2
      obtain ⟨u, rfl, p, ws, rfl, h1, h2⟩ := tzl1 hxs
      rw [strs_v h2 e1] at h1
      exact ⟨_, p, ys, tz_str hx, rfl, .inl (SqL.of h1), hz, q _ _ _ (.scalar s (fz_str _))⟩
    · cases e2
  · obtain ⟨ys, e1, e2⟩ := Option.bind_eq_some_iff.mp e
    split at e2
    · rename_i hz
      cases e2
      obtain ⟨u, rfl, h⟩ := tzl1 hxs
      obtain ⟨p, ws, rfl, h1, h2⟩ := tz_tup h
      rw [strs_v h2 e1] at h1
      exact ⟨_, p, ys, tz_str hx, rfl, .inr (Same.sqt s h1), hz, q _ _ _ (.scalar s (fz_str _))⟩
    · cases e2
  · cases e
def gSplit : D → List D → Option E
  | .str a, [.str b] => if (b.length == 0) = false ∧ a.length + 2 ≤ sizeLine then some (.fr (.lst ((Txt.split a b).map .str))) else none
  | _, _ => none
theorem split_snd {B : Bk} : SndM B gSplit (fun x xs H Q => ∃ a b, x = .str a ∧ xs = [.str b] ∧ (b.length == 0) = false ∧ a.length + 2 ≤ sizeLine ∧ rNewStrs (Txt.split a b) H Q) := by
  intro x xs v a as G H Q e s hx hxs q
  unfold gSplit at e
  split at e
  · split at e
    · rename_i hz
      cases e
      obtain ⟨u, rfl, h⟩ := tzl1 hxs
      exact ⟨_, _, tz_str hx, by rw [tz_str h], hz.1, hz.2, fun p hp => q _ _ _ (.own s hp ⟨_, rfl, fz_strs _⟩)⟩
    · cases e
  · cases e
/-- a content that no name can own -/
def D.imm : D → Bool
  | .lst _ => false
  | .dct _ => false
  | .dd _ => false
  | .ins _ _ => false
  | _ => true
theorem tz_imm {B : Bk} {G H : Hp} {u : V} {x : D} (h : Tz B G H u x) (e : x.imm = true) : Fz B G u x := by
  cases x <;> first | exact h | cases e
/-- d.get(k), d.get(k, x) -/
def gGet : D → List D → Option E
  | .dct kvs, [k] => k.key?.map fun k => .d ((kget kvs k).getD .non)
  | .dct kvs, [k, x] => if x.imm = true then k.key?.map fun k => .d ((kget kvs k).getD x) else none
  | .dd kvs, [k] => k.keyN?.map fun k => .d ((dget kvs k).getD .non)
  | .dd kvs, [k, x] => if x.imm = true then k.keyN?.map fun k => .d ((dget kvs k).getD x) else none
  | _, _ => none
abbrev rGetA : V → List V → Hp → VK → Prop := fun x xs H Q => ∃ a kvs k, x = .ref a ∧ H a = some (.dK kvs) ∧ ((xs = [kV k] ∧ Q ((valV kvs k).getD .non) H) ∨ ∃ z, xs = [kV k, z] ∧ Q ((valV kvs k).getD z) H)
theorem mt_getA (hu : X.A.units + 64 < cLine) : MtR X "dict.get" rGetA := by
  intro pins s σ H x xs v us Q I rx rs h
  obtain ⟨a, kvs, k, rfl, hp, ⟨rfl, q⟩ | ⟨z, rfl, q⟩⟩ := h
  · cases rx
    cases rs with
    | cons r1 rs =>
      cases rs
      exact d_get1 (by omega) I (DGet.k hp) r1 fun w' s' I' r' => ⟨_, H, I', r', q⟩
  · cases rx
    cases rs with
    | cons r1 rs =>
      cases rs with
      | cons r2 rs =>
        cases rs
        exact d_get2 (by omega) I (DGet.k hp) r1 r2 fun w' s' I' r' => ⟨_, H, I', r', q⟩
theorem getD_v {B : Bk} {G : Hp} {k : Key} {ds : List (Key × D)} {kvs : List (Key × V)} {x : D} {w : V} (h : FzK B G kvs ds) (hx : Fz B G w x) : Fz B G ((valV kvs k).getD w) ((kget ds k).getD x) := by
  cases eg : kget ds k with
  | some d => obtain ⟨w, e3, f⟩ := kget_some h eg; rw [e3]; exact f
  | none => rw [kget_none h eg]; exact hx
theorem getN_v {B : Bk} {G : Hp} {k : NestedKey} {ds : List (D × D)} {es : EnL} {x : D} {w : V} (h : FzD B G es ds) (hx : Fz B G w x) : Fz B G (((enAt es k).map (·.2)).getD w) ((dget ds k).getD x) := by
  have := dget_v (k := k) h
  cases e : dget ds k with
  | some d => rw [e] at this; obtain ⟨a, v, q, f⟩ := this; rw [q]; exact f
  | none => rw [e] at this; rw [this]; exact hx
abbrev rGetB (K : PySem.W.Frag) (w : World) : V → List V → Hp → VK → Prop := fun x xs H Q => rGetA x xs H Q ∨ rGetN K w x xs H Q
theorem mt_getB (hu : X.A.units + 64 < cLine) : MtR X "dict.get" (rGetB X.K X.w) := fun pins s σ H x xs v us Q I rx rs h =>
  h.elim (mt_getA hu pins s σ H x xs v us Q I rx rs) (mt_getN hu pins s σ H x xs v us Q I rx rs)
theorem get_snd {B : Bk} : SndM B gGet (rGetB B.K B.w) := by
  intro x xs v a as G H Q e s hx hxs q
  unfold gGet at e
  split at e
  · obtain ⟨k, e1, rfl⟩ := Option.map_eq_some_iff.mp e
    obtain ⟨p, kvs, rfl, h1, h2⟩ := hx
    obtain ⟨u, rfl, h⟩ := tzl1 hxs
    refine .inl ⟨p, kvs, k, rfl, h1, .inl ⟨by rw [key_v (h.fz s) e1], ?_⟩⟩
    refine q _ _ _ (.scalar s ?_)
    exact getD_v h2 fz_non
  · split at e
    · rename_i hi
      obtain ⟨k, e1, rfl⟩ := Option.map_eq_some_iff.mp e
      obtain ⟨p, kvs, rfl, h1, h2⟩ := hx
      obtain ⟨u, w, rfl, h, h'⟩ := tzl2 hxs
      exact .inl ⟨p, kvs, k, rfl, h1, .inr ⟨w, by rw [key_v (h.fz s) e1], q _ _ _ (.scalar s (getD_v h2 (tz_imm h' hi)))⟩⟩
    · cases e
  · obtain ⟨k, e1, rfl⟩ := Option.map_eq_some_iff.mp e
    obtain ⟨p, ob, es, rfl, h1, h2⟩ := hx
    obtain ⟨u, rfl, h⟩ := tzl1 hxs
    exact .inr ⟨p, es, k, u, rfl, ⟨ob, h1, fzd_k s h2⟩, keyN_tz s h e1, .inl ⟨rfl, q _ _ _ (.scalar s (getN_v h2 fz_non))⟩⟩
  · split at e
    · rename_i hi
      obtain ⟨k, e1, rfl⟩ := Option.map_eq_some_iff.mp e
      obtain ⟨p, ob, es, rfl, h1, h2⟩ := hx
      obtain ⟨u, w, rfl, h, h'⟩ := tzl2 hxs
      exact .inr ⟨p, es, k, u, rfl, ⟨ob, h1, fzd_k s h2⟩, keyN_tz s h e1, .inr ⟨w, rfl, q _ _ _ (.scalar s (getN_v h2 (tz_imm h' hi)))⟩⟩
    · cases e
  · cases e
end
end L2.AL
/-! A6: what a name owns is changed; names are set; targets; what a loop goes through; comprehensions. -/
namespace L2.AL
open PySem PySem.Spec PyProof.Rows
section
variable {B : Bk} {σ σ0 : St} {ρ ρ0 ρ' : List S} {H H0 H' G G0 G' : Hp}
/-! ### a slot's object is changed -/
theorem mut_post {i : Nat} {a : Addr} {o o' : O} {ho : HO} (p : Post B σ ρ0 H0 G0 σ ρ H G) (hs : σ[i]? = some (some (.ref a))) (hr : ρ[i]? = some (.own o)) (ro : RO B G a ho o') :
    Post B σ ρ0 H0 G0 σ (ρ.set i (.own o')) (upd H a ho) G := by
  have ow : Own σ ρ i a := ⟨hs, o, hr⟩
  have hi : i < ρ.length := (List.getElem?_eq_some_iff.mp hr).1
  obtain ⟨v, e1, a', ob, e2, e3, e4, e5⟩ := p.rel.slot i _ hr
  rw [hs] at e1; cases e1; cases e2
  have oo : ∀ j b, Own σ (ρ.set i (.own o')) j b → Own σ ρ j b := fun j b ⟨w1, o2, w2⟩ => by
    by_cases hj : i = j
    · subst hj
      rw [hs] at w1; cases w1
      exact ow
    · rw [List.getElem?_set_ne hj] at w2
      exact ⟨w1, o2, w2⟩
  refine ⟨p.grow, fun b e => p.dom b ?_, fun b u e n => ?_, p.keep, ⟨fun b u e => ?_, by rw [List.length_set]; exact p.rel.len, fun j s e => ?_, fun j k b w w' => p.rel.sep j k b (oo j b w) (oo k b w')⟩, fun j b w => p.own j b (oo j b w)⟩
  · by_cases hb : b = a
    · subst hb; rw [upd_same] at e; cases e
    · rw [upd_ne hb] at e; exact e
  · have hb : b ≠ a := fun z => by
      subst z
      rcases p.own i b ow with w | w
      · exact n i w
      · rw [e] at w; cases w
    rw [upd_ne hb]; exact p.frame b u e n
  · have hb : b ≠ a := fun z => by subst z; rw [e4] at e; cases e
    rw [upd_ne hb]; exact p.rel.sub b u e
  · by_cases hj : i = j
    · subst hj
      rw [List.getElem?_set_self hi] at e
      cases e
      exact ⟨_, hs, a, ho, rfl, upd_same, e4, ro⟩
    · rw [List.getElem?_set_ne hj] at e
      obtain ⟨w, q1, q2⟩ := p.rel.slot j s e
      refine ⟨w, q1, ?_⟩
      cases s with
      | no => trivial
      | d y => exact q2
      | own o2 =>
        obtain ⟨b, ob2, t1, t2, t3, t4⟩ := q2
        subst t1
        have hb : b ≠ a := fun z => by
          subst z
          exact hj (p.rel.sep i j b ow ⟨q1, o2, e⟩)
        exact ⟨b, ob2, rfl, by rw [upd_ne hb]; exact t2, t3, t4⟩
/-! ### names are set -/
/-- values for slots: what another slot holds is given away -/
def toS : E → List S → Option (S × List S)
  | .d x, ρ => some (.d x, ρ)
  | .fr o, ρ => some (.own o, ρ)
  | .sl i, ρ => match freeze i ρ with
    | some (x, ρ1) => some (.d x, ρ1)
    | none => none
def toSL : List E → List S → Option (List S × List S)
  | [], ρ => some ([], ρ)
  | v :: vs, ρ => match toS v ρ with
    | none => none
    | some (x, ρ1) => match toSL vs ρ1 with
      | none => none
      | some (xs, ρ2) => some (x :: xs, ρ2)
def setL {α : Type} : List α → List Nat → List α → List α
  | l, [], _ => l
  | l, _ :: _, [] => l
  | l, i :: is, x :: xs => setL (l.set i x) is xs
def WaitS (B : Bk) (G : Hp) (σ : St) (ρ : List S) (H H0 : Hp) (u : V) : S → Prop
  | .no => False
  | .d x => Fz B G u x
  | .own o => ∃ a ho, u = .ref a ∧ H a = some ho ∧ G a = none ∧ RO B G a ho o ∧ (∀ i, ¬ Own σ ρ i a) ∧ H0 a = none
/-- values that wait to be set -/
structure Wait (B : Bk) (G : Hp) (σ : St) (ρ : List S) (H H0 : Hp) (us : List V) (ss : List S) : Prop where
  len : us.length = ss.length
  ok : ∀ (k : Nat) (s : S), ss[k]? = some s → ∃ u, us[k]? = some u ∧ WaitS B G σ ρ H H0 u s
  apart : ∀ (k l : Nat) (o o' : O) (a : Addr), ss[k]? = some (.own o) → ss[l]? = some (.own o') → us[k]? = some (.ref a) → us[l]? = some (.ref a) → k = l
theorem Pend.toS1 {u : V} {v : E} {us : List V} {vs : List E} {s : S} (p : Pend B σ ρ0 H0 G0 ρ H G (u :: us) (v :: vs)) (e : toS v ρ = some (s, ρ')) :
    ∃ G', Pend B σ ρ0 H0 G0 ρ' H G' us vs ∧ Same G G' ∧ (∀ b, (∀ i, ¬ Own σ ρ i b) → G b = none → G' b = none) ∧ (∀ i b, Own σ ρ' i b → Own σ ρ i b) ∧ match s with
      | .no => False
      | .d x => Fz B G' u x
      | .own o => v = .fr o := by
  obtain ⟨w, ew, rw'⟩ := p.re 0 v rfl
  cases ew
  cases v with
  | d y => cases e; exact ⟨G, p.tail, .refl _, fun _ _ h => h, fun _ _ h => h, rw'⟩
  | fr o => cases e; exact ⟨G, p.tail, .refl _, fun _ _ h => h, fun _ _ h => h, rfl⟩
  | sl i =>
    simp only [toS] at e
    split at e
    · rename_i x ρ1 hf
      cases e
      obtain ⟨G', q, f, hk⟩ := freeze_ok p.post.rel rw' hf
      refine ⟨G', ⟨p.post.trans q, p.tail.len, fun j w ej => ?_, fun j o a ej e' => p.tail.new j o a ej e', p.tail.apart⟩, q.grow, hk, fun j b w => ?_, f⟩
      · obtain ⟨y, e1, e2⟩ := p.tail.re j w ej
        exact ⟨y, e1, e2.step q⟩
      · unfold freeze at hf
        split at hf
        · cases hf; exact w
        · rename_i o ho
          cases hf
          obtain ⟨w1, o2, w2⟩ := w
          by_cases hj : i = j
          · subst hj
            rw [List.getElem?_set_self (List.getElem?_eq_some_iff.mp ho).1] at w2
            cases w2
          · rw [List.getElem?_set_ne hj] at w2
            exact ⟨w1, o2, w2⟩
        · cases hf
    · cases e
theorem Pend.toSL : ∀ {us : List V} {vs : List E} {ss : List S} {ρ ρ' : List S} {G : Hp}, Pend B σ ρ0 H0 G0 ρ H G us vs → AL.toSL vs ρ = some (ss, ρ') →
    ∃ G', Post B σ ρ0 H0 G0 σ ρ' H G' ∧ Wait B G' σ ρ' H H0 us ss ∧ Same G G' ∧ (∀ b, (∀ i, ¬ Own σ ρ i b) → G b = none → G' b = none) ∧ (∀ i b, Own σ ρ' i b → Own σ ρ i b) ∧ (∀ (k : Nat) (o : O), ss[k]? = some (.own o) → vs[k]? = some (.fr o))
  | [], [], ss, ρ, ρ', G, p, e => by
    cases e
    exact ⟨G, p.post, ⟨rfl, fun k s e => by simp at e, fun k l o o' a e => by simp at e⟩, .refl _, fun _ _ h => h, fun _ _ h => h, fun k o e => by simp at e⟩
  | [], _ :: _, _, _, _, _, p, _ => by have := p.len; simp at this
  | _ :: _, [], _, _, _, _, p, _ => by have := p.len; simp at this
  | u :: us, v :: vs, ss, ρ, ρ', G, p, e => by
    simp only [AL.toSL] at e
    split at e
    · cases e
    · rename_i x ρ1 e1
      split at e
      · cases e
      · rename_i ys ρ2 e2
        cases e
        obtain ⟨G1, p1, s1, k1, o1, f1⟩ := p.toS1 e1
        obtain ⟨G2, q2, w2, s2, k2, o2, f2⟩ := Pend.toSL p1 e2
        obtain ⟨wv, ewv, rwv⟩ := p.re 0 v rfl
        cases ewv
        refine ⟨G2, q2, ⟨by simp [w2.len], fun k s ek => ?_, fun k l o o' a ek el uk ul => ?_⟩, s1.trans s2, fun b nb gb => k2 b (fun i w => nb i (o1 i b w)) (k1 b nb gb), fun i b w => o1 i b (o2 i b w), fun k o ek => ?_⟩
        · cases k with
          | zero =>
            cases ek
            refine ⟨u, rfl, ?_⟩
            cases x with
            | no => exact f1.elim
            | d y => exact Fz.mono s2 _ _ f1
            | own o =>
              have f1 : v = .fr o := f1
              subst f1
              obtain ⟨a, ho, rfl, r1, r2, r3, r4⟩ := rwv
              exact ⟨a, ho, rfl, r1, k2 a (fun i w => r4 i (o1 i a w)) (k1 a r4 r2), r3.mono (s1.trans s2), fun i w => r4 i (o1 i a (o2 i a w)), p.new 0 o a rfl rfl⟩
          | succ k =>
            obtain ⟨y, e3, e4⟩ := w2.ok k s (by simpa using ek)
            exact ⟨y, by simpa using e3, e4⟩
        · have gv : ∀ {k : Nat} {o : O}, (x :: ys)[k]? = some (.own o) → (v :: vs)[k]? = some (.fr o) := fun {k o} ek => by
            cases k with
            | zero => cases ek; exact congrArg some f1
            | succ k => exact f2 k o (by simpa using ek)
          exact p.apart k l o o' a (gv ek) (gv el) uk ul
        · cases k with
          | zero => cases ek; exact congrArg some f1
          | succ k => exact f2 k o (by simpa using ek)
/-- one slot is set -/
theorem Wait.set1 {i : Nat} {u : V} {s : S} {us : List V} {ss : List S} (p : Post B σ0 ρ0 H0 G0 σ ρ H G) (w : Wait B G σ ρ H H0 (u :: us) (s :: ss)) (hi : i < ρ.length) :
    Post B σ0 ρ0 H0 G0 (σ.set i (some u)) (ρ.set i s) H G ∧ Wait B G (σ.set i (some u)) (ρ.set i s) H H0 us ss := by
  obtain ⟨y, ey, ws⟩ := w.ok 0 s rfl
  cases ey
  have hi' : i < σ.length := by rw [p.rel.len]; exact hi
  have oo : ∀ j b, Own (σ.set i (some u)) (ρ.set i s) j b → (j ≠ i ∧ Own σ ρ j b) ∨ (j = i ∧ u = .ref b ∧ ∃ o, s = .own o) := fun j b ⟨w1, o2, w2⟩ => by
    by_cases hj : i = j
    · subst hj
      rw [List.getElem?_set_self hi'] at w1
      rw [List.getElem?_set_self hi] at w2
      cases w1; cases w2
      exact .inr ⟨rfl, rfl, o2, rfl⟩
    · rw [List.getElem?_set_ne hj] at w1 w2
      exact .inl ⟨fun z => hj z.symm, w1, o2, w2⟩
  have nown : ∀ {b : Addr} {o : O}, u = .ref b → s = .own o → ∀ j, ¬ Own σ ρ j b := fun {b o} eu es => by
    subst eu es
    obtain ⟨a, ho, e1, _, _, _, n, _⟩ := ws
    cases e1
    exact n
  refine ⟨⟨p.grow, p.dom, p.frame, p.keep, ⟨p.rel.sub, by rw [List.length_set, List.length_set]; exact p.rel.len, fun j t e => ?_, fun j k b w1 w2 => ?_⟩, fun j b w1 => ?_⟩, ⟨by have := w.len; simpa using this, fun k t e => ?_, fun k l o o' a e1 e2 e3 e4 => by have := w.apart (k + 1) (l + 1) o o' a e1 e2 e3 e4; omega⟩⟩
  · by_cases hj : i = j
    · subst hj
      rw [List.getElem?_set_self hi] at e
      cases e
      refine ⟨some u, by rw [List.getElem?_set_self hi'], ?_⟩
      cases s with
      | no => exact ws.elim
      | d x => exact ⟨u, rfl, ws⟩
      | own o => obtain ⟨a, ho, rfl, h1, h2, h3, _⟩ := ws; exact ⟨a, ho, rfl, h1, h2, h3⟩
    · rw [List.getElem?_set_ne hj] at e
      obtain ⟨v, e1, e2⟩ := p.rel.slot j t e
      exact ⟨v, by rw [List.getElem?_set_ne hj]; exact e1, e2⟩
  · rcases oo j b w1 with ⟨n1, o1⟩ | ⟨rfl, eu, o1, es⟩
    · rcases oo k b w2 with ⟨n2, o2⟩ | ⟨rfl, eu, o2, es⟩
      · exact p.rel.sep j k b o1 o2
      · exact absurd o1 (nown eu es j)
    · rcases oo k b w2 with ⟨n2, o2⟩ | ⟨rfl, eu', o2, es'⟩
      · exact absurd o2 (nown eu es k)
      · rfl
  · rcases oo j b w1 with ⟨n1, o1⟩ | ⟨rfl, eu, o1, es⟩
    · exact p.own j b o1
    · subst eu es
      obtain ⟨a, ho, e1, _, _, _, _, h0⟩ := ws
      cases e1
      exact .inr h0
  · obtain ⟨y, e1, e2⟩ := w.ok (k + 1) t e
    refine ⟨y, e1, ?_⟩
    cases t with
    | no => exact e2
    | d x => exact e2
    | own o =>
      obtain ⟨a, ho, rfl, h1, h2, h3, h4, h5⟩ := e2
      refine ⟨a, ho, rfl, h1, h2, h3, fun j w1 => ?_, h5⟩
      rcases oo j a w1 with ⟨n1, o1⟩ | ⟨rfl, eu, o1, es⟩
      · exact h4 j o1
      · subst eu es
        have := w.apart 0 (k + 1) o1 o a rfl e rfl e1
        omega
theorem Wait.setL : ∀ {is : List Nat} {us : List V} {ss : List S} {σ : St} {ρ : List S}, Post B σ0 ρ0 H0 G0 σ ρ H G → Wait B G σ ρ H H0 us ss → is.length = ss.length → (∀ i ∈ is, i < ρ.length) →
    Post B σ0 ρ0 H0 G0 (AL.setL σ is (us.map some)) (AL.setL ρ is ss) H G
  | [], us, ss, σ, ρ, p, w, _, _ => by simpa only [AL.setL] using p
  | i :: is, [], ss, σ, ρ, p, w, hl, _ => by have := w.len; rw [← this] at hl; simp at hl
  | i :: is, u :: us, [], σ, ρ, p, w, hl, _ => by simp at hl
  | i :: is, u :: us, s :: ss, σ, ρ, p, w, hl, hi => by
    obtain ⟨p1, w1⟩ := w.set1 p (hi i List.mem_cons_self)
    have z := Wait.setL (is := is) p1 w1 (by simpa using hl) fun j hj => by rw [List.length_set]; exact hi j (List.mem_cons_of_mem _ hj)
    simpa only [AL.setL, List.map_cons] using z
end
end L2.AL
/-! A7: targets by content, what a loop goes through, comprehensions, methods that change. -/
namespace L2.AL
open PySem PySem.Spec PyProof.Rows
/-! ### targets -/
inductive Tg where
  | nm (i : Nat) | tp (ts : List Tg)
mutual
def Tg.names : Tg → List Nat
  | .nm i => [i]
  | .tp ts => Tg.namesL ts
def Tg.namesL : List Tg → List Nat
  | [] => []
  | t :: ts => t.names ++ Tg.namesL ts
end
mutual
def tset : Tg → D → List S → Option (List S)
  | .nm i, x, ρ => some (ρ.set i (.d x))
  | .tp ts, x, ρ => match x with
    | .tup xs => tsetL ts xs ρ
    | .lst xs => tsetL ts xs ρ
    | _ => none
def tsetL : List Tg → List D → List S → Option (List S)
  | [], xs, ρ => match xs with
    | [] => some ρ
    | _ => none
  | t :: ts, xs, ρ => match xs with
    | [] => none
    | x :: xs => match tset t x ρ with
      | some ρ1 => tsetL ts xs ρ1
      | none => none
end
section
variable {B : Bk} {σ σ' σ0 : St} {ρ ρ0 ρ' : List S} {H H0 H' G G0 G' : Hp}
theorem Post.setD {v : V} {x : D} (i : Nat) (r : Rel B G σ ρ H) (h : Fz B G v x) : Post B σ ρ H G (σ.set i (some v)) (ρ.set i (.d x)) H G := by
  have oo : ∀ j b, Own (σ.set i (some v)) (ρ.set i (.d x)) j b → Own σ ρ j b := fun j b ⟨w1, o2, w2⟩ => by
    by_cases hj : i = j
    · subst hj
      by_cases hi : i < ρ.length
      · rw [List.getElem?_set_self hi] at w2; cases w2
      · rw [List.getElem?_eq_none (by simpa using hi)] at w2; cases w2
    · rw [List.getElem?_set_ne hj] at w1 w2
      exact ⟨w1, o2, w2⟩
  refine ⟨.refl _, fun _ h => h, fun _ _ h _ => h, fun _ _ _ h _ => h, ⟨r.sub, by rw [List.length_set, List.length_set]; exact r.len, fun j t e => ?_, fun j k b w1 w2 => r.sep j k b (oo j b w1) (oo k b w2)⟩, fun j b w => .inl (oo j b w)⟩
  by_cases hj : i = j
  · subst hj
    have hi : i < ρ.length := by
      have := (List.getElem?_eq_some_iff.mp e).1
      simpa using this
    rw [List.getElem?_set_self hi] at e
    cases e
    exact ⟨some v, by rw [List.getElem?_set_self (by rw [r.len]; exact hi)], v, rfl, h⟩
  · rw [List.getElem?_set_ne hj] at e
    obtain ⟨w, e1, e2⟩ := r.slot j t e
    exact ⟨w, by rw [List.getElem?_set_ne hj]; exact e1, e2⟩
def gD (B : Bk) (t : Tg) : TG := fun v σ H Q => ∃ G ρ x ρ', Rel B G σ ρ H ∧ Fz B G v x ∧ tset t x ρ = some ρ' ∧ ∀ σ', Post B σ ρ H G σ' ρ' H G → (∀ j, j ∉ t.names → σ'[j]? = σ[j]?) → Q σ' H
def gDs (B : Bk) (ts : List Tg) : TGs := fun vs σ H Q => ∃ G ρ xs ρ', Rel B G σ ρ H ∧ FzL B G vs xs ∧ tsetL ts xs ρ = some ρ' ∧ ∀ σ', Post B σ ρ H G σ' ρ' H G → (∀ j, j ∉ Tg.namesL ts → σ'[j]? = σ[j]?) → Q σ' H
end
section
variable {X : Cx} {pos : Pos}
theorem pg_imp {tg : Expr} {t t' : TG} (h : PG X tg t) (w : ∀ v σ H Q, t' v σ H Q → t v σ H Q) : PG X tg t' := ⟨fun pins s σ H v u Q I r q => h.run pins s σ H v u Q I r (w v σ H Q q)⟩
theorem pgs_imp {tg : List Expr} {t t' : TGs} (h : PGs X tg t) (w : ∀ v σ H Q, t' v σ H Q → t v σ H Q) : PGs X tg t' := ⟨fun pins s σ H v u Q I r q => h.run pins s σ H v u Q I r (w v σ H Q q)⟩
theorem pg_or {tg : Expr} {t t' : TG} (h : PG X tg t) (h' : PG X tg t') : PG X tg (fun v σ H Q => t v σ H Q ∨ t' v σ H Q) := ⟨fun pins s σ H v u Q I r q => q.elim (h.run pins s σ H v u Q I r) (h'.run pins s σ H v u Q I r)⟩
theorem g_nm {i : Nat} {x : Str} (hN : X.N.Nodup) (hi : X.N[i]? = some x) (hx : Loc X.env.scope x) (hf : X.fn x = true ∨ X.env.scope.names.lookup x = some .local := by first | exact .inl rfl | exact .inr rfl | assumption) : PG X (.Name x pos) (gD X.bk (.nm i)) :=
  pg_imp (pg_name hN hi hx hf) fun v σ H Q ⟨G, ρ, x, ρ', r, f, e, q⟩ => by
    simp only [tset, Option.some.injEq] at e
    subst e
    refine q _ (Post.setD i r f) fun j hj => ?_
    simp only [Tg.names, List.mem_singleton] at hj
    rw [List.getElem?_set_ne (Ne.symm hj)]
theorem g_nil : PGs X [] (gDs X.bk []) := pgs_imp pgs_nil fun vs σ H Q ⟨G, ρ, xs, ρ', r, f, e, q⟩ => by
  cases xs with
  | nil =>
    simp only [tsetL, Option.some.injEq] at e
    subst e
    cases vs with
    | nil => exact ⟨rfl, q σ (.refl r) fun _ _ => rfl⟩
    | cons _ _ => rw [FzL] at f; exact f.elim
  | cons _ _ => simp [tsetL] at e
theorem g_cons {e : Expr} {es : List Expr} {t : Tg} {ts : List Tg} (h1 : PG X e (gD X.bk t)) (h2 : PGs X es (gDs X.bk ts))
    (hs : (assignEach (e :: es) X.env).map (·.2) = assign e X.env :: (assignEach es X.env).map (·.2) := by rfl) : PGs X (e :: es) (gDs X.bk (t :: ts)) :=
  pgs_imp (pgs_cons h1 h2 hs) fun vs σ H Q ⟨G, ρ, xs, ρ', r, f, e, q⟩ => by
    cases xs with
    | nil => simp [tsetL] at e
    | cons x xs =>
      cases vs with
      | nil => rw [FzL] at f; exact f.elim
      | cons v vs =>
        rw [FzL] at f
        simp only [tsetL] at e
        split at e
        · rename_i ρ1 e1
          refine ⟨v, vs, rfl, G, ρ, x, ρ1, r, f.1, e1, fun σ1 p1 k1 => ?_⟩
          refine ⟨G, ρ1, xs, ρ', p1.rel, f.2, e, fun σ2 p2 k2 => q σ2 (p1.trans p2) fun j hj => ?_⟩
          simp only [Tg.namesL, List.mem_append, not_or] at hj
          rw [k2 j hj.2, k1 j hj.1]
        · cases e
theorem FzL.len_eq {B : Bk} {G : Hp} {us : List V} {xs : List D} (h : FzL B G us xs) : us.length = xs.length := h.length
theorem tsetL_len : ∀ {ts : List Tg} {xs : List D} {ρ ρ' : List S}, tsetL ts xs ρ = some ρ' → xs.length = ts.length
  | [], [], _, _, _ => rfl
  | [], _ :: _, _, _, e => by simp [tsetL] at e
  | _ :: _, [], _, _, e => by simp [tsetL] at e
  | t :: ts, x :: xs, ρ, ρ', e => by
    simp only [tsetL] at e
    split at e
    · rw [List.length_cons, List.length_cons, tsetL_len e]
    · cases e
theorem g_tp {es : List Expr} {k : Nat} {ts : List Tg} (hc : X.calm = true) (h : PGs X es (gDs X.bk ts))
    (hn : (assignEach es X.env).length = ts.length := by rfl) (hst : (assignEach es X.env).findIdx? (·.1) = none := by rfl) : PG X (.Tuple es k pos) (gD X.bk (.tp ts)) :=
  pg_imp (pg_or (pg_tup hc h hn hst) (pg_lst hc h hn hst)) fun v σ H Q ⟨G, ρ, x, ρ', r, f, e, q⟩ => by
    cases x <;> simp only [tset, reduceCtorEq] at e
    · rw [Fz] at f
      obtain ⟨a, us, rfl, h1, h2⟩ := f
      exact .inl ⟨a, us, rfl, Same.sqt r.sub h1, by rw [h2.length]; exact tsetL_len e, G, ρ, _, ρ', r, h2, e, fun σ' p k => q σ' p fun j hj => k j (by simpa only [Tg.names] using hj)⟩
    · rw [Fz] at f
      obtain ⟨a, us, rfl, h1, h2⟩ := f
      exact .inr ⟨a, us, rfl, SqL.of (r.sub _ _ h1), by rw [h2.length]; exact tsetL_len e, G, ρ, _, ρ', r, h2, e, fun σ' p k => q σ' p fun j hj => k j (by simpa only [Tg.names] using hj)⟩
end
/-! ### what a loop goes through -/
structure WalksD (B : Bk) (J : It) (G : Hp) (xs : List D) : Prop where
  go : ∀ i H G', i < xs.length → Same G G' → Same G' H → J.go i H
  stop : ∀ H G', Same G G' → Same G' H → J.stop xs.length H
  yld : ∀ i H G' v H', i < xs.length → Same G G' → Same G' H → J.yld i H v H' → ∃ x G'', xs[i]? = some x ∧ New B G' H v (.d x) H' G''
section
variable {B : Bk} {G : Hp}
theorem walks_list {a : Addr} {us : List V} {xs : List D} (h : G a = some (.lst us)) (f : FzL B G us xs) : WalksD B (Itl B.K a) G xs := by
  have hl := f.length
  refine ⟨fun i H G' hi s1 s2 => ?_, fun H G' s1 s2 => ?_, fun i H G' v H' hi s1 s2 y => ?_⟩
  · exact walk_list.goes i H (by rw [hl]; exact hi) (SqL.of (s2 _ _ (s1 _ _ h)))
  · rw [← hl]; exact walk_list.stops H (SqL.of (s2 _ _ (s1 _ _ h)))
  · obtain ⟨rfl, e⟩ := walk_list.yields i H v H' (by rw [hl]; exact hi) (SqL.of (s2 _ _ (s1 _ _ h))) y
    obtain ⟨x, e1, f1⟩ := f.get' e
    exact ⟨x, G', e1, .scalar s2 (Fz.mono s1 _ _ f1)⟩
theorem walks_scr {a : Addr} {ns : List Int} (h : SqL B.K G a (ns.map V.int)) : WalksD B (Itl B.K a) G (ns.map .int) := by
  refine ⟨fun i H G' hi s1 s2 => ?_, fun H G' s1 s2 => ?_, fun i H G' v H' hi s1 s2 y => ?_⟩
  · exact walk_list.goes i H (by simpa using hi) (Same.seq s2 (Same.seq s1 h))
  · have := walk_list.stops H (Same.seq s2 (Same.seq s1 h)); simpa using this
  · obtain ⟨rfl, e⟩ := walk_list.yields i H v H' (by simpa using hi) (Same.seq s2 (Same.seq s1 h)) y
    rw [List.getElem?_map] at e
    obtain ⟨n, e1, rfl⟩ := Option.map_eq_some_iff.mp e
    exact ⟨.int n, G', by rw [List.getElem?_map, e1]; rfl, .scalar s2 (fz_int _)⟩
theorem walks_tup {a : Addr} {us : List V} {xs : List D} (h : SqT B.K G a us) (f : FzL B G us xs) : WalksD B (Itt B.K a) G xs := by
  have hl := f.length
  refine ⟨fun i H G' hi s1 s2 => ?_, fun H G' s1 s2 => ?_, fun i H G' v H' hi s1 s2 y => ?_⟩
  · exact walk_tup.goes i H (by rw [hl]; exact hi) (Same.sqt s2 (Same.sqt s1 h))
  · rw [← hl]; exact walk_tup.stops H (Same.sqt s2 (Same.sqt s1 h))
  · obtain ⟨rfl, e⟩ := walk_tup.yields i H v H' (by rw [hl]; exact hi) (Same.sqt s2 (Same.sqt s1 h)) y
    obtain ⟨x, e1, f1⟩ := f.get' e
    exact ⟨x, G', e1, .scalar s2 (Fz.mono s1 _ _ f1)⟩
theorem walks_dd {a : Addr} {ob : Obj} {es : EnL} {ds : List (D × D)} (h : G a = some (dnO B.w a ob es)) (f : FzD B G es ds) : WalksD B (ItN B.w a ob es) G (ds.map (·.1)) := by
  have hl := f.length
  have fk := fzd_keys f
  refine ⟨fun i H G' hi s1 s2 => ⟨s2 _ _ (s1 _ _ h), by rw [List.length_map] at hi; omega⟩, fun H G' s1 s2 => ⟨s2 _ _ (s1 _ _ h), by rw [List.length_map]; omega⟩, fun i H G' v H' hi s1 s2 y => ?_⟩
  obtain ⟨rfl, e, e1, rfl⟩ := y
  obtain ⟨x, e2, f1⟩ := fk.get' (i := i) (v := .ref e.2.1) (by rw [List.getElem?_map, e1]; rfl)
  exact ⟨x, G', e2, .scalar s2 (Fz.mono s1 _ _ f1)⟩
def signs (z : Str) : List D := z.cps.toList.map fun c => .str ⟨#[c]⟩
theorem walks_str {z : Str} : WalksD B (Its z) G (signs z) := by
  have hl : (signs z).length = z.cps.size := by unfold signs; simp
  refine ⟨fun i H G' hi s1 s2 => ?_, fun H G' s1 s2 => ?_, fun i H G' v H' hi s1 s2 y => ?_⟩
  · exact walk_str.goes i H (by rw [← hl]; exact hi) trivial
  · rw [hl]; exact walk_str.stops H trivial
  · obtain ⟨rfl, c, e, rfl⟩ := walk_str.yields i H v H' (by rw [← hl]; exact hi) trivial y
    exact ⟨.str ⟨#[c]⟩, G', by unfold signs; rw [List.getElem?_map, Array.getElem?_toList, e]; rfl, .scalar s2 (fz_str _)⟩
def rangeD (lo : Int) (n : Nat) : List D := (List.range n).map fun (i : Nat) => .int (lo + (i : Int))
theorem walks_range {lo : Int} {n : Nat} : WalksD B (Itr lo n) G (rangeD lo n) := by
  have hl : (rangeD lo n).length = n := by unfold rangeD; simp
  refine ⟨fun i H G' hi s1 s2 => ?_, fun H G' s1 s2 => ?_, fun i H G' v H' hi s1 s2 y => ?_⟩
  · exact walk_range.goes i H (by rw [← hl]; exact hi) trivial
  · rw [hl]; exact walk_range.stops H trivial
  · obtain ⟨rfl, rfl⟩ := walk_range.yields i H v H' (by rw [← hl]; exact hi) trivial y
    rw [hl] at hi
    exact ⟨.int (lo + i), G', by unfold rangeD; rw [List.getElem?_map, List.getElem?_range hi]; rfl, .scalar s2 (fz_int _)⟩
def enumD (xs : List D) : List D := xs.mapIdx fun i x => .tup [.int i, x]
theorem walks_enum {a : Addr} {us : List V} {xs : List D} (h : G a = some (.lst us)) (f : FzL B G us xs) : WalksD B (Ite B.K a) G (enumD xs) := by
  have hl := f.length
  have hl' : (enumD xs).length = xs.length := by unfold enumD; simp
  refine ⟨fun i H G' hi s1 s2 => ?_, fun H G' s1 s2 => ?_, fun i H G' v H' hi s1 s2 y => ?_⟩
  · exact walk_enum.goes i H (by rw [hl, ← hl']; exact hi) (SqL.of (s2 _ _ (s1 _ _ h)))
  · rw [hl', ← hl]; exact walk_enum.stops H (SqL.of (s2 _ _ (s1 _ _ h)))
  · obtain ⟨T, p, q, rfl, hT, rfl, e1, e2⟩ := walk_enum.yields i H v H' (by rw [hl, ← hl']; exact hi) (SqL.of (s2 _ _ (s1 _ _ h))) y
    cases e1
    obtain ⟨x, e3, f1⟩ := f.get' e2
    exact ⟨.tup [.int i, x], _, by unfold enumD; rw [List.getElem?_mapIdx, e3]; rfl, .tup s2 hT (.cons (fz_int _) (.one (Fz.mono s1 _ _ f1)))⟩
end
section
variable (B : Bk) (W : WX') (σ : St) (ρ : List S) (H G : Hp)
def AftI (R : It → Hp → Prop) : Res (List D) → Prop
  | .ok xs ρ' => ∀ J H' G', Post B σ ρ H G σ ρ' H' G' → WalksD B J G' xs → R J H'
  | .ex e ρ' => Out B W σ ρ H G e ρ'
  | .no => False
end
def liftI (B : Bk) (W : WX') (f : List S → Res (List D)) : TI := fun σ H R => ∃ G ρ, Rel B G σ ρ H ∧ AftI B W σ ρ H G R (f ρ)
abbrev PIa (X : Cx) (W : WX') (tg e : Expr) (f : List S → Res (List D)) : Prop := PI X tg e (liftI X.bk W f)
section
variable {X : Cx} {W : WX'} {tg e : Expr} {fa : List S → Res E} {fs : List S → Res (List E)} {p pos : Pos}
theorem AftI.cl {B : Bk} {σ : St} {ρ : List S} {H G : Hp} {R : It → Hp → Prop} : Cl B W σ ρ H G (AftI B W σ ρ H G R) := ⟨fun _ _ h => h, fun h => h⟩
theorem pi_imp {w w' : TI} (h : PI X tg e w) (m : ∀ σ H R, w' σ H R → w σ H R) : PI X tg e w' := ⟨fun pins s σ H R I q => h.run pins s σ H R I (m σ H R q)⟩
theorem pi_or {w w' : TI} (h : PI X tg e w) (h' : PI X tg e w') : PI X tg e (fun σ H R => w σ H R ∨ w' σ H R) := ⟨fun pins s σ H R I q => q.elim (h.run pins s σ H R I) (h'.run pins s σ H R I)⟩
def D.items? : D → Option (List D)
  | .tup xs => some xs
  | .lst xs => some xs
  | .scr ns => some (ns.map .int)
  | .str z => some (signs z)
  | .dd kvs => some (kvs.map (·.1))
  | _ => none
def aIter (f : List S → Res E) : List S → Res (List D) := fun ρ => (f ρ).bind fun v ρ1 => match keep1 v ρ1 with
  | some (x, ρ2) => match x.items? with
    | some xs => .ok xs ρ2
    | none => .no
  | none => .no
theorem i_seq (h : PEa X W e fa) : PIa X W tg e (aIter fa) :=
  pi_imp (pi_or (pi_list h) (pi_or (pi_tup h) (pi_or (pi_str h) (pi_N h)))) fun σ H R ⟨G, ρ, r, h⟩ => by
    unfold aIter at h
    cases ef : fa ρ with
    | no => rw [ef] at h; exact h.elim
    | ex x ρ' => rw [ef] at h; exact .inl ⟨G, ρ, r, by rw [ef]; exact h⟩
    | ok v ρ1 =>
      rw [ef, Res.bind_ok] at h
      split at h
      · rename_i x ρ2 hk
        split at h
        · rename_i xs hx
          have go : ∀ u H' G', Post X.bk σ ρ H G σ ρ1 H' G' → RE X.bk G' σ ρ1 H' u v → Fresh H u v → ∃ G2, Post X.bk σ ρ H G σ ρ2 H' G2 ∧ Fz X.bk G2 u x := fun u H' G' p re fr => by
            obtain ⟨G2, p2, f2, _⟩ := Pend.keep1 (Pend.one p r re fr) hk
            exact ⟨G2, p2.post, f2⟩
          cases x <;> simp only [D.items?, Option.some.injEq, reduceCtorEq] at hx
          · subst hx
            refine .inr (.inr (.inl ⟨G, ρ, r, ?_⟩))
            rw [ef]
            intro u H' G' p re fr
            obtain ⟨G2, p2, f2⟩ := go u H' G' p re fr
            rw [Fz] at f2
            exact ⟨_, f2, h _ _ _ p2 walks_str⟩
          · subst hx
            refine .inr (.inl ⟨G, ρ, r, ?_⟩)
            rw [ef]
            intro u H' G' p re fr
            obtain ⟨G2, p2, f2⟩ := go u H' G' p re fr
            rw [Fz] at f2
            obtain ⟨a, us, rfl, h1, h2⟩ := f2
            exact ⟨a, rfl, ⟨us, Same.sqt p2.rel.sub h1⟩, h _ _ _ p2 (walks_tup h1 h2)⟩
          · subst hx
            refine .inl ⟨G, ρ, r, ?_⟩
            rw [ef]
            intro u H' G' p re fr
            obtain ⟨G2, p2, f2⟩ := go u H' G' p re fr
            rw [Fz] at f2
            obtain ⟨a, us, rfl, h1, h2⟩ := f2
            exact ⟨a, rfl, ⟨us, SqL.of (p2.rel.sub _ _ h1)⟩, h _ _ _ p2 (walks_list h1 h2)⟩
          · subst hx
            refine .inl ⟨G, ρ, r, ?_⟩
            rw [ef]
            intro u H' G' p re fr
            obtain ⟨G2, p2, f2⟩ := go u H' G' p re fr
            rw [Fz] at f2
            obtain ⟨a, rfl, h1⟩ := f2
            exact ⟨a, rfl, ⟨_, Same.seq p2.rel.sub h1⟩, h _ _ _ p2 (walks_scr h1)⟩
          · subst hx
            refine .inr (.inr (.inr ⟨G, ρ, r, ?_⟩))
            rw [ef]
            intro u H' G' p re fr
            obtain ⟨G2, p2, f2⟩ := go u H' G' p re fr
            rw [Fz] at f2
            obtain ⟨a, ob, es, rfl, h1, h2⟩ := f2
            exact ⟨a, ob, es, rfl, p2.rel.sub _ _ h1, h _ _ _ p2 (walks_dd h1 h2)⟩
        · exact h.elim
      · exact h.elim
def aRng1 (fs : List S → Res (List E)) : List S → Res (List D) := fun ρ => (fs ρ).bind fun vs ρ1 => match vs with
  | [.d (.int j)] => if -(2 ^ 62) ≤ j ∧ j < 2 ^ 62 then .ok (rangeD 0 j.toNat) ρ1 else .no
  | _ => .no
def aRng2 (fs : List S → Res (List E)) : List S → Res (List D) := fun ρ => (fs ρ).bind fun vs ρ1 => match vs with
  | [.d (.int i), .d (.int j)] => if -(2 ^ 62) ≤ i ∧ i < 2 ^ 62 ∧ -(2 ^ 62) ≤ j ∧ j < 2 ^ 62 then .ok (rangeD i (j - i).toNat) ρ1 else .no
  | _ => .no
theorem i_rng1 {a : Expr} (hg : Gl X "range") (hm : X.mg "range" = none) (ha : PAa X W [a] fs) (hs : starEach [a] X.env = [(false, eval a X.env)] := by rfl) : PIa X W tg (.Call (.Name "range" p) [a] [] pos) (aRng1 fs) :=
  pi_imp (pi_range1 hg hm ha hs) fun σ H R ⟨G, ρ, r, h⟩ => by
    refine liftA_mono (liftA_first r (AftI.cl (R := R)) h) fun us H1 ⟨vs, ρ1, G1, P, h1⟩ => ?_
    split at h1
    · rename_i j
      split at h1
      · rename_i hb
        obtain ⟨u, e, re⟩ := P.re 0 _ rfl
        have re : Fz X.bk G1 u (.int j) := re
        rw [Fz] at re
        have hl := P.len
        match us, hl, e with
        | [w], _, e =>
          cases e
          exact ⟨j, by rw [re], hb.1, hb.2, h1 _ _ _ P.post walks_range⟩
      · exact h1.elim
    · exact h1.elim
theorem i_rng2 {a b : Expr} (hg : Gl X "range") (hm : X.mg "range" = none) (ha : PAa X W [a, b] fs) (hs : starEach [a, b] X.env = [(false, eval a X.env), (false, eval b X.env)] := by rfl) (hs2 : starEach [b] X.env = [(false, eval b X.env)] := by rfl) : PIa X W tg (.Call (.Name "range" p) [a, b] [] pos) (aRng2 fs) :=
  pi_imp (pi_range2 hg hm ha hs hs2) fun σ H R ⟨G, ρ, r, h⟩ => by
    refine liftA_mono (liftA_first r (AftI.cl (R := R)) h) fun us H1 ⟨vs, ρ1, G1, P, h1⟩ => ?_
    split at h1
    · rename_i i j
      split at h1
      · rename_i hb
        obtain ⟨u, e, re⟩ := P.re 0 _ rfl
        obtain ⟨u2, e2, re2⟩ := P.re 1 _ rfl
        have re : Fz X.bk G1 u (.int i) := re
        have re2 : Fz X.bk G1 u2 (.int j) := re2
        rw [Fz] at re re2
        have hl := P.len
        match us, hl, e, e2 with
        | [w, w2], _, e, e2 =>
          cases e
          cases e2
          exact ⟨i, j, by rw [re, re2], hb, h1 _ _ _ P.post walks_range⟩
      · exact h1.elim
    · exact h1.elim
def aEnum (fs : List S → Res (List E)) : List S → Res (List D) := fun ρ => (fs ρ).bind fun vs ρ1 => match vs with
  | [v] => match keep1 v ρ1 with
    | some (.lst xs, ρ2) => .ok (enumD xs) ρ2
    | _ => .no
  | _ => .no
theorem i_enum {a : Expr} {elts : List Expr} {kk : Nat} {tpos : Pos} (hg : Gl X "enumerate") (hm : X.mg "enumerate" = none) (ha : PAa X W [a] fs) (hs : starEach [a] X.env = [(false, eval a X.env)] := by rfl) : PIa X W (.Tuple elts kk tpos) (.Call (.Name "enumerate" p) [a] [] pos) (aEnum fs) :=
  pi_imp (pi_enum hg hm ha hs) fun σ H R ⟨G, ρ, r, h⟩ => by
    refine liftA_mono (liftA_first r (AftI.cl (R := R)) h) fun us H1 ⟨vs, ρ1, G1, P, h1⟩ => ?_
    split at h1
    · rename_i v
      split at h1
      · rename_i xs ρ2 hk
        have hl := P.len
        match us, hl, P with
        | [w], _, P =>
          obtain ⟨G2, p2, f2, _⟩ := P.keep1 hk
          rw [Fz] at f2
          obtain ⟨a, us, rfl, q1, q2⟩ := f2
          exact ⟨a, us, rfl, SqL.of (p2.post.rel.sub _ _ q1), h1 _ _ _ p2.post (walks_enum q1 q2)⟩
      · exact h1.elim
    · exact h1.elim
end
end L2.AL
/-! A8: comprehensions; methods that change what a name owns. -/
namespace L2.AL
open PySem PySem.Spec PyProof.Rows
/-! ### the slots of a block -/
def wipeS (ρ : List S) : List Nat → List S
  | [] => ρ
  | v :: vs => (wipeS ρ vs).set v .no
def backS (ρ0 ρ : List S) : List Nat → List S
  | [] => ρ
  | v :: vs => (backS ρ0 ρ vs).set v ((ρ0[v]?).getD .no)
theorem wipe_get {σ : St} : ∀ {vs : List Nat} {j : Nat}, (wipe σ vs)[j]? = if j ∈ vs then (if j < σ.length then some none else none) else σ[j]?
  | [], j => by simp [wipe]
  | v :: vs, j => by
    rw [wipe]
    by_cases h : v = j
    · subst h
      rw [if_pos List.mem_cons_self]
      by_cases hl : v < σ.length
      · rw [if_pos hl, List.getElem?_set_self (by rw [wipe_length]; exact hl)]
      · rw [if_neg hl, List.getElem?_eq_none (by rw [List.length_set, wipe_length]; omega)]
    · rw [List.getElem?_set_ne h, wipe_get]
      have : (j ∈ v :: vs) = (j ∈ vs) := by simp [Ne.symm h]
      simp only [this]
theorem wipeS_length {ρ : List S} : ∀ {vs : List Nat}, (wipeS ρ vs).length = ρ.length
  | [] => rfl
  | v :: vs => by rw [wipeS, List.length_set, wipeS_length]
theorem wipeS_get {ρ : List S} : ∀ {vs : List Nat} {j : Nat}, (wipeS ρ vs)[j]? = if j ∈ vs then (if j < ρ.length then some .no else none) else ρ[j]?
  | [], j => by simp [wipeS]
  | v :: vs, j => by
    rw [wipeS]
    by_cases h : v = j
    · subst h
      rw [if_pos List.mem_cons_self]
      by_cases hl : v < ρ.length
      · rw [if_pos hl, List.getElem?_set_self (by rw [wipeS_length]; exact hl)]
      · rw [if_neg hl, List.getElem?_eq_none (by rw [List.length_set, wipeS_length]; omega)]
    · rw [List.getElem?_set_ne h, wipeS_get]
      have : (j ∈ v :: vs) = (j ∈ vs) := by simp [Ne.symm h]
      simp only [this]
theorem backS_length {ρ0 ρ : List S} : ∀ {vs : List Nat}, (backS ρ0 ρ vs).length = ρ.length
  | [] => rfl
  | v :: vs => by rw [backS, List.length_set, backS_length]
theorem backS_get {ρ0 ρ : List S} : ∀ {vs : List Nat} {j : Nat}, (backS ρ0 ρ vs)[j]? = if j ∈ vs then (if j < ρ.length then some ((ρ0[j]?).getD .no) else none) else ρ[j]?
  | [], j => by simp [backS]
  | v :: vs, j => by
    rw [backS]
    by_cases h : v = j
    · subst h
      rw [if_pos List.mem_cons_self]
      by_cases hl : v < ρ.length
      · rw [if_pos hl, List.getElem?_set_self (by rw [backS_length]; exact hl)]
      · rw [if_neg hl, List.getElem?_eq_none (by rw [List.length_set, backS_length]; omega)]
    · rw [List.getElem?_set_ne h, backS_get]
      have : (j ∈ v :: vs) = (j ∈ vs) := by simp [Ne.symm h]
      simp only [this]
theorem wipe_eq {σ σ2 : St} {vs : List Nat} (hl : σ2.length = σ.length) (h : ∀ j, j ∉ vs → σ2[j]? = σ[j]?) : wipe σ2 vs = wipe σ vs := by
  refine List.ext_getElem? fun j => ?_
  rw [wipe_get, wipe_get, hl]
  by_cases hj : j ∈ vs
  · rw [if_pos hj, if_pos hj]
  · rw [if_neg hj, if_neg hj, h j hj]
theorem wipe_wipe {σ : St} {vs : List Nat} : wipe (wipe σ vs) vs = wipe σ vs := wipe_eq (wipe_length _ _) fun j hj => by rw [wipe_get, if_neg hj]
section
variable {B : Bk} {σ σ' σ0 : St} {ρ ρ0 ρ' : List S} {H H0 H' G G0 G' : Hp} {vs : List Nat}
theorem own_wipe {j : Nat} {b : Addr} (w : Own (wipe σ vs) (wipeS ρ vs) j b) : Own σ ρ j b ∧ j ∉ vs := by
  obtain ⟨w1, o, w2⟩ := w
  rw [wipe_get] at w1
  rw [wipeS_get] at w2
  by_cases hj : j ∈ vs
  · rw [if_pos hj] at w1
    split at w1 <;> cases w1
  · rw [if_neg hj] at w1 w2
    exact ⟨⟨w1, o, w2⟩, hj⟩
theorem Rel.wipe (r : Rel B G σ ρ H) : Rel B G (wipe σ vs) (wipeS ρ vs) H := by
  refine ⟨r.sub, by rw [wipe_length, wipeS_length]; exact r.len, fun j s e => ?_, fun i j a w1 w2 => r.sep i j a (own_wipe w1).1 (own_wipe w2).1⟩
  rw [wipeS_get] at e
  rw [wipe_get]
  by_cases hj : j ∈ vs
  · rw [if_pos hj] at e ⊢
    by_cases hl : j < ρ.length
    · rw [if_pos hl] at e
      rw [if_pos (by rw [r.len]; exact hl)]
      cases e
      exact ⟨none, rfl, trivial⟩
    · rw [if_neg hl] at e; cases e
  · rw [if_neg hj] at e ⊢
    exact r.slot j s e
theorem Post.wipeR (p : Post B σ0 ρ0 H0 G0 σ ρ H G) : Post B σ0 ρ0 H0 G0 (wipe σ vs) (wipeS ρ vs) H G :=
  ⟨p.grow, p.dom, p.frame, p.keep, p.rel.wipe, fun i a w => p.own i a (own_wipe w).1⟩
/-- an object that is nobody's comes, is changed -/
theorem Post.poke {D : Addr} {o : HO} (p : Post B σ0 ρ0 H0 G0 σ ρ H G) (h0 : H0 D = none) (hg : G D = none) (hn : ∀ j, ¬ Own σ ρ j D) : Post B σ0 ρ0 H0 G0 σ ρ (upd H D o) G := by
  refine ⟨p.grow, fun b e => p.dom b ?_, fun b u e n => ?_, p.keep, ⟨fun b u e => ?_, p.rel.len, fun j s e => ?_, p.rel.sep⟩, p.own⟩
  · by_cases hb : b = D
    · subst hb; rw [upd_same] at e; cases e
    · rw [upd_ne hb] at e; exact e
  · rw [upd_ne (ne_of_none e h0)]; exact p.frame b u e n
  · rw [upd_ne (ne_of_none e hg)]; exact p.rel.sub b u e
  · obtain ⟨v, e1, e2⟩ := p.rel.slot j s e
    refine ⟨v, e1, ?_⟩
    cases s with
    | no => trivial
    | d x => exact e2
    | own o' =>
      obtain ⟨a, ho, e3, e4, e5, e6⟩ := e2
      have ha : a ≠ D := fun z => hn j ⟨by rw [e1, e3, z], o', e⟩
      exact ⟨a, ho, e3, by rw [upd_ne ha]; exact e4, e5, e6⟩
/-- behind a block -/
theorem Post.backR {ρi : List S} (r : Rel B G0 σ ρ0 H0) (hv : ∀ v ∈ vs, ∀ o, ρ0[v]? ≠ some (.own o)) (p : Post B (wipe σ vs) (wipeS ρ0 vs) H0 G0 (wipe σ vs) ρi H G) : Post B σ ρ0 H0 G0 σ (backS ρ0 ρi vs) H G := by
  have hl : ρi.length = ρ0.length := by rw [← p.rel.len, wipe_length, r.len]
  have oo : ∀ j b, Own σ (backS ρ0 ρi vs) j b → Own (wipe σ vs) ρi j b := fun j b ⟨w1, o, w2⟩ => by
    rw [backS_get] at w2
    by_cases hj : j ∈ vs
    · rw [if_pos hj] at w2
      split at w2
      · cases e : ρ0[j]? with
        | none => rw [e] at w2; cases w2
        | some s =>
          rw [e] at w2
          cases w2
          exact absurd e (hv j hj o)
      · cases w2
    · rw [if_neg hj] at w2
      exact ⟨by rw [wipe_get, if_neg hj]; exact w1, o, w2⟩
  refine ⟨p.grow, p.dom, fun b o e n => p.frame b o e fun i w => n i (own_wipe w).1, fun b o e g n => p.keep b o e g fun i w => n i (own_wipe w).1, ⟨p.rel.sub, by rw [backS_length, hl]; exact r.len, fun j s e => ?_, fun i j a w1 w2 => p.rel.sep i j a (oo i a w1) (oo j a w2)⟩, fun i a w => ?_⟩
  · rw [backS_get] at e
    by_cases hj : j ∈ vs
    · rw [if_pos hj] at e
      by_cases hjl : j < ρi.length
      · rw [if_pos hjl] at e
        cases e
        obtain ⟨s, hs⟩ : ∃ s, ρ0[j]? = some s := ⟨ρ0[j]'(by omega), by simp [show j < ρ0.length by omega]⟩
        rw [hs]
        obtain ⟨v, e1, e2⟩ := r.slot j s hs
        refine ⟨v, e1, ?_⟩
        show SlotOk B G H v s
        cases s with
        | no => trivial
        | d x => obtain ⟨u, q1, q2⟩ := e2; exact ⟨u, q1, Fz.mono p.grow _ _ q2⟩
        | own o => exact absurd hs (hv j hj o)
      · rw [if_neg hjl] at e; cases e
    · rw [if_neg hj] at e
      obtain ⟨v, e1, e2⟩ := p.rel.slot j s e
      rw [wipe_get, if_neg hj] at e1
      exact ⟨v, e1, e2⟩
  · rcases p.own i a (oo i a w) with z | z
    · exact .inl (own_wipe z).1
    · exact .inr z
end
/-! ### [e for t in it if c] -/
def Res.noex {α : Type} : Res α → Res α
  | .ex _ _ => .no
  | r => r
def aYes : List S → Res Bool := fun ρ => .ok true ρ
def lcGo (t : Tg) (c : List S → Res Bool) (f : List S → Res E) (vs : List Nat) : List D → List D → List S → Res (List D)
  | [], acc, ρ => .ok acc ρ
  | x :: xs, acc, ρ => match tset t x ρ with
    | none => .no
    | some ρ1 => (c ρ1).bind fun b ρ2 => if b = true then (f ρ2).bind fun v ρ3 => match keep1 v ρ3 with
        | some (y, ρ4) => if acc.length < sizeLine then lcGo t c f vs xs (acc ++ [y]) (wipeS ρ4 vs) else .no
        | none => .no
      else lcGo t c f vs xs acc (wipeS ρ2 vs)
def nOwn (ρ : List S) (vs : List Nat) : Bool := vs.all fun v => match ρ[v]? with
  | some (.own _) => false
  | _ => true
def aLc (vs : List Nat) (it : List S → Res (List D)) (t : Tg) (c : List S → Res Bool) (f : List S → Res E) : List S → Res E := fun ρ => (it ρ).bind fun xs ρ1 =>
  if nOwn ρ1 vs = true then (lcGo t c f vs xs [] (wipeS ρ1 vs)).noex.bind fun acc ρ2 => .ok (.fr (.lst acc)) (backS ρ1 ρ2 vs) else .no
abbrev WF : WX' := fun _ _ _ _ => False
mutual
theorem tset_len : ∀ {t : Tg} {x : D} {ρ ρ' : List S}, tset t x ρ = some ρ' → ρ'.length = ρ.length
  | .nm i, x, ρ, ρ', e => by simp only [tset, Option.some.injEq] at e; subst e; rw [List.length_set]
  | .tp ts, x, ρ, ρ', e => by
    cases x <;> simp only [tset, reduceCtorEq] at e
    · exact tsetL_len2 e
    · exact tsetL_len2 e
theorem tsetL_len2 : ∀ {ts : List Tg} {xs : List D} {ρ ρ' : List S}, tsetL ts xs ρ = some ρ' → ρ'.length = ρ.length
  | [], [], ρ, ρ', e => by simp only [tsetL, Option.some.injEq] at e; rw [e]
  | [], _ :: _, _, _, e => by simp [tsetL] at e
  | _ :: _, [], _, _, e => by simp [tsetL] at e
  | t :: ts, x :: xs, ρ, ρ', e => by
    simp only [tsetL] at e
    split at e
    · rename_i ρ1 e1
      rw [tsetL_len2 e, tset_len e1]
    · cases e
end
section
variable {B : Bk} {W : WX'} {it : List S → Res (List D)} {t : Tg} {c : List S → Res Bool} {f : List S → Res E} {vs : List Nat}
/-- what walks as long as C stands -/
structure WalksF (B : Bk) (J : It) (G : Hp) (C : Hp → Prop) (xs : List D) : Prop where
  go : ∀ i H G', i < xs.length → Same G G' → Same G' H → C H → J.go i H
  stop : ∀ H G', Same G G' → Same G' H → C H → J.stop xs.length H
  yld : ∀ i H G' v H', i < xs.length → Same G G' → Same G' H → C H → J.yld i H v H' → ∃ x G'', xs[i]? = some x ∧ New B G' H v (.d x) H' G''
theorem WalksD.toF {J : It} {G : Hp} {xs : List D} (w : WalksD B J G xs) : WalksF B J G (fun _ => True) xs := ⟨fun i H G' hi s1 s2 _ => w.go i H G' hi s1 s2, fun H G' s1 s2 _ => w.stop H G' s1 s2, fun i H G' v H' hi s1 s2 _ => w.yld i H G' v H' hi s1 s2⟩
theorem walks_own {a : Addr} {us : List V} {xs : List D} {G : Hp} (f : FzL B G us xs) : WalksF B (Itl B.K a) G (fun H => H a = some (.lst us)) xs := by
  have hl := f.length
  refine ⟨fun i H G' hi s1 s2 h => ?_, fun H G' s1 s2 h => ?_, fun i H G' v H' hi s1 s2 h y => ?_⟩
  · exact walk_list.goes i H (by rw [hl]; exact hi) (SqL.of h)
  · rw [← hl]; exact walk_list.stops H (SqL.of h)
  · obtain ⟨rfl, e⟩ := walk_list.yields i H v H' (by rw [hl]; exact hi) (SqL.of h) y
    obtain ⟨x, e1, f1⟩ := f.get' e
    exact ⟨x, G', e1, .scalar s2 (Fz.mono s1 _ _ f1)⟩
theorem lc_in {J : It} {σ : St} {ρ1 ρ2 : List S} {H1 G1 : Hp} {C : Hp → Prop} {xs acc : List D} {Q : VK} (ht : ∀ j, j ∈ t.names → j ∈ vs) (r1 : Rel B G1 σ ρ1 H1) (wk : WalksF B J G1 C xs)
    (hC : ∀ ρi Hi Gi, Post B (wipe σ vs) (wipeS ρ1 vs) H1 G1 (wipe σ vs) ρi Hi Gi → C Hi) (hv : ∀ v ∈ vs, ∀ o, ρ1[v]? ≠ some (.own o)) (eg : lcGo t c f vs xs [] (wipeS ρ1 vs) = .ok acc ρ2)
    (h : ∀ u H' G', Post B σ ρ1 H1 G1 σ (backS ρ1 ρ2 vs) H' G' → RE B G' σ (backS ρ1 ρ2 vs) H' u (.fr (.lst acc)) → Fresh H1 u (.fr (.lst acc)) → Q u H') (D : Addr) (hD : H1 D = none) :
    ∃ W : Nat → Nat → Hp → Prop, (∃ m, W 0 m (upd H1 D (.lst []))) ∧ ∀ i m H, W i m H →
  (J.stop i H ∧ Q (.ref D) H) ∨ (J.go i H ∧ ∃ Nx : Hp → Prop, (∀ H', Nx H' → ∃ m', m' < m ∧ W (i + 1) m' H') ∧ ∀ x H', J.yld i H x H' → gD B t x (wipe σ vs) H' fun σ2 H2 => wipe σ2 vs = wipe σ vs ∧ liftT B WF c σ2 H2 fun b H3 =>
    if b = true then lift B WF f σ2 H3 fun y H4 => ∃ acc, H4 D = some (.lst acc) ∧ acc.length < sizeLine ∧ Nx (upd H4 D (.lst (acc ++ [y]))) else Nx H3) := by
  have gD1 : G1 D = none := Same.free r1.sub hD
  have notD : ∀ j, ¬ Own σ ρ1 j D := fun j ⟨w1, o, w2⟩ => by
    obtain ⟨v, e1, a, ho, e2, e3, _⟩ := r1.slot j _ w2
    rw [w1] at e1; cases e1; cases e2
    rw [hD] at e3; cases e3
  refine ⟨fun i m Hi => m = xs.length - i ∧ i ≤ xs.length ∧ ∃ ρi Gi accv acci, Post B (wipe σ vs) (wipeS ρ1 vs) H1 G1 (wipe σ vs) ρi Hi Gi ∧ Hi D = some (.lst accv) ∧ Gi D = none ∧ (∀ j, ¬ Own (wipe σ vs) ρi j D) ∧ FzL B Gi accv acci ∧ lcGo t c f vs (xs.drop i) acci ρi = .ok acc ρ2,
    ⟨xs.length, by simp, Nat.zero_le _, wipeS ρ1 vs, G1, [], [], ?_, upd_same, gD1, fun j w => notD j (own_wipe w).1, .nil, by simpa using eg⟩, ?_⟩
  · exact (Post.refl r1.wipe).poke hD gD1 fun j w => notD j (own_wipe w).1
  rintro i m Hi ⟨rfl, hi, ρi, Gi, accv, acci, P, hHD, hGD, hND, hF, hgo⟩
  by_cases hlt : i < xs.length
  · refine .inr ⟨wk.go i Hi Gi hlt P.grow P.rel.sub (hC ρi Hi Gi P), fun H' => ∃ ρi Gi accv acci, Post B (wipe σ vs) (wipeS ρ1 vs) H1 G1 (wipe σ vs) ρi H' Gi ∧ H' D = some (.lst accv) ∧ Gi D = none ∧ (∀ j, ¬ Own (wipe σ vs) ρi j D) ∧ FzL B Gi accv acci ∧ lcGo t c f vs (xs.drop (i + 1)) acci ρi = .ok acc ρ2,
      fun H' q => ⟨xs.length - (i + 1), by omega, rfl, hlt, q⟩, fun v H' y => ?_⟩
    obtain ⟨x, G2, ex, nw⟩ := wk.yld i Hi Gi v H' hlt P.grow P.rel.sub (hC ρi Hi Gi P) y
    obtain ⟨q1, re, _⟩ := nw.post (Post.refl P.rel)
    have re : Fz B G2 v x := re
    have hdr : xs.drop i = x :: xs.drop (i + 1) := by
      rw [List.drop_eq_getElem_cons hlt]
      have : xs[i] = x := by rw [List.getElem?_eq_getElem hlt] at ex; exact Option.some.inj ex
      rw [this]
    rw [hdr, lcGo] at hgo
    split at hgo
    · cases hgo
    · rename_i ρa ea
      refine ⟨G2, ρi, x, ρa, q1.rel, re, ea, fun σ2 p2 k2 => ?_⟩
      have w2 : wipe σ2 vs = wipe (wipe σ vs) vs := wipe_eq (by have h1 := p2.rel.len; have h2 := q1.rel.len; have h3 := tset_len ea; omega) fun j hj => k2 j fun z => hj (ht j z)
      rw [wipe_wipe] at w2
      · refine ⟨w2, ?_⟩
        have P2 := q1.trans p2
        have D2 : H' D = some (.lst accv) := q1.frame D _ hHD hND
        cases ec : c ρa with
        | no => rw [ec] at hgo; cases hgo
        | ex e ρ' => rw [ec] at hgo; cases hgo
        | ok b ρb =>
          rw [ec, Res.bind_ok] at hgo
          refine ⟨G2, ρa, p2.rel, ?_⟩
          rw [ec]
          intro H3 G3 p3
          have P3 := P2.trans p3
          have D3 : H3 D = some (.lst accv) := P3.frame D _ hHD hND
          have N3 : ∀ j, ¬ Own σ2 ρb j D := P3.notown hHD hND
          have K3 : G3 D = none := P3.keep D _ hHD hGD hND
          cases b with
          | false =>
            rw [if_neg Bool.false_ne_true] at hgo ⊢
            refine ⟨wipeS ρb vs, G3, accv, acci, ?_, D3, K3, fun j w => ?_, FzL.mono P3.grow _ _ hF, hgo⟩
            · have := (P.trans P3).wipeR (vs := vs)
              rw [w2] at this; exact this
            · rw [← w2] at w
              exact N3 j (own_wipe w).1
          | true =>
            rw [if_pos rfl] at hgo ⊢
            cases ef : f ρb with
            | no => rw [ef] at hgo; cases hgo
            | ex e ρ' => rw [ef] at hgo; cases hgo
            | ok w ρc =>
              rw [ef, Res.bind_ok] at hgo
              split at hgo
              · rename_i y ρd hk
                split at hgo
                · rename_i hz
                  refine ⟨G3, ρb, p3.rel, ?_⟩
                  rw [ef]
                  intro u H4 G4 p4 re4 fr4
                  obtain ⟨G5, pd, f5, s5⟩ := Pend.keep1 (Pend.one p4 p3.rel re4 fr4) hk
                  have P5 := P3.trans pd.post
                  have D5 : H4 D = some (.lst accv) := P5.frame D _ hHD hND
                  have N5 : ∀ j, ¬ Own σ2 ρd j D := P5.notown hHD hND
                  have K5 : G5 D = none := P5.keep D _ hHD hGD hND
                  have F5 : FzL B G5 accv acci := FzL.mono P5.grow _ _ hF
                  refine ⟨accv, D5, by rw [F5.length]; exact hz, wipeS ρd vs, G5, accv ++ [u], acci ++ [y], ?_, upd_same, K5, fun j w => ?_, F5.append (.one f5), hgo⟩
                  · have := ((P.trans P5).poke (o := .lst (accv ++ [u])) hD K5 N5).wipeR (vs := vs)
                    rw [w2] at this; exact this
                  · rw [← w2] at w
                    exact N5 j (own_wipe w).1
                · cases hgo
              · cases hgo
  · have e : i = xs.length := by omega
    subst e
    refine .inl ⟨wk.stop Hi Gi P.grow P.rel.sub (hC ρi Hi Gi P), ?_⟩
    rw [List.drop_length, lcGo] at hgo
    cases hgo
    have pb := Post.backR r1 hv P
    have pf := pb
    refine h (.ref D) Hi Gi pf ⟨D, .lst accv, rfl, hHD, hGD, ⟨accv, rfl, hF⟩, fun j w => ?_⟩ fun a e => ?_
    · rcases pb.own j D w with z | z
      · exact notD j z
      · obtain ⟨w1, o, w2⟩ := w
        rw [backS_get] at w2
        by_cases hj : j ∈ vs
        · rw [if_pos hj] at w2
          split at w2
          · cases e : ρ1[j]? with
            | none => rw [e] at w2; cases w2
            | some s => rw [e] at w2; cases w2; exact absurd e (hv j hj o)
          · cases w2
        · rw [if_neg hj] at w2
          exact hND j ⟨by rw [wipe_get, if_neg hj]; exact w1, o, w2⟩
    · cases e; exact hD
theorem lc_imp (ht : ∀ j, j ∈ t.names → j ∈ vs) (σ : St) (H : Hp) (Q : VK) (h : lift B W (aLc vs it t c f) σ H Q) : tLc (liftI B W it) (gD B t) (liftT B WF c) (lift B WF f) vs σ H Q := by
  obtain ⟨G, ρ, r, h⟩ := h
  refine ⟨G, ρ, r, ?_⟩
  unfold aLc at h
  cases ei : it ρ with
  | no => rw [ei] at h; exact h
  | ex e ρ' => rw [ei] at h; exact h
  | ok xs ρ1 =>
    rw [ei, Res.bind_ok] at h
    split at h
    · rename_i hno
      have hv : ∀ v ∈ vs, ∀ o, ρ1[v]? ≠ some (.own o) := fun v hv o e => by
        have := List.all_eq_true.mp hno v hv
        rw [e] at this; cases this
      cases eg : lcGo t c f vs xs [] (wipeS ρ1 vs) with
      | no => rw [eg] at h; exact h.elim
      | ex e ρ' => rw [eg] at h; exact h.elim
      | ok acc ρ2 =>
        rw [eg] at h
        have h : Aft B W σ ρ H G Q (.ok (.fr (.lst acc)) (backS ρ1 ρ2 vs)) := h
        intro J H1 G1 p1 wk D hD
        exact lc_in ht p1.rel wk.toF (fun _ _ _ _ => trivial) hv eg (fun u H' G' p re fr => h u H' G' (p1.trans p) re fun a e => p1.dom a (fr a e)) D hD
    · exact h.elim
/-- a list that stands aside while a block runs, and is taken back -/
theorem Post.unhide {B : Bk} {σ : St} {ρ ρ' : List S} {H G H' G' : Hp} {i : Nat} {xs : List D} (r : Rel B G σ ρ H) (hi : ρ[i]? = some (.own (.lst xs))) (p : Post B σ (ρ.set i .no) H G σ ρ' H' G') : Post B σ ρ H G σ (ρ'.set i (.own (.lst xs))) H' G' := by
  obtain ⟨v, e1, a, ho, rfl, e3, e4, us, rfl, f⟩ := r.slot i _ hi
  have hl : i < ρ.length := (List.getElem?_eq_some_iff.mp hi).1
  have hlen : ρ'.length = ρ.length := by have h1 := p.rel.len; have h2 := r.len; omega
  have oh : ∀ j b, Own σ (ρ.set i .no) j b → Own σ ρ j b ∧ j ≠ i := fun j b ⟨w1, o, w2⟩ => by
    by_cases e : i = j
    · subst e; rw [List.getElem?_set_self hl] at w2; cases w2
    · rw [List.getElem?_set_ne e] at w2; exact ⟨⟨w1, o, w2⟩, fun z => e z.symm⟩
  have ua : ∀ j, ¬ Own σ (ρ.set i .no) j a := fun j w => (oh j a w).2 (r.sep j i a (oh j a w).1 ⟨e1, _, hi⟩)
  have ua' : ∀ j, ¬ Own σ ρ' j a := p.notown e3 ua
  have on : ∀ j b, Own σ (ρ'.set i (.own (.lst xs))) j b → (j = i ∧ b = a) ∨ Own σ ρ' j b := fun j b ⟨w1, o, w2⟩ => by
    by_cases e : i = j
    · subst e; rw [e1] at w1; cases w1; exact .inl ⟨rfl, rfl⟩
    · rw [List.getElem?_set_ne e] at w2; exact .inr ⟨w1, o, w2⟩
  refine ⟨p.grow, p.dom, fun b o e n => p.frame b o e fun j w => n j (oh j b w).1, fun b o e g n => p.keep b o e g fun j w => n j (oh j b w).1, ⟨p.rel.sub, by rw [p.rel.len, List.length_set], fun j s e => ?_, fun j k b w1 w2 => ?_⟩, fun j b w => ?_⟩
  · by_cases ej : i = j
    · subst ej
      rw [List.getElem?_set_self (by omega)] at e
      cases e
      exact ⟨_, e1, a, _, rfl, p.frame a _ e3 ua, p.keep a _ e3 e4 ua, us, rfl, FzL.mono p.grow _ _ f⟩
    · rw [List.getElem?_set_ne ej] at e
      exact p.rel.slot j s e
  · rcases on j b w1 with ⟨rfl, rfl⟩ | z1 <;> rcases on k _ w2 with ⟨rfl, e2⟩ | z2
    · rfl
    · exact absurd z2 (ua' k)
    · exact absurd (e2 ▸ z1) (ua' j)
    · exact p.rel.sep j k b z1 z2
  · rcases on j b w with ⟨rfl, rfl⟩ | z
    · exact .inl ⟨e1, _, hi⟩
    · rcases p.own j b z with z | z
      · exact .inl (oh j b z).1
      · exact .inr z
/-- a comprehension over what a name owns -/
def aLcO (i : Nat) (vs : List Nat) (t : Tg) (c : List S → Res Bool) (f : List S → Res E) : List S → Res E := fun ρ => match ρ[i]? with
  | some (.own (.lst xs)) => if nOwn (ρ.set i .no) vs = true then (lcGo t c f vs xs [] (wipeS (ρ.set i .no) vs)).noex.bind fun acc ρ2 => .ok (.fr (.lst acc)) ((backS (ρ.set i .no) ρ2 vs).set i (.own (.lst xs))) else .no
  | _ => .no
theorem Rel.hide {B : Bk} {σ : St} {ρ : List S} {H G : Hp} {i : Nat} (r : Rel B G σ ρ H) : Rel B G σ (ρ.set i .no) H := by
  refine ⟨r.sub, by rw [r.len, List.length_set], fun j s e => ?_, fun j k b w1 w2 => ?_⟩
  · by_cases ej : i = j
    · subst ej
      by_cases hl : i < ρ.length
      · rw [List.getElem?_set_self hl] at e
        cases e
        exact ⟨σ[i]'(by rw [r.len]; exact hl), List.getElem?_eq_getElem _, trivial⟩
      · rw [List.set_eq_of_length_le (by omega)] at e
        exact r.slot i s e
    · rw [List.getElem?_set_ne ej] at e; exact r.slot j s e
  · have oh : ∀ j b, Own σ (ρ.set i .no) j b → Own σ ρ j b := fun j b ⟨w1, o, w2⟩ => by
      by_cases e : i = j
      · subst e
        by_cases hl : i < ρ.length
        · rw [List.getElem?_set_self hl] at w2; cases w2
        · rw [List.set_eq_of_length_le (by omega)] at w2; exact ⟨w1, o, w2⟩
      · rw [List.getElem?_set_ne e] at w2; exact ⟨w1, o, w2⟩
    exact r.sep j k b (oh j b w1) (oh k b w2)
theorem lc_impO {i : Nat} (ht : ∀ j, j ∈ t.names → j ∈ vs) (σ : St) (H : Hp) (Q : VK) (h : lift B W (aLcO i vs t c f) σ H Q) : tLc (iList B.K (tVar i)) (gD B t) (liftT B WF c) (lift B WF f) vs σ H Q := by
  obtain ⟨G, ρ, r, h⟩ := h
  unfold aLcO at h
  split at h
  · rename_i xs hi
    obtain ⟨v, e1, a, ho, rfl, e3, e4, us, rfl, fz⟩ := r.slot i _ hi
    split at h
    · rename_i hno
      have hv : ∀ v ∈ vs, ∀ o, (ρ.set i .no)[v]? ≠ some (.own o) := fun v hv o e => by
        have := List.all_eq_true.mp hno v hv
        rw [e] at this; cases this
      cases eg : lcGo t c f vs xs [] (wipeS (ρ.set i .no) vs) with
      | no => rw [eg] at h; exact h.elim
      | ex e ρ' => rw [eg] at h; exact h.elim
      | ok acc ρ2 =>
        rw [eg] at h
        have h : Aft B W σ ρ H G Q (.ok (.fr (.lst acc)) ((backS (ρ.set i .no) ρ2 vs).set i (.own (.lst xs)))) := h
        have rh := r.hide (i := i)
        have hl : i < ρ.length := (List.getElem?_eq_some_iff.mp hi).1
        have ua : ∀ j, ¬ Own σ (ρ.set i .no) j a := fun j ⟨w1, o, w2⟩ => by
          by_cases e : i = j
          · subst e; rw [List.getElem?_set_self hl] at w2; cases w2
          · rw [List.getElem?_set_ne e] at w2
            exact e (r.sep i j a ⟨e1, _, hi⟩ ⟨w1, o, w2⟩)
        refine ⟨.ref a, e1, a, rfl, ⟨us, SqL.of e3⟩, fun D hD => ?_⟩
        refine lc_in ht rh (walks_own fz) (fun ρi Hi Gi P => P.frame a _ e3 fun j w => ua j (own_wipe w).1) hv eg (fun u H' G' p re fr => ?_) D hD
        obtain ⟨dd, hd, rfl, d1, d2, d3, d4⟩ := re
        refine h (.ref dd) H' G' (Post.unhide r hi p) ⟨dd, hd, rfl, d1, d2, d3, fun j ⟨w1, o, w2⟩ => ?_⟩ fr
        by_cases e : i = j
        · subst e
          rw [e1] at w1
          have ea : a = dd := by cases w1; rfl
          have := fr dd rfl
          rw [← ea, e3] at this; cases this
        · rw [List.getElem?_set_ne e] at w2
          exact d4 j ⟨w1, o, w2⟩
    · exact h.elim
  · exact h.elim
end
end L2.AL
/-! A9: rules of comprehensions, of methods that change; statements. -/
namespace L2.AL
open PySem PySem.Spec PyProof.Rows
section
variable {X : Cx} {W : WX'} {tg iter elt : Expr} {ifs : List Expr} {scope : Scope} {own : List (Str × Nat)} {pos : Pos} {it : List S → Res (List D)} {t : Tg} {c : List S → Res Bool} {f : List S → Res E} {vs : List Nat}
theorem pts_imp {ifs : List Expr} {t t' : TT} (h : PTs X ifs t) (w : ∀ σ H Q, t' σ H Q → t σ H Q) : PTs X ifs t' := ⟨fun pins s σ H Q I q => h.run pins s σ H Q I (w σ H Q q)⟩
theorem c_yes : PTs X [] (liftT X.bk W aYes) := pts_imp pts_nil fun σ H Q ⟨G, ρ, r, h⟩ => h H G (.refl r)
theorem c_one {a : Expr} (h : PTa X W a c) : PTs X [a] (liftT X.bk W c) := pts_one h
theorem a_lc (hc : X.calm = true) (hN : X.N.Nodup) (ok : BlkOk X.N X.env.scope scope own) (hv : own.map (·.2) = vs) (ht : ∀ j, j ∈ t.names → j ∈ vs) (hi : PIa X W tg iter it)
    (hg : ∀ (s : Shared) (H : Hp) (C : Addr) (cl : List (Str × Addr)) (fp : List Addr), PG (X.blk s H scope (compEnvC scope cl C X.env) fp) tg (gD X.bk t))
    (hc' : ∀ (s : Shared) (H : Hp) (C : Addr) (cl : List (Str × Addr)) (fp : List Addr), PTs (X.blk s H scope (compEnvC scope cl C X.env) fp) ifs (liftT X.bk WF c))
    (he : ∀ (s : Shared) (H : Hp) (C : Addr) (cl : List (Str × Addr)) (fp : List Addr), PE (X.blk s H scope (compEnvC scope cl C X.env) fp) elt (lift X.bk WF f)) (hs : ∀ x, foldedSetIterable iter X.env x = pure x := by intro _; rfl) :
    PEa X W (.ListComp elt [⟨tg, iter, ifs, 0⟩] scope pos) (aLc vs it t c f) := by
  subst hv
  exact pe_imp (pe_lc hc hN hi ok hg hc' he hs) fun σ H Q q => lc_imp ht σ H Q q
theorem a_lcO {i : Nat} {x : Str} {npos : Pos} (hc : X.calm = true) (hN : X.N.Nodup) (ok : BlkOk X.N X.env.scope scope own) (hv : own.map (·.2) = vs) (ht : ∀ j, j ∈ t.names → j ∈ vs) (hi : X.N[i]? = some x)
    (hg : ∀ (s : Shared) (H : Hp) (C : Addr) (cl : List (Str × Addr)) (fp : List Addr), PG (X.blk s H scope (compEnvC scope cl C X.env) fp) tg (gD X.bk t))
    (hc' : ∀ (s : Shared) (H : Hp) (C : Addr) (cl : List (Str × Addr)) (fp : List Addr), PTs (X.blk s H scope (compEnvC scope cl C X.env) fp) ifs (liftT X.bk WF c))
    (he : ∀ (s : Shared) (H : Hp) (C : Addr) (cl : List (Str × Addr)) (fp : List Addr), PE (X.blk s H scope (compEnvC scope cl C X.env) fp) elt (lift X.bk WF f)) (hvis : Vis X.env.scope x := by first | exact Or.inl rfl | exact Or.inr (Or.inl rfl) | exact Or.inr (Or.inr rfl))
    (hd : (x == ("__debug__" : Str)) = false := by decide) (hcd : (x == ("__classdict__" : Str)) = false := by decide) (hs : ∀ y, foldedSetIterable (.Name x npos) X.env y = pure y := by intro _; rfl) :
    PEa X W (.ListComp elt [⟨tg, .Name x npos, ifs, 0⟩] scope pos) (aLcO i vs t c f) := by
  subst hv
  exact pe_imp (pe_lc hc hN (pi_list (pe_var hi hvis hd hcd)) ok hg hc' he hs) fun σ H Q q => lc_impO ht σ H Q q
end
/-! ### methods that change -/
/-- what a method does to the object of a name -/
def SndU (B : Bk) (g : O → List D → Option (D × O)) (r : V → List V → Hp → VK → Prop) : Prop :=
  ∀ (o : O) (xs : List D) (y : D) (o' : O) (a : Addr) (ho : HO) (us : List V) (G H : Hp) (Q : VK), g o xs = some (y, o') → Same G H → H a = some ho → RO B G a ho o → FzL B G us xs →
    (∀ u ho', Fz B G u y → RO B G a ho' o' → Q u (upd H a ho')) → r (.ref a) us H Q
def O.tyn : O → Option String
  | .lst _ => some "list"
  | .dct _ => some "dict"
  | _ => none
def aMut (T : String) (i : Nat) (g : O → List D → Option (D × O)) (fs : List S → Res (List E)) : List S → Res E := fun ρ => match ρ[i]? with
  | some (.own o0) => if o0.tyn = some T then (fs ρ).bind fun vs ρ1 => match keepL vs ρ1 with
      | some (xs, ρ2) => match ρ2[i]? with
        | some (.own o) => match g o xs with
          | some (y, o') => .ok (.d y) (ρ2.set i (.own o'))
          | none => .no
        | _ => .no
      | none => .no
    else .no
  | _ => .no
section
variable {X : Cx} {W : WX'} {e : Expr} {es : List Expr} {fs : List S → Res (List E)} {name : Str} {apos cpos npos : Pos} {T id : String} {g : O → List D → Option (D × O)} {r : V → List V → Hp → VK → Prop} {x : Str} {i : Nat}
theorem tyV_own {B : Bk} {σ : St} {ρ : List S} {H G : Hp} {u : V} {o : O} (rl : Rel B G σ ρ H) (h : σ[i]? = some (some u)) (ho : ρ[i]? = some (.own o)) (e : o.tyn = some T) : tyV B.K T u H := by
  obtain ⟨v, e1, a, hob, e2, e3, e4, e5⟩ := rl.slot i _ ho
  rw [h] at e1; cases e1; cases e2
  cases o with
  | dd ds => cases e
  | ins c ds => cases e
  | lst ds => obtain ⟨us, rfl, _⟩ := e5; cases e; exact .inl ⟨rfl, us, SqL.of e3⟩
  | dct ds => obtain ⟨us, rfl, _⟩ := e5; cases e; exact .inr (.inr (.inl ⟨rfl, .inl ⟨us, e3⟩⟩))
theorem mut_end {B : Bk} {σ : St} {ρ0 ρ1 ρ2 : List S} {H0 G0 H G : Hp} {Q : VK} {u : V} {us : List V} {vs : List E} {xs : List D} {o o' : O} {y : D} (sn : SndU B g r)
    (P : Pend B σ ρ0 H0 G0 ρ1 H G (u :: us) (.sl i :: vs)) (hk : keepL vs ρ1 = some (xs, ρ2)) (ho : ρ2[i]? = some (.own o)) (hg : g o xs = some (y, o')) (h : Aft B W σ ρ0 H0 G0 Q (.ok (.d y) (ρ2.set i (.own o')))) : r u us H Q := by
  obtain ⟨w, ew, rw'⟩ := P.re 0 _ rfl
  cases ew
  have rw' : σ[i]? = some (some u) := rw'
  obtain ⟨G2, p2, f2, s2⟩ := Pend.keepL (Pend.tail P) hk
  obtain ⟨v, e1, a, hob, e2, e3, e4, e5⟩ := p2.rel.slot i _ ho
  rw [rw'] at e1; cases e1; cases e2
  refine sn o xs y o' a hob us G2 H Q hg p2.rel.sub e3 e5 f2 fun w ho' fw ro => ?_
  exact h w _ G2 (mut_post p2 rw' ho ro) fw trivial
theorem a_mut (pa : PlainAttrs T) (slot : Slot T name id) (hty : typeOf (.builtin id) = pure (.type "method_descriptor")) (hm : MtR X id r) (sn : SndU X.bk g r)
    (hN : X.N[i]? = some x) (ha : PAa X W (e :: es) fs) (hv : Vis X.env.scope x := by first | exact Or.inl rfl | exact Or.inr (Or.inl rfl) | exact Or.inr (Or.inr rfl))
    (hd : (x == ("__debug__" : Str)) = false := by decide) (hcd : (x == ("__classdict__" : Str)) = false := by decide) (hbase : attributeBase (.Name x npos) name X.env (eval (.Name x npos) X.env) = eval (.Name x npos) X.env := by rfl)
    (hfew : ((backTo cpos (starEach (e :: es) X.env)).all (fun x => !x.1) && (backToKw cpos (keywordEach [] X.env)).all (fun x => x.1.isSome)
      && decide ((e :: es).length + ([] : List Keyword).length + (if ([] : List Keyword).isEmpty then 0 else 1) < 30)) = true := by rfl)
    (hline : (apos.endLine == cpos.line) = true := by rfl) (hs : starEach (e :: es) X.env = (false, eval e X.env) :: starEach es X.env := by rfl) (hplain : (backTo cpos (starEach es X.env)).any (·.1) = false := by rfl) :
    PEa X W (.Call (.Attribute (.Name x npos) name apos) (e :: es) [] cpos) (aMut T i g fs) :=
  pe_imp (pe_bm pa slot hty hm (a_var (W := W) i hN hv hd hcd) ha hbase hfew hline hs hplain) fun σ H Q ⟨G, ρ, rl, h⟩ => by
    unfold aMut at h
    split at h
    · rename_i o0 ho0
      split at h
      · rename_i hT
        refine ⟨G, ρ, rl, ?_⟩
        unfold aVar
        rw [ho0]
        intro u H1 G1 p1 re1 fr1
        have re1 : σ[i]? = some (some u) := re1
        refine ⟨tyV_own p1.rel re1 ho0 hT, ?_⟩
        have P0 : Pend X.bk σ ρ H G ρ H1 G1 [u] [.sl i] := Pend.one p1 rl re1 trivial
        refine liftA_mono (liftA_next P0 (Aft.cl (Q := Q)) h) fun us H2 ⟨vs, ρ1, G2, P2, h2⟩ => ?_
        split at h2
        · rename_i xs ρ2 hk
          split at h2
          · rename_i o ho
            split at h2
            · rename_i y o' hg
              exact mut_end sn P2 hk ho hg h2
            · exact h2.elim
          · exact h2.elim
        · exact h2.elim
      · exact h.elim
    · exact h.elim
def aMut0 (T : String) (i : Nat) (g : O → List D → Option (D × O)) : List S → Res E := aMut T i g aNil
theorem a_mut0 (pa : PlainAttrs T) (slot : Slot T name id) (hty : typeOf (.builtin id) = pure (.type "method_descriptor")) (hm : MtR X id r) (sn : SndU X.bk g r)
    (hN : X.N[i]? = some x) (hv : Vis X.env.scope x := by first | exact Or.inl rfl | exact Or.inr (Or.inl rfl) | exact Or.inr (Or.inr rfl))
    (hd : (x == ("__debug__" : Str)) = false := by decide) (hcd : (x == ("__classdict__" : Str)) = false := by decide) (hbase : attributeBase (.Name x npos) name X.env (eval (.Name x npos) X.env) = eval (.Name x npos) X.env := by rfl)
    (hline : (apos.endLine == cpos.line) = true := by rfl) :
    PEa X W (.Call (.Attribute (.Name x npos) name apos) [] [] cpos) (aMut0 T i g) :=
  pe_imp (pe_bm0 pa slot hty hm (a_var (W := W) i hN hv hd hcd) hbase hline) fun σ H Q ⟨G, ρ, rl, h⟩ => by
    unfold aMut0 aMut at h
    split at h
    · rename_i o0 ho0
      split at h
      · rename_i hT
        refine ⟨G, ρ, rl, ?_⟩
        unfold aVar
        rw [ho0]
        intro u H1 G1 p1 re1 fr1
        have re1 : σ[i]? = some (some u) := re1
        refine ⟨tyV_own p1.rel re1 ho0 hT, ?_⟩
        have P0 : Pend X.bk σ ρ H G ρ H1 G1 [u] [.sl i] := Pend.one p1 rl re1 trivial
        rw [aNil, Res.bind_ok] at h
        split at h
        · rename_i xs ρ2 hk
          split at h
          · rename_i o ho
            split at h
            · rename_i y o' hg
              exact mut_end (us := []) sn P0 hk ho hg h
            · exact h.elim
          · exact h.elim
        · exact h.elim
      · exact h.elim
    · exact h.elim
end
/-! the methods -/
def uAppend : O → List D → Option (D × O)
  | .lst xs, [x] => if xs.length < sizeLine then some (.non, .lst (xs ++ [x])) else none
  | _, _ => none
def uPop : O → List D → Option (D × O)
  | .lst xs, [] => xs.getLast?.map fun x => (x, .lst xs.dropLast)
  | _, _ => none
def uPopAt : O → List D → Option (D × O)
  | .lst xs, [.int i] => if -(2 ^ 63) ≤ i ∧ i < 2 ^ 63 then (seqIndex? i xs.length).bind fun k => xs[k]?.map fun x => (x, .lst (xs.eraseIdx k)) else none
  | _, _ => none
theorem append_snd {B : Bk} : SndU B uAppend rAppend := by
  intro o xs y o' a ho us G H Q e s hH ro f q
  unfold uAppend at e
  split at e
  · split at e
    · rename_i ys x hz
      cases e
      obtain ⟨zs, rfl, f1⟩ := ro
      match us, f with
      | [u], f =>
        rw [FzL] at f
        exact ⟨a, zs, u, rfl, rfl, hH, by rw [f1.length]; exact hz, q _ _ fz_non ⟨_, rfl, f1.append (.one f.1)⟩⟩
    · cases e
  · cases e
theorem FzL.eraseIdx {B : Bk} {G : Hp} : ∀ {ds : List D} {us : List V} (k : Nat), FzL B G us ds → FzL B G (us.eraseIdx k) (ds.eraseIdx k)
  | [], [], _, h => h
  | [], _ :: _, _, h => by rw [FzL] at h; exact h.elim
  | _ :: _, [], _, h => by rw [FzL] at h; exact h.elim
  | d :: ds, u :: us, 0, h => by rw [FzL] at h; exact h.2
  | d :: ds, u :: us, k + 1, h => by rw [FzL] at h; exact .cons h.1 (FzL.eraseIdx k h.2)
theorem popAt_snd {B : Bk} : SndU B uPopAt rPopAt := by
  intro o xs y o' a ho us G H Q e s hH ro f q
  unfold uPopAt at e
  split at e
  · rename_i ys i
    split at e
    · rename_i hb
      obtain ⟨k, e1, e2⟩ := Option.bind_eq_some_iff.mp e
      obtain ⟨x, e3, e4⟩ := Option.map_eq_some_iff.mp e2
      cases e4
      obtain ⟨zs, rfl, f1⟩ := ro
      obtain ⟨u, hu, fu⟩ := f1.get e3
      match us, f with
      | [w], f =>
        rw [FzL] at f
        rw [Fz] at f
        exact ⟨a, zs, i, k, u, rfl, by rw [f.1], hH, hb.1, hb.2, by rw [f1.length]; exact e1, hu, q _ _ fu ⟨_, rfl, f1.eraseIdx k⟩⟩
    · cases e
  · cases e
theorem pop_snd {B : Bk} : SndU B uPop rPop := by
  intro o xs y o' a ho us G H Q e s hH ro f q
  unfold uPop at e
  split at e
  · rename_i ys
    obtain ⟨x, e3, e4⟩ := Option.map_eq_some_iff.mp e
    cases e4
    obtain ⟨zs, rfl, f1⟩ := ro
    rw [List.getLast?_eq_getElem?] at e3
    obtain ⟨u, hu, fu⟩ := f1.get e3
    match us, f with
    | [], f => exact ⟨a, zs, u, rfl, rfl, hH, by rw [f1.length]; exact hu, q _ _ fu ⟨_, rfl, by rw [List.dropLast_eq_take, List.dropLast_eq_take, f1.length]; exact f1.take _⟩⟩
  · cases e
end L2.AL
/-! A10: statements. -/
namespace L2.AL
open PySem PySem.Spec PyProof.Rows
inductive Fl where
  | nx | bk | ct | rt (v : E)
/-- the names P are not set -/
def Keeps (P : List Nat) (σ σ' : St) : Prop := ∀ j ∈ P, σ'[j]? = σ[j]?
theorem Keeps.refl {P : List Nat} {σ : St} : Keeps P σ σ := fun _ _ => rfl
theorem Keeps.trans {P : List Nat} {σ σ' σ2 : St} (h : Keeps P σ σ') (h' : Keeps P σ' σ2) : Keeps P σ σ2 := fun j hj => (h' j hj).trans (h j hj)
section
variable (B : Bk) (W : WX') (P : List Nat)
section
variable (σ : St) (ρ : List S) (H G : Hp)
def OutS (e : Exc) (ρ' : List S) : Prop := ∀ cls d σ' H' G', Post B σ ρ H G σ' ρ' H' G' → Keeps P σ σ' → RX B G' H' cls d e → W cls d σ' H'
def AftS (D : Ends) : Res Fl → Prop
  | .ok .nx ρ' => ∀ σ' H' G', Post B σ ρ H G σ' ρ' H' G' → Keeps P σ σ' → D.nx σ' H'
  | .ok .bk ρ' => ∀ σ' H' G', Post B σ ρ H G σ' ρ' H' G' → Keeps P σ σ' → D.bk σ' H'
  | .ok .ct ρ' => ∀ σ' H' G', Post B σ ρ H G σ' ρ' H' G' → Keeps P σ σ' → D.ct σ' H'
  | .ok (.rt v) ρ' => ∀ u σ' H' G', Post B σ ρ H G σ' ρ' H' G' → Keeps P σ σ' → RE B G' σ' ρ' H' u v → Fresh H u v → D.rt u H'
  | .ex e ρ' => OutS B W P σ ρ H G e ρ'
  | .no => False
end
def liftS (f : List S → Res Fl) : TS := fun D σ H => ∃ G ρ, Rel B G σ ρ H ∧ AftS B W P σ ρ H G D (f ρ)
end
theorem fresh_dom {H H1 : Hp} {u : V} {v : E} (p : ∀ b, H1 b = none → H b = none) (h : Fresh H1 u v) : Fresh H u v := by
  cases v with
  | d x => trivial
  | sl i => trivial
  | fr o => exact fun a e => p a (h a e)
section
variable {B : Bk} {W : WX'} {P : List Nat} {σ σ1 σ' : St} {ρ ρ1 ρ' : List S} {H H1 H' G G1 G' : Hp} {D : Ends}
theorem AftS.cl : Cl B W σ ρ H G (AftS B W P σ ρ H G D) := ⟨fun _ _ h cls d H' G' p r => h cls d σ H' G' p .refl r, fun h => h⟩
/-- on from behind a statement -/
theorem aftS_go {r : Res Fl} (p : Post B σ ρ H G σ1 ρ1 H1 G1) (k : Keeps P σ σ1) (h : AftS B W P σ ρ H G D r) : AftS B W P σ1 ρ1 H1 G1 D r := by
  match r, h with
  | .ok .nx ρ', h => exact fun σ' H' G' q k' => h σ' H' G' (p.trans q) (k.trans k')
  | .ok .bk ρ', h => exact fun σ' H' G' q k' => h σ' H' G' (p.trans q) (k.trans k')
  | .ok .ct ρ', h => exact fun σ' H' G' q k' => h σ' H' G' (p.trans q) (k.trans k')
  | .ok (.rt v) ρ', h => exact fun u σ' H' G' q k' re fr => h u σ' H' G' (p.trans q) (k.trans k') re (fresh_dom p.dom fr)
  | .ex e ρ', h => exact fun cls d σ' H' G' q k' rx => h cls d σ' H' G' (p.trans q) (k.trans k') rx
end
abbrev PSa (X : Cx) (W : WX') (P : List Nat) (st : Stmt) (f : List S → Res Fl) : Prop := PS X st (liftS X.bk W P f)
abbrev PSsa (X : Cx) (W : WX') (P : List Nat) (st : List Stmt) (f : List S → Res Fl) : Prop := PSs X st (liftS X.bk W P f)
theorem ps_imp {X : Cx} {st : Stmt} {t t' : TS} (h : PS X st t) (w : ∀ D σ H, t' D σ H → t D σ H) : PS X st t' := ⟨fun pins s σ H D I q => h.run pins s σ H D I (w D σ H q)⟩
theorem pss_imp {X : Cx} {st : List Stmt} {t t' : TS} (h : PSs X st t) (w : ∀ D σ H, t' D σ H → t D σ H) : PSs X st t' := ⟨fun pins s σ H D I q => h.run pins s σ H D I (w D σ H q)⟩
def sNx : List S → Res Fl := fun ρ => .ok .nx ρ
def sSeq (f g : List S → Res Fl) : List S → Res Fl := fun ρ => match f ρ with
  | .ok .nx ρ1 => g ρ1
  | r => r
def sExpr (f : List S → Res E) : List S → Res Fl := fun ρ => (f ρ).bind fun _ ρ1 => .ok .nx ρ1
def sRet (f : List S → Res E) : List S → Res Fl := fun ρ => (f ρ).bind fun v ρ1 => .ok (.rt v) ρ1
def sRetN : List S → Res Fl := fun ρ => .ok (.rt (.d .non)) ρ
def sIf (c : List S → Res Bool) (f g : List S → Res Fl) : List S → Res Fl := fun ρ => (c ρ).bind fun b ρ1 => if b = true then f ρ1 else g ρ1
def sBk : List S → Res Fl := fun ρ => .ok .bk ρ
def sCt : List S → Res Fl := fun ρ => .ok .ct ρ
def sNo : List S → Res Fl := fun _ => .no
/-- names = values -/
def sSet (is : List Nat) (f : List S → Res (List E)) : List S → Res Fl := fun ρ => (f ρ).bind fun vs ρ1 => match toSL vs ρ1 with
  | some (ss, ρ2) => if is.length = ss.length ∧ is.all (fun i => decide (i < ρ2.length)) = true then .ok .nx (setL ρ2 is ss) else .no
  | none => .no
def sSet1 (i : Nat) (f : List S → Res E) : List S → Res Fl := sSet [i] (aCons f aNil)
/-- a, b, .. = a value -/
def sTg (t : Tg) (f : List S → Res E) : List S → Res Fl := fun ρ => (f ρ).bind fun v ρ1 => match keep1 v ρ1 with
  | some (x, ρ2) => match tset t x ρ2 with
    | some ρ3 => .ok .nx ρ3
    | none => .no
  | none => .no
section
variable {X : Cx} {W : WX'} {P : List Nat} {st : Stmt} {rest a b : List Stmt} {e ce : Expr} {f g : List S → Res Fl} {fe : List S → Res E} {c : List S → Res Bool} {pos pos' : Pos}
theorem s_nil : PSsa X W P [] sNx := pss_imp pss_nil fun D σ H ⟨G, ρ, r, h⟩ => h σ H G (.refl r) .refl
theorem s_cons (h1 : PSa X W P st f) (h2 : PSsa X W P rest g) : PSsa X W P (st :: rest) (sSeq f g) :=
  pss_imp (pss_cons h1 h2) fun D σ H ⟨G, ρ, r, h⟩ => by
    refine ⟨G, ρ, r, ?_⟩
    unfold sSeq at h
    cases ef : f ρ with
    | no => rw [ef] at h; exact h
    | ex x ρ' => rw [ef] at h; exact h
    | ok fl ρ1 =>
      rw [ef] at h
      cases fl with
      | nx => exact fun σ' H' G' p k => ⟨G', ρ1, p.rel, aftS_go p k h⟩
      | bk => exact h
      | ct => exact h
      | rt v => exact h
theorem s_one (h1 : PSa X W P st f) : PSsa X W P [st] f := pss_one h1
theorem s_expr (he : PEa X W e fe) (hs : swapsWith e none pos.line X.env = pure false := by rfl) : PSa X W P (.Expr e pos) (sExpr fe) :=
  ps_imp (ps_expr he hs) fun D σ H ⟨G, ρ, r, h⟩ => lift_mono (lift_first r (AftS.cl (P := P) (D := D)) h) fun u H1 ⟨v, ρ1, G1, Pd, h1⟩ => h1 σ H1 G1 Pd.post .refl
theorem s_doc {x j} : PSa X W P (.Expr (.Constant (.str x) j pos) pos') sNx := ps_imp ps_doc fun D σ H ⟨G, ρ, r, h⟩ => h σ H G (.refl r) .refl
theorem s_pass : PSa X W P (.Pass pos) sNx := ps_imp ps_pass fun D σ H ⟨G, ρ, r, h⟩ => h σ H G (.refl r) .refl
theorem s_bk : PSa X W P (.Break pos) sBk := ps_imp ps_break fun D σ H ⟨G, ρ, r, h⟩ => h σ H G (.refl r) .refl
theorem s_ct : PSa X W P (.Continue pos) sCt := ps_imp ps_continue fun D σ H ⟨G, ρ, r, h⟩ => h σ H G (.refl r) .refl
theorem s_no : PSa X W P st sNo := ps_imp ps_never fun D σ H ⟨G, ρ, r, h⟩ => h
theorem s_ret (he : PEa X W e fe) : PSa X W P (.Return (some e) pos) (sRet fe) :=
  ps_imp (ps_ret he) fun D σ H ⟨G, ρ, r, h⟩ => lift_mono (lift_first r (AftS.cl (P := P) (D := D)) h) fun u H1 ⟨v, ρ1, G1, Pd, h1⟩ => by
    obtain ⟨w, ew, re⟩ := Pd.re 0 v rfl
    cases ew
    refine h1 u σ H1 G1 Pd.post .refl re ?_
    cases v with
    | d x => trivial
    | sl i => trivial
    | fr o => exact fun a ea => Pd.new 0 o a rfl (by rw [ea]; rfl)
theorem s_retN : PSa X W P (.Return none pos) sRetN := ps_imp ps_retN fun D σ H ⟨G, ρ, r, h⟩ => h .non σ H G (.refl r) .refl (fz_non (B := X.bk) (G := G)) trivial
theorem s_if (hc : PTa X W ce c) (ha : PSsa X W P a f) (hb : PSsa X W P b g) : PSa X W P (.If ce a b pos) (sIf c f g) :=
  ps_imp (ps_if hc ha hb) fun D σ H ⟨G, ρ, r, h⟩ => liftT_mono (liftT_next (Pend.nil r) (AftS.cl (P := P) (D := D)) h) fun b H1 ⟨ρ1, G1, p, h1⟩ => by
    cases b with
    | true => rw [if_pos rfl] at h1 ⊢; exact ⟨G1, ρ1, p.rel, aftS_go p .refl h1⟩
    | false => rw [if_neg Bool.false_ne_true] at h1 ⊢; exact ⟨G1, ρ1, p.rel, aftS_go p .refl h1⟩
/-! ### names are set -/
theorem setL_off {α : Type} : ∀ {is : List Nat} {xs l : List α} {j : Nat}, j ∉ is → (setL l is xs)[j]? = l[j]?
  | [], _, _, _, _ => by simp [setL]
  | _ :: _, [], _, _, _ => by simp [setL]
  | i :: is, x :: xs, l, j, h => by
    rw [setL, setL_off (fun z => h (List.mem_cons_of_mem _ z)), List.getElem?_set_ne (fun z => h (by rw [z]; exact List.mem_cons_self))]
theorem set_end {B : Bk} {is : List Nat} {D : Ends} {σ : St} {ρ ρ1 ρ2 : List S} {H G H1 G1 : Hp} {us : List V} {vs : List E} {ss : List S} (hP : ∀ i ∈ is, i ∉ P) (Pd : Pend B σ ρ H G ρ1 H1 G1 us vs) (et : toSL vs ρ1 = some (ss, ρ2)) (hl : is.length = ss.length) (hi : is.all (fun i => decide (i < ρ2.length)) = true)
    (h : AftS B W P σ ρ H G D (.ok .nx (setL ρ2 is ss))) : us.length = is.length ∧ D.nx (setL σ is (us.map some)) H1 := by
  obtain ⟨G2, p2, w2, _⟩ := Pend.toSL Pd et
  refine ⟨by rw [w2.len, hl], h _ H1 G2 (Wait.setL p2 w2 hl fun i hi' => of_decide_eq_true (List.all_eq_true.mp hi i hi')) fun j hj => ?_⟩
  rw [setL_off fun z => hP j z hj]
theorem s_set {i : Nat} {x : Str} (hN : X.N.Nodup) (hi : X.N[i]? = some x) (he : PEa X W e fe) (hP : i ∉ P := by decide) (hx : Loc X.env.scope x := by first | exact Or.inl rfl | exact Or.inr rfl) (hs : swapsWith e (some (.Name x pos')) pos.line X.env = pure false := by rfl) (hf : X.fn x = true ∨ X.env.scope.names.lookup x = some .local := by first | exact .inl rfl | exact .inr rfl | assumption) :
    PSa X W P (.Assign [.Name x pos'] e pos) (sSet1 i fe) :=
  ps_imp (ps_set hN hi hx he hs hf) fun D σ H ⟨G, ρ, r, h⟩ => by
    unfold sSet1 sSet aCons at h
    cases ef : fe ρ with
    | no => rw [ef] at h; exact h.elim
    | ex x ρ' => rw [ef] at h; exact ⟨G, ρ, r, by rw [ef]; exact AftS.cl.ex _ _ h⟩
    | ok v ρ1 =>
      rw [ef] at h
      have h : AftS X.bk W P σ ρ H G D (match toSL [v] ρ1 with
        | some (ss, ρ2) => if [i].length = ss.length ∧ [i].all (fun i => decide (i < ρ2.length)) = true then .ok .nx (setL ρ2 [i] ss) else .no
        | none => .no) := h
      refine ⟨G, ρ, r, ?_⟩
      rw [ef]
      intro u H1 G1 p re fr
      split at h
      · rename_i ss ρ2 et
        split at h
        · rename_i hl
          have z := (set_end (is := [i]) (us := [u]) (fun j hj => by simp at hj; subst hj; exact hP) (Pend.one p r re fr) et hl.1 hl.2 h).2
          exact z
        · exact h.elim
      · exact h.elim
def sTup2 (i j : Nat) (fs : List S → Res (List E)) := sSet [i, j] fs
theorem s_par2 {i j : Nat} {x y : Str} {a b : Expr} {fs : List S → Res (List E)} {px py pt : Pos} {kt k2 pt2} (hc : X.calm = true) (hN : X.N.Nodup) (hi : X.N[i]? = some x) (hj : X.N[j]? = some y) (ha : PAa X W [a, b] fs)
    (hw : swappedStores [.Tuple [.Name x px, .Name y py] kt pt] (.Tuple [a, b] k2 pt2) X.env = pure (some [x, y])) (hij : i ≠ j := by decide) (hP : ∀ k ∈ [i, j], k ∉ P := by decide)
    (hx : X.env.scope.names.lookup x = some .local := by rfl) (hy : X.env.scope.names.lookup y = some .local := by rfl)
    (hs : swapsWithSole [.Tuple [.Name x px, .Name y py] kt pt] (.Tuple [a, b] k2 pt2) pos.line X.env = pure false := by rfl) :
    PSa X W P (.Assign [.Tuple [.Name x px, .Name y py] kt pt] (.Tuple [a, b] k2 pt2) pos) (sSet [i, j] fs) :=
  ps_imp (ps_par hc hN hi hj hij hx hy ha hw hs) fun D σ H ⟨G, ρ, r, h⟩ => by
    refine liftA_mono (liftA_first r (AftS.cl (P := P) (D := D)) h) fun us H1 ⟨vs, ρ1, G1, Pd, h1⟩ => ?_
    split at h1
    · rename_i ss ρ2 et
      split at h1
      · rename_i hl
        obtain ⟨z1, z2⟩ := set_end hP Pd et hl.1 hl.2 h1
        match us, z1, z2 with
        | [u, w], _, z2 => exact ⟨u, w, rfl, z2⟩
      · exact h1.elim
    · exact h1.elim
theorem s_par3 {i j l : Nat} {x y z : Str} {a b c : Expr} {fs : List S → Res (List E)} {px py pz pt : Pos} {kt k2 pt2} (hc : X.calm = true) (hN : X.N.Nodup) (hi : X.N[i]? = some x) (hj : X.N[j]? = some y) (hl : X.N[l]? = some z) (ha : PAa X W [a, b, c] fs)
    (hw : swappedStores [.Tuple [.Name x px, .Name y py, .Name z pz] kt pt] (.Tuple [a, b, c] k2 pt2) X.env = pure (some [x, y, z])) (hij : i ≠ j := by decide) (hil : i ≠ l := by decide) (hjl : j ≠ l := by decide) (hP : ∀ k ∈ [i, j, l], k ∉ P := by decide)
    (hx : X.env.scope.names.lookup x = some .local := by rfl) (hy : X.env.scope.names.lookup y = some .local := by rfl) (hz : X.env.scope.names.lookup z = some .local := by rfl)
    (hs : swapsWithSole [.Tuple [.Name x px, .Name y py, .Name z pz] kt pt] (.Tuple [a, b, c] k2 pt2) pos.line X.env = pure false := by rfl) :
    PSa X W P (.Assign [.Tuple [.Name x px, .Name y py, .Name z pz] kt pt] (.Tuple [a, b, c] k2 pt2) pos) (sSet [i, j, l] fs) :=
  ps_imp (ps_par3 hc hN hi hj hl hij hil hjl hx hy hz ha hw hs) fun D σ H ⟨G, ρ, r, h⟩ => by
    refine liftA_mono (liftA_first r (AftS.cl (P := P) (D := D)) h) fun us H1 ⟨vs, ρ1, G1, Pd, h1⟩ => ?_
    split at h1
    · rename_i ss ρ2 et
      split at h1
      · rename_i hl
        obtain ⟨z1, z2⟩ := set_end hP Pd et hl.1 hl.2 h1
        match us, z1, z2 with
        | [u, w, v], _, z2 => exact ⟨u, w, v, rfl, z2⟩
      · exact h1.elim
    · exact h1.elim
/-- four names and more: by a tuple -/
def gNms : List Nat → TGs
  | [] => gNil
  | i :: is => gCons (gName i) (gNms is)
theorem gNms_of : ∀ {is : List Nat} {us : List V} {σ : St} {H : Hp} {Q : St → Hp → Prop}, us.length = is.length → Q (setL σ is (us.map some)) H → gNms is us σ H Q
  | [], [], σ, H, Q, _, q => ⟨rfl, by simpa [setL] using q⟩
  | i :: is, u :: us, σ, H, Q, hl, q => ⟨u, us, rfl, gNms_of (by simpa using hl) (by simpa [setL] using q)⟩
theorem s_parN {is : List Nat} {tgs es : List Expr} {fs : List S → Res (List E)} {pt : Pos} {kt k2 pt2} (hc : X.calm = true) (hg : PGs X tgs (gNms is)) (ha : PAa X W es fs) (hP : ∀ k ∈ is, k ∉ P) (hn : (assignEach tgs X.env).length = is.length := by rfl) (hz : is.length ≤ 1000 := by decide)
    (hst : (assignEach tgs X.env).findIdx? (·.1) = none := by rfl) (hs : swapsWithSole [.Tuple tgs kt pt] (.Tuple es k2 pt2) pos.line X.env = pure false := by rfl) (hw : swappedStores [.Tuple tgs kt pt] (.Tuple es k2 pt2) X.env = pure none := by rfl)
    (h1 : (assignEach [.Tuple tgs kt pt] X.env).map (·.2) = [assign (.Tuple tgs kt pt) X.env] := by rfl) :
    PSa X W P (.Assign [.Tuple tgs kt pt] (.Tuple es k2 pt2) pos) (sSet is fs) :=
  ps_imp (ps_asg (pe_tup ha) (pg_tup hc hg hn hst) hs hw h1) fun D σ H ⟨G, ρ, r, h⟩ => by
    refine liftA_mono (liftA_first r (AftS.cl (P := P) (D := D)) h) fun us H1 ⟨vs, ρ1, G1, Pd, h1⟩ => ?_
    split at h1
    · rename_i ss ρ2 et
      split at h1
      · rename_i hl
        have hlen : us.length = is.length := by
          obtain ⟨_, _, w2, _⟩ := Pend.toSL Pd et
          rw [w2.len, hl.1]
        refine ⟨by rw [hlen]; exact Nat.le_trans hz (by rw [sizeLine_eq]; decide), fun q hq => ⟨q, us, rfl, SqT.of upd_same, hlen, gNms_of hlen ?_⟩⟩
        have ph : Post X.bk σ ρ1 H1 G1 σ ρ1 (upd H1 q (.tup us)) G1 := (Post.refl Pd.post.rel).poke hq (Same.free Pd.post.rel.sub hq) fun j ⟨w1, o, w2⟩ => by
          obtain ⟨v, e1, a, ho, e2, e3, _⟩ := Pd.post.rel.slot j _ w2
          rw [w1] at e1; cases e1; cases e2
          rw [hq] at e3; cases e3
        exact (set_end hP (Pd.step ph) et hl.1 hl.2 h1).2
      · exact h1.elim
    · exact h1.elim
/-- a, b, .. = a value -/
theorem s_tg {tg : Expr} {t : Tg} (he : PEa X W e fe) (hg : PG X tg (gD X.bk t)) (hP : ∀ j, j ∈ t.names → j ∉ P := by decide) (hs : swapsWithSole [tg] e pos.line X.env = pure false := by rfl) (hw : swappedStores [tg] e X.env = pure none := by rfl)
    (h1 : (assignEach [tg] X.env).map (·.2) = [assign tg X.env] := by rfl) : PSa X W P (.Assign [tg] e pos) (sTg t fe) :=
  ps_imp (ps_asg he hg hs hw h1) fun D σ H ⟨G, ρ, r, h⟩ => by
    refine lift_mono (lift_first r (AftS.cl (P := P) (D := D)) h) fun u H1 ⟨v, ρ1, G1, Pd, h1⟩ => ?_
    split at h1
    · rename_i x ρ2 hk
      split at h1
      · rename_i ρ3 et
        obtain ⟨G2, p2, f2, _⟩ := Pend.keep1 Pd hk
        exact ⟨G2, ρ2, x, ρ3, p2.post.rel, f2, et, fun σ' q k => h1 σ' H1 G2 (p2.post.trans q) fun j hj => k j fun z => hP j z hj⟩
      · exact h1.elim
    · exact h1.elim
end
end L2.AL
/-! A11: stores into what a name owns; loops; name = [..]. -/
namespace L2.AL
open PySem PySem.Spec PyProof.Rows
/-! ### o[k] = v -/
def kput (ds : List (Key × D)) (k : Key) (d : D) : List (Key × D) :=
  if (ds.any fun kv => decide (kv.1 = k)) = true then ds.map (fun kv => if kv.1 = k then (kv.1, d) else kv) else ds ++ [(k, d)]
def dput (ds : List (D × D)) (kd : D) (k : NestedKey) (x : D) : List (D × D) := if (dget ds k).isSome = true then ds.map (fun kv => if kv.1.nk? = some k then (kv.1, x) else kv) else ds ++ [(kd, x)]
def putO : O → D → D → Option O
  | .lst xs, .int i, x => (ixN xs.length i).map fun j => .lst (xs.set j x)
  | .dct kvs, k, x => if kvs.length < sizeLine then k.key?.map fun k => .dct (kput kvs k x) else none
  | .dd kvs, k, x => if kvs.length < sizeLine then k.keyN?.map fun n => .dd (dput kvs k n x) else none
  | _, _, _ => none
section
variable {B : Bk} {G : Hp}
theorem FzK.any {k : Key} : ∀ {us : List (Key × V)} {ds : List (Key × D)}, FzK B G us ds → (us.any fun kv => decide (kv.1 = k)) = (ds.any fun kv => decide (kv.1 = k))
  | [], [], _ => rfl
  | [], _ :: _, h => by rw [FzK] at h; exact h.elim
  | _ :: _, [], h => by rw [FzK] at h; exact h.elim
  | u :: us, d :: ds, h => by
    rw [FzK] at h
    rw [List.any_cons, List.any_cons, h.1, FzK.any h.2.2]
theorem FzK.mapK {k : Key} {v : V} {d : D} (f : Fz B G v d) : ∀ {us : List (Key × V)} {ds : List (Key × D)}, FzK B G us ds → FzK B G (us.map fun kv => if kv.1 = k then (kv.1, v) else kv) (ds.map fun kv => if kv.1 = k then (kv.1, d) else kv)
  | [], [], h => h
  | [], _ :: _, h => by rw [FzK] at h; exact h.elim
  | _ :: _, [], h => by rw [FzK] at h; exact h.elim
  | u :: us, d' :: ds, h => by
    rw [FzK] at h
    rw [List.map_cons, List.map_cons, FzK]
    refine ⟨?_, ?_, FzK.mapK f h.2.2⟩
    · by_cases e : u.1 = k
      · rw [if_pos e, if_pos (by rw [← h.1]; exact e)]; exact h.1
      · rw [if_neg e, if_neg (by rw [← h.1]; exact e)]; exact h.1
    · by_cases e : u.1 = k
      · rw [if_pos e, if_pos (by rw [← h.1]; exact e)]; exact f
      · rw [if_neg e, if_neg (by rw [← h.1]; exact e)]; exact h.2.1
theorem FzK.appK : ∀ {us ws : List (Key × V)} {ds es : List (Key × D)}, FzK B G us ds → FzK B G ws es → FzK B G (us ++ ws) (ds ++ es)
  | [], _, [], _, _, h => h
  | [], _, _ :: _, _, h, _ => by rw [FzK] at h; exact h.elim
  | _ :: _, _, [], _, h, _ => by rw [FzK] at h; exact h.elim
  | u :: us, _, d :: ds, _, h, h' => by
    rw [FzK] at h
    show FzK B G (u :: (us ++ _)) (d :: (ds ++ _))
    rw [FzK]
    exact ⟨h.1, h.2.1, FzK.appK h.2.2 h'⟩
theorem FzK.put {k : Key} {v : V} {d : D} {us : List (Key × V)} {ds : List (Key × D)} (f : Fz B G v d) (h : FzK B G us ds) : FzK B G (putK us k v) (kput ds k d) := by
  unfold putK kput
  rw [FzK.any h]
  split
  · exact FzK.mapK f h
  · refine FzK.appK h ?_
    rw [FzK]
    exact ⟨rfl, f, by rw [FzK]; trivial⟩
end
theorem keyN_nk {x : D} {k : NestedKey} (e : x.keyN? = some k) : x.nk? = some k ∧ k.depth ≤ 8 := by
  cases x <;> simp only [D.keyN?, reduceCtorEq] at e
  obtain ⟨ks, e1, e2⟩ := Option.bind_eq_some_iff.mp e
  split at e2
  · rename_i hd
    cases e2
    exact ⟨by rw [D.nk?, e1]; rfl, hd⟩
  · cases e2
theorem keyN_fz {B : Bk} {G H : Hp} {x : D} {u : V} {k : NestedKey} (h : Tz B G H u x) (e : x.keyN? = some k) : Fz B G u x := by
  cases x <;> first | exact h | (simp only [D.keyN?, reduceCtorEq] at e)
theorem FzD.mapD {B : Bk} {G : Hp} {k : NestedKey} {v : V} {d : D} (f : Fz B G v d) : ∀ {es : EnL} {ds : List (D × D)}, FzD B G es ds → FzD B G (es.map fun e => if e.1 = k then (e.1, e.2.1, v) else e) (ds.map fun kv => if kv.1.nk? = some k then (kv.1, d) else kv)
  | [], [], h => h
  | [], _ :: _, h => by rw [FzD] at h; exact h.elim
  | _ :: _, [], h => by rw [FzD] at h; exact h.elim
  | e :: es, d' :: ds, h => by
    rw [FzD] at h
    rw [List.map_cons, List.map_cons]
    by_cases hk : e.1 = k
    · rw [if_pos hk, if_pos (by rw [h.1.1, hk]), FzD]
      exact ⟨h.1, h.2.1, f, FzD.mapD f h.2.2.2⟩
    · rw [if_neg hk, if_neg (by rw [h.1.1]; intro z; exact hk (Option.some.inj z)), FzD]
      exact ⟨h.1, h.2.1, h.2.2.1, FzD.mapD f h.2.2.2⟩
theorem FzD.app {B : Bk} {G : Hp} : ∀ {es es' : EnL} {ds ds' : List (D × D)}, FzD B G es ds → FzD B G es' ds' → FzD B G (es ++ es') (ds ++ ds')
  | [], _, [], _, _, h => h
  | [], _, _ :: _, _, h, _ => by rw [FzD] at h; exact h.elim
  | _ :: _, _, [], _, h, _ => by rw [FzD] at h; exact h.elim
  | e :: es, _, d :: ds, _, h, h' => by
    rw [FzD] at h
    show FzD B G (e :: (es ++ _)) (d :: (ds ++ _))
    rw [FzD]
    exact ⟨h.1, h.2.1, h.2.2.1, FzD.app h.2.2.2 h'⟩
theorem FzD.put {B : Bk} {G : Hp} {kd d : D} {k : NestedKey} {b : Addr} {v : V} {es : EnL} {ds : List (D × D)} (h : FzD B G es ds) (hk : kd.nk? = some k) (hd : k.depth ≤ 8) (fk : Fz B G (.ref b) kd) (f : Fz B G v d) : FzD B G (enPut es k b v) (dput ds kd k d) := by
  unfold enPut dput
  rw [dget_isSome h]
  split
  · exact FzD.mapD f h
  · refine FzD.app h ?_
    rw [FzD]
    exact ⟨⟨hk, hd⟩, fk, f, by rw [FzD]; trivial⟩
def sPut (i : Nat) (fk fv : List S → Res E) : List S → Res Fl := fun ρ => (fv ρ).bind fun v ρ1 => match ρ1[i]? with
  | some (.own _) => (fk ρ1).bind fun k ρ2 => match keep1 v ρ2 with
    | some (x, ρ3) => match k.val ρ3, ρ3[i]? with
      | some kd, some (.own o) => match putO o kd x with
        | some o' => .ok .nx (ρ3.set i (.own o'))
        | none => .no
      | _, _ => .no
    | none => .no
  | _ => .no
theorem pset_or {X : Cx} {t t' : TSet} (h : PSet X t) (h' : PSet X t') : PSet X (fun o i v H Q => t o i v H Q ∨ t' o i v H Q) :=
  fun pins s σ H o i v ov iv u Q I r1 r2 r3 q => q.elim (h pins s σ H o i v ov iv u Q I r1 r2 r3) (h' pins s σ H o i v ov iv u Q I r1 r2 r3)
section
variable {X : Cx} {W : WX'} {P : List Nat} {e ke : Expr} {fv fk : List S → Res E} {pos tpos npos : Pos} {x : Str} {i : Nat}
theorem s_put (hu : X.A.units + 64 < cLine) (hN : X.N[i]? = some x) (hk : PEa X W ke fk) (hv : PEa X W e fv) (hvis : Vis X.env.scope x := by first | exact Or.inl rfl | exact Or.inr (Or.inl rfl) | exact Or.inr (Or.inr rfl))
    (hd : (x == ("__debug__" : Str)) = false := by decide) (hcd : (x == ("__classdict__" : Str)) = false := by decide)
    (ha : ∀ v, assign (.Subscript (.Name x npos) ke tpos) X.env v = (do
      let ov ← holding [v] (eval (.Name x npos) X.env)
      let iv ← holding [v, ov] (eval ke X.env)
      standAt tpos
      holding [v, ov, iv] (setItem ov iv v)
      release [v, ov, iv] []) := by intro _; rfl)
    (hs : swapsWithSole [.Subscript (.Name x npos) ke tpos] e pos.line X.env = pure false := by rfl) (hw : swappedStores [.Subscript (.Name x npos) ke tpos] e X.env = pure none := by rfl)
    (h1 : (assignEach [.Subscript (.Name x npos) ke tpos] X.env).map (·.2) = [assign (.Subscript (.Name x npos) ke tpos) X.env] := by rfl) :
    PSa X W P (.Assign [.Subscript (.Name x npos) ke tpos] e pos) (sPut i fk fv) :=
  ps_imp (ps_asg hv (pg_sub (a_var (W := W) i hN hvis hd hcd) hk (pset_or (pset_or set_list (set_dict (by omega))) (set_N hu)) ha) hs hw h1) fun D σ H ⟨G, ρ, r, h⟩ => by
    refine lift_mono (lift_first r (AftS.cl (P := P) (D := D)) h) fun u H1 ⟨v, ρ1, G1, P1, h1⟩ => ?_
    split at h1
    · rename_i o0 ho0
      refine ⟨G1, ρ1, P1.post.rel, ?_⟩
      unfold aVar
      rw [ho0]
      intro ov H2 G2 p2 re2 fr2
      have P2 := P1.snoc p2 re2 trivial
      refine lift_mono (lift_next P2 (AftS.cl (P := P) (D := D)) h1) fun kv H3 ⟨k, ρ2, G3, P3, h3⟩ => ?_
      split at h3
      · rename_i xd ρ3 hk1
        split at h3
        · rename_i kd o hkd ho
          split at h3
          · rename_i o' hput
            obtain ⟨G4, P4, f4, s4⟩ := Pend.keep1 (us := [ov, kv]) (vs := [.sl i, k]) P3 hk1
            obtain ⟨w1, e1, r1⟩ := P4.re 0 _ rfl
            obtain ⟨w2, e2, r2⟩ := P4.re 1 _ rfl
            cases e1
            cases e2
            have r1 : σ[i]? = some (some ov) := r1
            obtain ⟨z, e1, a, hob, e2, e3, e4, e5⟩ := P4.post.rel.slot i _ ho
            rw [r1] at e1; cases e1; cases e2
            have tk := P4.post.rel.val r2 hkd
            have fin : ∀ ho', RO X.bk G4 a ho' o' → D.nx σ (upd H3 a ho') := fun ho' ro => h3 σ _ G4 (mut_post P4.post r1 ho ro) .refl
            cases o with
            | lst ds =>
              cases kd <;> simp only [putO, reduceCtorEq] at hput
              obtain ⟨j, e6, rfl⟩ := Option.map_eq_some_iff.mp hput
              obtain ⟨us, rfl, f5⟩ := e5
              exact .inl (.inl ⟨a, us, _, j, rfl, tz_int tk, e3, by rw [f5.length]; exact e6, fin _ ⟨_, rfl, FzL.set f4 j f5⟩⟩)
            | dd ds =>
              simp only [putO] at hput
              split at hput
              · rename_i hz
                obtain ⟨key, e6, rfl⟩ := Option.map_eq_some_iff.mp hput
                obtain ⟨ob, es, rfl, f5⟩ := e5
                have ka := keyN_tz P4.post.rel.sub tk e6
                obtain ⟨n1, n2⟩ := keyN_nk e6
                have fk : Fz X.bk G4 kv kd := keyN_fz tk e6
                obtain ⟨b, rfl, ka2⟩ := ka
                exact .inr ⟨a, es, key, b, rfl, rfl, ⟨ob, e3, fzd_k P4.post.rel.sub f5⟩, ⟨b, rfl, ka2⟩, by rw [f5.length]; exact hz, fun ob' => fin _ ⟨ob', _, rfl, f5.put n1 n2 fk f4⟩⟩
              · cases hput
            | ins c ds => simp only [putO, reduceCtorEq] at hput
            | dct ds =>
              simp only [putO] at hput
              split at hput
              · rename_i hz
                obtain ⟨key, e6, rfl⟩ := Option.map_eq_some_iff.mp hput
                obtain ⟨us, rfl, f5⟩ := e5
                refine .inl (.inr ⟨a, _, rfl, ?_, fin _ ⟨_, rfl, FzK.put (k := key) f4 f5⟩⟩)
                rw [key_v (tk.fz P4.post.rel.sub) e6]
                exact DPut.k e3 (by rw [f5.length]; exact hz)
              · cases hput
          · exact h3.elim
        · exact h3.elim
      · exact h3.elim
    · exact h1.elim
end
/-! ### for -/
def forGo (t : Tg) (body : List S → Res Fl) : List D → List S → Res Fl
  | [], ρ => .ok .nx ρ
  | x :: xs, ρ => match tset t x ρ with
    | none => .no
    | some ρ1 => match body ρ1 with
      | .ok .nx ρ2 => forGo t body xs ρ2
      | .ok .ct ρ2 => forGo t body xs ρ2
      | .ok .bk ρ2 => .ok .nx ρ2
      | r => r
def sFor (it : List S → Res (List D)) (t : Tg) (body : List S → Res Fl) : List S → Res Fl := fun ρ => (it ρ).bind fun xs ρ1 => forGo t body xs ρ1
section
variable {X : Cx} {W : WX'} {P : List Nat} {tg iter : Expr} {body : List Stmt} {it : List S → Res (List D)} {t : Tg} {fb : List S → Res Fl} {pos : Pos}
theorem s_for (hp : PassesOwn (model X.prog X.w) X.A X.env X.xe) (hc : X.calm = true) (hi : PIa X W tg iter it) (hg : PG X tg (gD X.bk t)) (hb : PSsa X W P body fb) (hP : ∀ j, j ∈ t.names → j ∉ P)
    (hs : ∀ x, foldedSetIterable iter X.env x = pure x := by intro _; rfl) : PSa X W P (.For tg iter body [] pos) (sFor it t fb) :=
  ps_imp (ps_for hp hc hi hg hb hs) fun D σ H ⟨G, ρ, r, h⟩ => by
    refine ⟨G, ρ, r, ?_⟩
    unfold sFor at h
    cases ei : it ρ with
    | no => rw [ei] at h; exact h
    | ex e ρ' => rw [ei] at h; exact AftS.cl.ex _ _ h
    | ok xs ρ1 =>
      rw [ei, Res.bind_ok] at h
      intro J H1 G1 p1 wk
      have h' : AftS X.bk W P σ ρ1 H1 G1 D (forGo t fb xs ρ1) := aftS_go p1 .refl h
      refine ⟨fun i m σi Hi => m = xs.length - i ∧ i ≤ xs.length ∧ ∃ ρi Gi, Post X.bk σ ρ1 H1 G1 σi ρi Hi Gi ∧ Keeps P σ σi ∧ AftS X.bk W P σ ρ1 H1 G1 D (forGo t fb (xs.drop i) ρi), ⟨xs.length, by simp, Nat.zero_le _, ρ1, G1, .refl p1.rel, .refl, by simpa using h'⟩, ?_⟩
      rintro i m σi Hi ⟨rfl, hi, ρi, Gi, Q, K, hgo⟩
      by_cases hlt : i < xs.length
      · refine .inr ⟨wk.go i Hi Gi hlt Q.grow Q.rel.sub, fun σ' H' => ∃ ρi Gi, Post X.bk σ ρ1 H1 G1 σ' ρi H' Gi ∧ Keeps P σ σ' ∧ AftS X.bk W P σ ρ1 H1 G1 D (forGo t fb (xs.drop (i + 1)) ρi),
          fun σ' H' q => ⟨xs.length - (i + 1), by omega, rfl, hlt, q⟩, fun v H' y => ?_⟩
        obtain ⟨x, G2, ex, nw⟩ := wk.yld i Hi Gi v H' hlt Q.grow Q.rel.sub y
        obtain ⟨q1, re, _⟩ := nw.post (Post.refl Q.rel)
        have re : Fz X.bk G2 v x := re
        have hdr : xs.drop i = x :: xs.drop (i + 1) := by
          rw [List.drop_eq_getElem_cons hlt]
          have : xs[i] = x := by rw [List.getElem?_eq_getElem hlt] at ex; exact Option.some.inj ex
          rw [this]
        rw [hdr, forGo] at hgo
        split at hgo
        · exact hgo.elim
        · rename_i ρa ea
          refine ⟨G2, ρi, x, ρa, q1.rel, re, ea, fun σ2 p2 k2 => ?_⟩
          have kk : Keeps P σi σ2 := fun j hj => k2 j fun z => hP j z hj
          have P2 := (Q.trans q1).trans p2
          refine ⟨G2, ρa, p2.rel, ?_⟩
          cases eb : fb ρa with
          | no => rw [eb] at hgo; exact hgo
          | ex e ρ' => rw [eb] at hgo; exact aftS_go P2 (K.trans kk) hgo
          | ok fl ρb =>
            rw [eb] at hgo
            cases fl with
            | nx => exact fun σ' H3 G3 p3 k3 => ⟨ρb, G3, P2.trans p3, (K.trans kk).trans k3, hgo⟩
            | ct => exact fun σ' H3 G3 p3 k3 => ⟨ρb, G3, P2.trans p3, (K.trans kk).trans k3, hgo⟩
            | bk => exact fun σ' H3 G3 p3 k3 => hgo σ' H3 G3 (P2.trans p3) ((K.trans kk).trans k3)
            | rt w => exact aftS_go P2 (K.trans kk) hgo
      · have e : i = xs.length := by omega
        subst e
        refine .inl ⟨wk.stop Hi Gi Q.grow Q.rel.sub, ?_⟩
        rw [List.drop_length, forGo] at hgo
        exact hgo σi Hi Gi Q K
end
/-! ### name = [..] -/
section
variable {X : Cx} {W : WX'} {P : List Nat} {tg iter elt : Expr} {ifs : List Expr} {scope : Scope} {own : List (Str × Nat)} {pos spos py : Pos} {it : List S → Res (List D)} {t : Tg} {c : List S → Res Bool} {f : List S → Res E} {vs : List Nat} {y : Str} {i : Nat}
theorem s_setLc (hc : X.calm = true) (hN : X.N.Nodup) (hy : X.N[i]? = some y) (hsw : swapsWith (.ListComp elt [⟨tg, iter, ifs, 0⟩] scope pos) (some (.Name y py)) spos.line X.env = pure true) (ok : BlkOk X.N X.env.scope scope own) (hv : own.map (·.2) = vs) (ht : ∀ j, j ∈ t.names → j ∈ vs) (hi : PIa X W tg iter it)
    (hg : ∀ (s : Shared) (H : Hp) (C : Addr) (cl : List (Str × Addr)) (fp : List Addr), PG (X.blk s H scope (compEnvC scope cl C X.env) fp) tg (gD X.bk t))
    (hc' : ∀ (s : Shared) (H : Hp) (C : Addr) (cl : List (Str × Addr)) (fp : List Addr), PTs (X.blk s H scope (compEnvC scope cl C X.env) fp) ifs (liftT X.bk WF c))
    (he : ∀ (s : Shared) (H : Hp) (C : Addr) (cl : List (Str × Addr)) (fp : List Addr), PE (X.blk s H scope (compEnvC scope cl C X.env) fp) elt (lift X.bk WF f)) (hP : i ∉ P := by decide) (hyl : X.env.scope.names.lookup y = some .local := by rfl) (hs : ∀ x, foldedSetIterable iter X.env x = pure x := by intro _; rfl) :
    PSa X W P (.Assign [.Name y py] (.ListComp elt [⟨tg, iter, ifs, 0⟩] scope pos) spos) (sSet1 i (aLc vs it t c f)) := by
  subst hv
  refine ps_imp (ps_setLc hc hN hy hyl hsw hi ok hg hc' he hs) fun D σ H ⟨G, ρ, r, h⟩ => ?_
  refine lc_imp (W := W) ht σ H _ ?_
  unfold sSet1 sSet aCons at h
  cases ef : aLc (own.map (·.2)) it t c f ρ with
  | no => rw [ef] at h; exact h.elim
  | ex x ρ' => rw [ef] at h; exact ⟨G, ρ, r, by rw [ef]; exact AftS.cl.ex _ _ h⟩
  | ok v ρ1 =>
    rw [ef] at h
    have h : AftS X.bk W P σ ρ H G D (match toSL [v] ρ1 with
      | some (ss, ρ2) => if [i].length = ss.length ∧ [i].all (fun i => decide (i < ρ2.length)) = true then .ok .nx (setL ρ2 [i] ss) else .no
      | none => .no) := h
    refine ⟨G, ρ, r, ?_⟩
    rw [ef]
    intro u H1 G1 p re fr
    split at h
    · rename_i ss ρ2 et
      split at h
      · rename_i hl
        exact (set_end (is := [i]) (us := [u]) (fun j hj => by simp at hj; subst hj; exact hP) (Pend.one p r re fr) et hl.1 hl.2 h).2
      · exact h.elim
    · exact h.elim
end
end L2.AL
/-! A12: defs by content, and their calls. -/
namespace L2.AL
open PySem PySem.Spec PyProof.Rows
/-! ### a call's arguments as slots -/
def argS (ρ : List S) : List E → Option (List S)
  | [] => some []
  | v :: vs => match (match v with
      | .d x => some (S.d x)
      | .fr o => some (S.own o)
      | .sl i => match ρ[i]? with
        | some (.d x) => some (.d x)
        | some (.own o) => some (.own o)
        | _ => none), argS ρ vs with
    | some s, some ss => some (s :: ss)
    | _, _ => none
def slIx : List E → List Nat
  | [] => []
  | .sl i :: vs => i :: slIx vs
  | _ :: vs => slIx vs
def wb : List E → List S → List S → List S
  | [], _, ρ => ρ
  | v :: vs, ss, ρ => match ss with
    | [] => ρ
    | s :: ss => match v with
      | .sl i => wb vs ss (ρ.set i s)
      | _ => wb vs ss ρ
theorem wb_sl {i : Nat} {vs : List E} {s : S} {ss ρ : List S} : wb (.sl i :: vs) (s :: ss) ρ = wb vs ss (ρ.set i s) := rfl
theorem wb_d {x : D} {vs : List E} {s : S} {ss ρ : List S} : wb (.d x :: vs) (s :: ss) ρ = wb vs ss ρ := rfl
theorem wb_fr {x : O} {vs : List E} {s : S} {ss ρ : List S} : wb (.fr x :: vs) (s :: ss) ρ = wb vs ss ρ := rfl
theorem wb_length : ∀ {vs : List E} {ss ρ : List S}, (wb vs ss ρ).length = ρ.length
  | [], _, _ => rfl
  | _ :: _, [], _ => rfl
  | .sl i :: vs, s :: ss, ρ => by rw [wb_sl, wb_length, List.length_set]
  | .d x :: vs, s :: ss, ρ => by rw [wb_d, wb_length]
  | .fr o :: vs, s :: ss, ρ => by rw [wb_fr, wb_length]
theorem mem_slIx : ∀ {vs : List E} {k i : Nat}, vs[k]? = some (.sl i) → i ∈ slIx vs
  | [], _, _, e => by simp at e
  | v :: vs, 0, i, e => by simp at e; subst e; exact List.mem_cons_self
  | v :: vs, k + 1, i, e => by
    have := mem_slIx (k := k) (by simpa using e)
    cases v with
    | sl j => exact List.mem_cons_of_mem _ this
    | d x => exact this
    | fr o => exact this
theorem wb_off : ∀ {vs : List E} {ss ρ : List S} {i : Nat}, i ∉ slIx vs → (wb vs ss ρ)[i]? = ρ[i]?
  | [], _, _, _, _ => rfl
  | _ :: _, [], _, _, _ => rfl
  | .sl j :: vs, s :: ss, ρ, i, h => by
    simp only [slIx, List.mem_cons, not_or] at h
    rw [wb_sl, wb_off h.2, List.getElem?_set_ne (Ne.symm h.1)]
  | .d x :: vs, s :: ss, ρ, i, h => by rw [wb_d]; exact wb_off h
  | .fr o :: vs, s :: ss, ρ, i, h => by rw [wb_fr]; exact wb_off h
theorem wb_at : ∀ {vs : List E} {ss ρ : List S} {k i : Nat} {s : S}, (slIx vs).Nodup → vs[k]? = some (.sl i) → ss[k]? = some s → i < ρ.length → (wb vs ss ρ)[i]? = some s
  | [], _, _, _, _, _, _, e, _, _ => by simp at e
  | _ :: _, [], _, _, _, _, _, _, e, _ => by simp at e
  | v :: vs, t :: ss, ρ, 0, i, s, nd, e1, e2, hi => by
    simp at e1 e2
    subst e1 e2
    simp only [slIx, List.nodup_cons] at nd
    rw [wb_sl, wb_off nd.1, List.getElem?_set_self hi]
  | .sl j :: vs, t :: ss, ρ, k + 1, i, s, nd, e1, e2, hi => by
    simp only [slIx, List.nodup_cons] at nd
    rw [wb_sl]
    exact wb_at (ρ := ρ.set j t) (k := k) nd.2 (by simpa using e1) (by simpa using e2) (by rw [List.length_set]; exact hi)
  | .d x :: vs, t :: ss, ρ, k + 1, i, s, nd, e1, e2, hi => by
    rw [wb_d]; exact wb_at (k := k) nd (by simpa using e1) (by simpa using e2) hi
  | .fr o :: vs, t :: ss, ρ, k + 1, i, s, nd, e1, e2, hi => by
    rw [wb_fr]; exact wb_at (k := k) nd (by simpa using e1) (by simpa using e2) hi
theorem of_slIx : ∀ {vs : List E} {i : Nat}, i ∈ slIx vs → ∃ k : Nat, vs[k]? = some (E.sl i)
  | [], i, h => by simp [slIx] at h
  | .sl j :: vs, i, h => by
    simp only [slIx, List.mem_cons] at h
    rcases h with rfl | h
    · exact ⟨0, rfl⟩
    · obtain ⟨k, hk⟩ := of_slIx h; exact ⟨k + 1, by simpa using hk⟩
  | .d x :: vs, i, h => by obtain ⟨k, hk⟩ := of_slIx (vs := vs) h; exact ⟨k + 1, by simpa using hk⟩
  | .fr o :: vs, i, h => by obtain ⟨k, hk⟩ := of_slIx (vs := vs) h; exact ⟨k + 1, by simpa using hk⟩
theorem slIx_inj : ∀ {vs : List E} {k l i : Nat}, (slIx vs).Nodup → vs[k]? = some (.sl i) → vs[l]? = some (.sl i) → k = l
  | [], _, _, _, _, e, _ => by simp at e
  | v :: vs, 0, 0, _, _, _, _ => rfl
  | v :: vs, 0, l + 1, i, nd, e1, e2 => by
    simp at e1; subst e1
    simp only [slIx, List.nodup_cons] at nd
    exact absurd (mem_slIx (k := l) (by simpa using e2)) nd.1
  | v :: vs, k + 1, 0, i, nd, e1, e2 => by
    simp at e2; subst e2
    simp only [slIx, List.nodup_cons] at nd
    exact absurd (mem_slIx (k := k) (by simpa using e1)) nd.1
  | v :: vs, k + 1, l + 1, i, nd, e1, e2 => by
    have nd' : (slIx vs).Nodup := by
      cases v with
      | sl j => simp only [slIx, List.nodup_cons] at nd; exact nd.2
      | d x => exact nd
      | fr o => exact nd
    exact congrArg (· + 1) (slIx_inj (k := k) (l := l) nd' (by simpa using e1) (by simpa using e2))
theorem argS_get {ρ : List S} : ∀ {vs : List E} {ss : List S} {k : Nat} {s : S}, argS ρ vs = some ss → ss[k]? = some s → ∃ v, vs[k]? = some v ∧ ((∃ x, v = .d x ∧ s = .d x) ∨ (∃ o, v = .fr o ∧ s = .own o) ∨ ∃ i, v = .sl i ∧ ρ[i]? = some s ∧ s ≠ .no)
  | [], ss, k, s, e, e2 => by simp only [argS, Option.some.injEq] at e; subst e; simp at e2
  | v :: vs, ss, k, s, e, e2 => by
    simp only [argS] at e
    split at e
    · rename_i t ts e3 e4
      cases e
      cases k with
      | zero =>
        simp at e2; subst e2
        refine ⟨v, rfl, ?_⟩
        cases v with
        | d x => cases e3; exact .inl ⟨x, rfl, rfl⟩
        | fr o => cases e3; exact .inr (.inl ⟨o, rfl, rfl⟩)
        | sl i =>
          simp only at e3
          split at e3
          · rename_i x hx; cases e3; exact .inr (.inr ⟨i, rfl, hx, fun z => by cases z⟩)
          · rename_i o ho; cases e3; exact .inr (.inr ⟨i, rfl, ho, fun z => by cases z⟩)
          · cases e3
      | succ k =>
        obtain ⟨w, q1, q2⟩ := argS_get (k := k) e4 (by simpa using e2)
        exact ⟨w, by simpa using q1, q2⟩
    · cases e
theorem argS_len {ρ : List S} : ∀ {vs : List E} {ss : List S}, argS ρ vs = some ss → ss.length = vs.length
  | [], ss, e => by simp only [argS, Option.some.injEq] at e; subst e; rfl
  | v :: vs, ss, e => by
    simp only [argS] at e
    split at e
    · rename_i t ts e3 e4
      cases e
      rw [List.length_cons, List.length_cons, argS_len e4]
    · cases e
section
variable {B : Bk} {σ : St} {ρ0 ρ1 ss ss' : List S} {H0 G0 H1 G1 H2 G2 : Hp} {us : List V} {vs : List E}
theorem map_get {α β : Type} {f : α → β} {l : List α} {k : Nat} {y : β} (h : (l.map f)[k]? = some y) : ∃ x, l[k]? = some x ∧ f x = y := by
  rw [List.getElem?_map] at h
  exact Option.map_eq_some_iff.mp h
/-- who owns an argument's object -/
theorem arg_own (P : Pend B σ ρ0 H0 G0 ρ1 H1 G1 us vs) (ea : argS ρ1 vs = some ss) {k : Nat} {a : Addr} (w : Own (us.map some) ss k a) :
    us[k]? = some (.ref a) ∧ ((∃ o, vs[k]? = some (.fr o)) ∨ ∃ i, vs[k]? = some (.sl i) ∧ Own σ ρ1 i a) := by
  obtain ⟨w1, o, w2⟩ := w
  obtain ⟨x, e1, e2⟩ := map_get w1
  cases e2
  refine ⟨e1, ?_⟩
  obtain ⟨v, e3, ⟨x, _, e5⟩ | ⟨o', e4, e5⟩ | ⟨i, e4, e5, _⟩⟩ := argS_get ea w2
  · cases e5
  · exact .inl ⟨o', by rw [e3, e4]⟩
  · subst e4
    obtain ⟨u, q1, q2⟩ := P.re k _ e3
    rw [e1] at q1
    cases q1
    exact .inr ⟨i, e3, q2, o, e5⟩
theorem Pend.args (P : Pend B σ ρ0 H0 G0 ρ1 H1 G1 us vs) (ea : argS ρ1 vs = some ss) (nd : (slIx vs).Nodup) : Rel B G1 (us.map some) ss H1 := by
  refine ⟨P.post.rel.sub, by rw [List.length_map, P.len, argS_len ea], fun k s e => ?_, fun k l a w w' => ?_⟩
  · obtain ⟨v, e3, h⟩ := argS_get ea e
    obtain ⟨u, q1, q2⟩ := P.re k _ e3
    refine ⟨some u, by rw [List.getElem?_map, q1]; rfl, ?_⟩
    rcases h with ⟨x, rfl, rfl⟩ | ⟨o, rfl, rfl⟩ | ⟨i, rfl, e5, _⟩
    · exact ⟨u, rfl, q2⟩
    · obtain ⟨a, ho, rfl, h1, h2, h3, _⟩ := q2
      exact ⟨a, ho, rfl, h1, h2, h3⟩
    · have q2 : σ[i]? = some (some u) := q2
      obtain ⟨v, e1, e2⟩ := P.post.rel.slot i s e5
      rw [q2] at e1; cases e1
      exact e2
  · obtain ⟨u1, h1⟩ := arg_own P ea w
    obtain ⟨u2, h2⟩ := arg_own P ea w'
    have fr_no : ∀ {k : Nat} {o : O}, us[k]? = some (.ref a) → vs[k]? = some (.fr o) → ∀ i, ¬ Own σ ρ1 i a := fun {k o} e e' => by
      obtain ⟨u, q1, b, ho, q2, _, _, _, q3⟩ := P.re k _ e'
      rw [e] at q1; cases q1; cases q2
      exact q3
    rcases h1 with ⟨o, h1⟩ | ⟨i, h1, w1⟩
    · rcases h2 with ⟨o', h2⟩ | ⟨j, h2, w2⟩
      · exact P.apart k l o o' a h1 h2 u1 u2
      · exact absurd w2 (fr_no u1 h1 j)
    · rcases h2 with ⟨o', h2⟩ | ⟨j, h2, w2⟩
      · exact absurd w1 (fr_no u2 h2 i)
      · have := P.post.rel.sep i j a w1 w2
        subst this
        exact slIx_inj nd h1 h2
/-- behind the call -/
theorem Pend.back (P : Pend B σ ρ0 H0 G0 ρ1 H1 G1 us vs) (ea : argS ρ1 vs = some ss) (nd : (slIx vs).Nodup) (p : Post B (us.map some) ss H1 G1 (us.map some) ss' H2 G2) :
    Post B σ ρ0 H0 G0 σ (wb vs ss' ρ1) H2 G2 ∧ ∀ i a, Own σ (wb vs ss' ρ1) i a → (∃ k, Own (us.map some) ss' k a) ∨ Own σ ρ1 i a := by
  have hl' : ss'.length = vs.length := by rw [← p.rel.len, List.length_map, P.len]
  -- an owned object of the caller behind the call
  have oo : ∀ i a, Own σ (wb vs ss' ρ1) i a → (∃ k, vs[k]? = some (.sl i) ∧ Own (us.map some) ss' k a) ∨ (i ∉ slIx vs ∧ Own σ ρ1 i a) := fun i a ⟨w1, o, w2⟩ => by
    by_cases hi : i ∈ slIx vs
    · obtain ⟨k, hk⟩ := of_slIx hi
      refine .inl ⟨k, hk, ?_⟩
      obtain ⟨u, q1, q2⟩ := P.re k _ hk
      have q2 : σ[i]? = some (some u) := q2
      rw [w1] at q2; cases q2
      have hkl : k < ss'.length := by rw [hl']; exact (List.getElem?_eq_some_iff.mp hk).1
      have hil : i < ρ1.length := by rw [← P.post.rel.len]; exact (List.getElem?_eq_some_iff.mp w1).1
      have e := wb_at nd hk (List.getElem?_eq_getElem hkl) hil
      rw [w2] at e
      exact ⟨by rw [List.getElem?_map, q1]; rfl, o, by rw [List.getElem?_eq_getElem hkl]; exact e.symm⟩
    · rw [wb_off hi] at w2
      exact .inr ⟨hi, w1, o, w2⟩
  have fr0 : ∀ {b : Addr} {o : HO}, H0 b = some o → (∀ i, ¬ Own σ ρ0 i b) → ∀ k, ¬ Own (us.map some) ss k b := fun {b o} e n k w => by
    obtain ⟨u1, ⟨o', h1⟩ | ⟨i, h1, w1⟩⟩ := arg_own P ea w
    · have := P.new k o' b h1 u1
      rw [e] at this; cases this
    · exact P.post.notown e n i w1
  have own2 : ∀ i a, (∃ k, vs[k]? = some (.sl i) ∧ Own (us.map some) ss' k a) → Own σ ρ1 i a ∨ H1 a = none := fun i a ⟨k, hk, w⟩ => by
    rcases p.own k a w with w' | z
    · obtain ⟨u1, ⟨o', h1⟩ | ⟨j, h1, w1⟩⟩ := arg_own P ea w'
      · rw [hk] at h1; cases h1
      · rw [hk] at h1; cases h1; exact .inl w1
    · exact .inr z
  refine ⟨⟨P.post.grow.trans p.grow, fun b e => P.post.dom b (p.dom b e), fun b o e n => p.frame b o (P.post.frame b o e n) (fr0 e n), fun b o e g n => p.keep b o (P.post.frame b o e n) (P.post.keep b o e g n) (fr0 e n), ⟨p.rel.sub, by rw [wb_length]; exact P.post.rel.len, fun i s e => ?_, fun i j a w w' => ?_⟩, fun i a w => ?_⟩, fun i a w => ?_⟩
  · by_cases hi : i ∈ slIx vs
    · obtain ⟨k, hk⟩ := of_slIx hi
      obtain ⟨u, q1, q2⟩ := P.re k _ hk
      have q2 : σ[i]? = some (some u) := q2
      have hkl : k < ss'.length := by rw [hl']; exact (List.getElem?_eq_some_iff.mp hk).1
      have hil : i < ρ1.length := by rw [← P.post.rel.len]; exact (List.getElem?_eq_some_iff.mp q2).1
      have e' := wb_at nd hk (List.getElem?_eq_getElem hkl) hil
      rw [e] at e'
      obtain ⟨v, e1, e2⟩ := p.rel.slot k s (by rw [List.getElem?_eq_getElem hkl]; exact e'.symm)
      rw [List.getElem?_map, q1] at e1
      cases e1
      exact ⟨_, q2, e2⟩
    · rw [wb_off hi] at e
      obtain ⟨v, e1, e2⟩ := P.post.rel.slot i s e
      refine ⟨v, e1, ?_⟩
      cases s with
      | no => trivial
      | d x => obtain ⟨u, q1, q2⟩ := e2; exact ⟨u, q1, Fz.mono p.grow _ _ q2⟩
      | own o =>
        obtain ⟨a, ho, q1, q2, q3, q4⟩ := e2
        subst q1
        have nk : ∀ k, ¬ Own (us.map some) ss k a := fun k w => by
          obtain ⟨u1, ⟨o', h1⟩ | ⟨j, h1, w1⟩⟩ := arg_own P ea w
          · obtain ⟨u, q5, b, ho', q6, _, _, _, q7⟩ := P.re k _ h1
            rw [u1] at q5; cases q5; cases q6
            exact q7 i ⟨e1, o, e⟩
          · have := P.post.rel.sep i j a ⟨e1, o, e⟩ w1
            subst this
            exact hi (mem_slIx h1)
        exact ⟨a, ho, rfl, p.frame a ho q2 nk, p.keep a ho q2 q3 nk, q4.mono p.grow⟩
  · have has : ∀ {i : Nat}, Own σ ρ1 i a → ∃ o, H1 a = some o := fun {i} ⟨w1, o, w2⟩ => by
      obtain ⟨v, e1, b, ho, e2, e3, _⟩ := P.post.rel.slot i _ w2
      rw [w1] at e1; cases e1; cases e2
      exact ⟨ho, e3⟩
    have both : ∀ {i j : Nat}, (∃ k, vs[k]? = some (.sl i) ∧ Own (us.map some) ss' k a) → Own σ ρ1 j a → i = j := fun {i j} w w' => by
      rcases own2 i a w with z | z
      · exact P.post.rel.sep i j a z w'
      · obtain ⟨o, z'⟩ := has w'
        rw [z] at z'; cases z'
    rcases oo i a w with h1 | ⟨_, h1⟩
    · rcases oo j a w' with h2 | ⟨_, h2⟩
      · obtain ⟨k, hk, wk⟩ := h1
        obtain ⟨l, hl, wl⟩ := h2
        have := p.rel.sep k l a wk wl
        subst this
        rw [hk] at hl; cases hl; rfl
      · exact both h1 h2
    · rcases oo j a w' with h2 | ⟨_, h2⟩
      · exact (both h2 h1).symm
      · exact P.post.rel.sep i j a h1 h2
  · rcases oo i a w with h1 | ⟨_, h1⟩
    · rcases own2 i a h1 with z | z
      · exact P.post.own i a z
      · exact .inr (P.post.dom a z)
    · exact P.post.own i a h1
  · rcases oo i a w with ⟨k, _, h1⟩ | ⟨_, h1⟩
    · exact .inl ⟨k, h1⟩
    · exact .inr h1
end
/-- f(args), F what the def does -/
def appFn (F : List S → Res E) (vs : List E) (ρ1 : List S) : Res E := match argS ρ1 vs with
  | some ss => if (slIx vs).Nodup then match F ss with
      | .ok (.d x) ss' => .ok (.d x) (wb vs ss' ρ1)
      | .ok (.fr o) ss' => .ok (.fr o) (wb vs ss' ρ1)
      | .ok (.sl _) _ => .no
      | .ex e ss' => .ex e (wb vs ss' ρ1)
      | .no => .no
    else .no
  | none => .no
def aFn (F : List S → Res E) (fs : List S → Res (List E)) : List S → Res E := fun ρ => (fs ρ).bind fun vs ρ1 => appFn F vs ρ1
/-- what a def is asked for -/
def spC (B : Bk) (F : List S → Res E) : Sp := fun vs H Q E => lift B (fun cls d _ H => E cls d H) F (vs.map some) H Q
theorem app_imp {B : Bk} {W : WX'} {F : List S → Res E} {σ : St} {ρ0 ρ1 : List S} {H0 G0 H1 G1 : Hp} {us : List V} {vs : List E} {Q : VK} (P : Pend B σ ρ0 H0 G0 ρ1 H1 G1 us vs) (h : Aft B W σ ρ0 H0 G0 Q (appFn F vs ρ1)) :
    spC B F us H1 Q (fun cls d H => W cls d σ H) := by
  unfold appFn at h
  split at h
  · rename_i ss ea
    split at h
    · rename_i nd
      refine ⟨G1, ss, P.args ea nd, ?_⟩
      cases ef : F ss with
      | no => rw [ef] at h; exact h
      | ex e ss' =>
        rw [ef] at h
        exact fun cls d H' G' p rx => h cls d H' G' (P.back ea nd p).1 rx
      | ok v ss' =>
        rw [ef] at h
        intro u H' G' p re fr
        obtain ⟨pb, po⟩ := P.back ea nd p
        cases v with
        | d x => exact h u H' G' pb re trivial
        | sl i => exact h.elim
        | fr o =>
          obtain ⟨a, ho, rfl, h1, h2, h3, h4⟩ := re
          have n1 : H1 a = none := fr a rfl
          refine h _ H' G' pb ⟨a, ho, rfl, h1, h2, h3, fun i w => ?_⟩ fun b e => by cases e; exact P.post.dom _ n1
          rcases po i a w with ⟨k, w'⟩ | ⟨w1, o', w2⟩
          · exact h4 k w'
          · obtain ⟨v, e1, b, ho', e2, e3, _⟩ := P.post.rel.slot i _ w2
            rw [w1] at e1; cases e1; cases e2
            rw [n1] at e3; cases e3
    · exact h.elim
  · exact h.elim
end L2.AL
/-! A13: a def keeps what its mirror says; calls of defs; the head. -/
namespace L2.AL
open PySem PySem.Spec PyProof.Rows
/-- a def's promise where no guard stands around -/
structure FnG (P : Program) (w : World) (K : PySem.W.Frag) (mg : Str → Option Value) (base : Heap) (CX : CXT) (n : Nat) (a : Addr) (fd : FuncData) (par : List Str) (F : List S → Res E) : Prop where
  go : ∀ (A : Around) (up : List Env) (s0 : Shared) (H : Hp) (given : Args) (zs : List Value) (us : List V) (Q : VK) (Ex : XK),
    A.guards = some [] → Room n A → Env0 P w K mg base A up s0 H → BindsTo s0 fd given (par.zip zs) → Vals us zs → us.length = par.length → spC ⟨K, mg, w⟩ F us H Q Ex →
    codeAny (model P w) A (.call (.ref a) given) (CR CX up P w H s0 Q Ex) s0
theorem FnG.mono {P : Program} {w : World} {K : PySem.W.Frag} {mg : Str → Option Value} {base : Heap} {CX : CXT} {m n : Nat} {a : Addr} {fd : FuncData} {par : List Str} {F : List S → Res E} (h : FnG P w K mg base CX m a fd par F) (le : m ≤ n) : FnG P w K mg base CX n a fd par F :=
  ⟨fun A up s0 H given zs us Q Ex hg hr => h.go A up s0 H given zs us Q Ex hg (hr.mono le)⟩
/-! ### from the body to the def -/
def outF (np : Nat) : Res Fl → Res E
  | .ok .nx ρ' => .ok (.d .non) (ρ'.take np)
  | .ok (.rt (.d x)) ρ' => .ok (.d x) (ρ'.take np)
  | .ok (.rt (.fr o)) ρ' => .ok (.fr o) (ρ'.take np)
  | .ok (.rt (.sl j)) ρ' => if j < np then match freeze j (ρ'.take np) with
      | some (x, ρ2) => .ok (.d x) ρ2
      | none => .no
    else match ρ'[j]? with
      | some (.d x) => .ok (.d x) (ρ'.take np)
      | some (.own o) => .ok (.fr o) (ρ'.take np)
      | _ => .no
  | .ok .bk _ => .no
  | .ok .ct _ => .no
  | .ex e ρ' => .ex e (ρ'.take np)
  | .no => .no
/-- np parameters, nl further names -/
def runF (np nl : Nat) (f : List S → Res Fl) : List S → Res E := fun ρ => if ρ.length = np then outF np (f (ρ ++ List.replicate nl .no)) else .no
section
variable {B : Bk} {us : List V} {ρ ρ' : List S} {H G H' G' : Hp} {nl : Nat} {σ' : St}
theorem start_own {j : Nat} {b : Addr} (w : Own (us.map some ++ List.replicate nl none) (ρ ++ List.replicate nl S.no) j b) : Own (us.map some) ρ j b := by
  obtain ⟨w1, o, w2⟩ := w
  by_cases hj : j < ρ.length
  · rw [List.getElem?_append_left hj] at w2
    by_cases hu : j < (us.map some).length
    · rw [List.getElem?_append_left hu] at w1
      exact ⟨w1, o, w2⟩
    · rw [List.getElem?_append_right (by omega), List.getElem?_replicate] at w1
      split at w1 <;> cases w1
  · rw [List.getElem?_append_right (by omega), List.getElem?_replicate] at w2
    split at w2 <;> cases w2
theorem Rel.start (r : Rel B G (us.map some) ρ H) : Rel B G (us.map some ++ List.replicate nl none) (ρ ++ List.replicate nl .no) H := by
  have hl : us.length = ρ.length := by have := r.len; rwa [List.length_map] at this
  refine ⟨r.sub, by rw [List.length_append, List.length_append, List.length_replicate, List.length_replicate, r.len], fun j s e => ?_, fun i j a w1 w2 => r.sep i j a (start_own w1) (start_own w2)⟩
  by_cases hj : j < ρ.length
  · rw [List.getElem?_append_left hj] at e
    obtain ⟨v, e1, e2⟩ := r.slot j s e
    exact ⟨v, by rw [List.getElem?_append_left (by rw [List.length_map, hl]; exact hj)]; exact e1, e2⟩
  · rw [List.getElem?_append_right (by omega), List.getElem?_replicate] at e
    split at e
    · rename_i hx
      cases e
      exact ⟨none, by rw [List.getElem?_append_right (by rw [List.length_map]; omega), List.getElem?_replicate, List.length_map, hl, if_pos hx], trivial⟩
    · cases e
theorem take_own {np : Nat} (hnp : us.length = np) (k : Keeps (List.range np) (us.map some ++ List.replicate nl none) σ') {j : Nat} {b : Addr} (w : Own (us.map some) (ρ'.take np) j b) : j < np ∧ Own σ' ρ' j b := by
  obtain ⟨w1, o, w2⟩ := w
  have hj : j < np := by
    have := (List.getElem?_eq_some_iff.mp w2).1
    rw [List.length_take] at this; omega
  rw [List.getElem?_take_of_lt hj] at w2
  refine ⟨hj, ?_, o, w2⟩
  rw [k j (List.mem_range.mpr hj), List.getElem?_append_left (by rw [List.length_map]; omega)]
  exact w1
/-- back to the arguments -/
theorem Post.args {np : Nat} (hnp : us.length = np) (hr : ρ.length = np) (p : Post B (us.map some ++ List.replicate nl none) (ρ ++ List.replicate nl .no) H G σ' ρ' H' G') (k : Keeps (List.range np) (us.map some ++ List.replicate nl none) σ') :
    Post B (us.map some) ρ H G (us.map some) (ρ'.take np) H' G' := by
  have hl' : np ≤ ρ'.length := by
    rw [← p.rel.len]
    cases np with
    | zero => exact Nat.zero_le _
    | succ m =>
      have e := k m (List.mem_range.mpr (Nat.lt_succ_self m))
      rw [List.getElem?_append_left (by rw [List.length_map]; omega), List.getElem?_map, List.getElem?_eq_getElem (show m < us.length by omega)] at e
      exact (List.getElem?_eq_some_iff.mp e).1
  have up : ∀ {i : Nat} {b : Addr}, Own (us.map some ++ List.replicate nl none) (ρ ++ List.replicate nl S.no) i b → Own (us.map some) ρ i b := fun w => start_own w
  refine ⟨p.grow, p.dom, fun b o e n => p.frame b o e fun i w => n i (up w), fun b o e g n => p.keep b o e g fun i w => n i (up w), ⟨p.rel.sub, by rw [List.length_map, List.length_take]; omega, fun j s e => ?_, fun i j a w w' => p.rel.sep i j a (take_own hnp k w).2 (take_own hnp k w').2⟩, fun i a w => ?_⟩
  · have hj : j < np := by
      have := (List.getElem?_eq_some_iff.mp e).1
      rw [List.length_take] at this; omega
    rw [List.getElem?_take_of_lt hj] at e
    obtain ⟨v, e1, e2⟩ := p.rel.slot j s e
    rw [k j (List.mem_range.mpr hj), List.getElem?_append_left (by rw [List.length_map]; omega)] at e1
    exact ⟨v, e1, e2⟩
  · rcases p.own i a (take_own hnp k w).2 with z | z
    · exact .inl (up z)
    · exact .inr z
theorem body_imp {np : Nat} {f : List S → Res Fl} {Q : VK} {W : WX'} {Ex : XK} (hW : ∀ cls d σ H, Ex cls d H → W cls d σ H) (hnp : us.length = np) (h : spC B (runF np nl f) us H Q Ex) :
    liftS B W (List.range np) f { nx := fun _ H' => Q .non H', rt := Q } (us.map some ++ List.replicate nl none) H := by
  obtain ⟨G, ρ, r, h⟩ := h
  unfold runF at h
  split at h
  · rename_i hr
    refine ⟨G, ρ ++ List.replicate nl .no, r.start, ?_⟩
    cases ef : f (ρ ++ List.replicate nl .no) with
    | no => rw [ef] at h; exact h.elim
    | ex e ρ' => rw [ef] at h; exact fun cls d σ' H' G' p k rx => hW _ _ _ _ (h cls d H' G' (p.args hnp hr k) rx)
    | ok fl ρ' =>
      rw [ef] at h
      cases fl with
      | bk => exact h.elim
      | ct => exact h.elim
      | nx => exact fun σ' H' G' p k => h .non H' G' (p.args hnp hr k) (fz_non (B := B) (G := G')) trivial
      | rt v =>
        intro u σ' H' G' p k re fr
        have pa := p.args hnp hr k
        cases v with
        | d x => exact h u H' G' pa re trivial
        | fr o =>
          obtain ⟨a, ho, e, h1, h2, h3, h4⟩ := re
          exact h u H' G' pa ⟨a, ho, e, h1, h2, h3, fun i w => h4 i (take_own hnp k w).2⟩ fr
        | sl j =>
          have re : σ'[j]? = some (some u) := re
          rw [outF] at h
          split at h
          · rename_i hj
            split at h
            · rename_i x ρ2 hf
              have ru : (us.map some)[j]? = some (some u) := by
                rw [← re, k j (List.mem_range.mpr hj), List.getElem?_append_left (by rw [List.length_map]; omega)]
              obtain ⟨G2, q, f2, _⟩ := freeze_ok pa.rel ru hf
              exact h u H' G2 (pa.trans q) f2 trivial
            · exact h.elim
          · rename_i hj
            split at h
            · rename_i x hx
              obtain ⟨v, e1, w, e2, e3⟩ := p.rel.slot j _ hx
              rw [re] at e1; cases e1; cases e2
              exact h u H' G' pa e3 trivial
            · rename_i o ho
              obtain ⟨v, e1, a, hob, e2, e3, e4, e5⟩ := p.rel.slot j _ ho
              rw [re] at e1; cases e1; cases e2
              have wj : Own σ' ρ' j a := ⟨re, o, ho⟩
              refine h _ H' G' pa ⟨a, hob, rfl, e3, e4, e5, fun i w => ?_⟩ fun b e => ?_
              · obtain ⟨hi, w'⟩ := take_own hnp k w
                have := p.rel.sep i j a w' wj
                omega
              · cases e
                rcases p.own j a wj with ⟨_, o', z⟩ | z
                · rw [List.getElem?_append_right (by omega), List.getElem?_replicate] at z
                  split at z <;> cases z
                · exact z
            · exact h.elim
  · exact h.elim
end
section
variable {CX : CXT} {P : Program} {w : World} {K : PySem.W.Frag} {mg : Str → Option Value} {base : Heap} {n : Nat} {a : Addr} {x qual : Str} {st : Stmt} {N par : List Str} {fd : FuncData}
/-- THE RULE of a def -/
theorem FnG.of {f : List S → Res Fl} (F : Fun K x qual st a fd) (S : FnScope N par (defScope st)) (np nl : Nat) (hnp : par.length = np) (hnl : N.length - np = nl)
    (hbody : ∀ (cd : Value) (A : Around) (up : List Env) (s0 : Shared) (H : Hp) (Ex : XK), (A.deeper (envOfC qual (defScope st) s0.heap.objs.size a cd)).guards = some [] → Room n (A.deeper (envOfC qual (defScope st) s0.heap.objs.size a cd)) →
      PSsa (cxOf CX P w K mg base N qual (defScope st) a cd A up s0 H Ex) (fun cls d _ H => Ex cls d H) (List.range np) (defBody st) f) :
    FnG P w K mg base CX (n + 1) a fd par (runF np nl f) := by
  obtain ⟨oc, od, kV, doc, pm, an, cd, ct, osl, rfl, lk, hcode⟩ := F.ex
  constructor
  intro A up s0 H given zs us Q Ex hgd hr e0 hb rv hlen hsp
  have still : K.In s0.heap := e0.mod.kin.keeps fun b o e => (e0.bs b o e).1
  have nolim : s0.heap.NoLimit := e0.mod.nolimit.keeps fun b o e => (e0.bs b o e).1
  have named : ∀ y ∈ par.zip zs, (defScope st).names.lookup y.1 = some .local ∨ ((defScope st).names.lookup y.1 = some .cell ∧ ((cellsFrom (s0.heap.objs.size + 1) (defScope st).names []).lookup y.1).isSome = true) := by
    intro y hy
    have hy' : y.1 ∈ par := (List.of_mem_zip (a := y.1) (b := y.2) hy).1
    cases S.par y.1 hy' with
    | inl z => exact Or.inl z
    | inr z => exact Or.inr ⟨z, PySem.W.cellsFrom_some _ _ _ (Or.inl z)⟩
  refine codeAny_call_function hr.depth (still _ _ lk) rfl S.co S.gen rfl (PySem.W.codeRec_of still hcode) (hb _ _ _ _ ?_)
  refine wpAny_newFunctionEnv_cells S.kind named ?_
  rintro env rfl s1 inside
  refine ⟨nolim.keeps inside.toInCall.keep, codeAny_func ?_⟩
  have first := inv_start (CX := CX) (E := Ex) S hr.hd e0 hlen rv inside
  have body := hbody cd A up s0 H Ex hgd (hr.deeper _)
  have es : start N us = us.map some ++ List.replicate nl none := by rw [start, hlen, hnp, hnl]
  rw [es] at first
  have ends : ∀ {σ' : St} {H' : Hp} {v : V} {u : Value} {s' : Shared}, Inv (cxOf CX P w K mg base N qual (defScope st) a cd A up s0 H Ex) [] σ' H' s' → RelV v u → Q v H' → CE up P w H s0 Q u s' := by
    intro σ' H' v u s' J r q
    exact ⟨v, H', J.os, J.bare, J.base, J.hok, r, q⟩
  refine wpAny_mono (body.run [] s1 _ H _ first (body_imp (fun _ _ _ _ z => z) (hlen.trans hnp) hsp)) ?_ (fun _ _ z => z)
  intro fl s' z
  match fl, z with
  | .ret u, ⟨v, σ', H', J, r, q⟩ => exact ends J r q
  | .next, ⟨σ', H', J, q⟩ => exact ends (v := .non) (u := .none) J rfl q
  | .brk, ⟨_, _, _, q⟩ => exact q.elim
  | .cont, ⟨_, _, _, q⟩ => exact q.elim
end
/-! ### calls -/
def PassW (CX : CXT) (X : Cx) (W : WX') : Prop := ∀ (pins : List (Addr × Obj)) (σ : St) (H : Hp) (s : Shared) (e : Value) (s' : Shared), Inv X pins σ H s → CX X.stack H s (fun cls d H => W cls d σ H) e s' → X.xe e s'
section
variable {X : Cx} {W : WX'} {CX : CXT} {n : Nat} {a : Addr} {x : Str} {p pos : Pos} {fd : FuncData} {par ks : List Str} {F : List S → Res E} {fs : List S → Res (List E)} {e : Expr} {es : List Expr} {kws : List Keyword}
theorem run_G {pins : List (Addr × Obj)} {σ : St} {H : Hp} {s : Shared} {Q : VK} {given : Args} {zs : List Value} {us : List V} (hF : FnG X.prog X.w X.K X.mg X.base CX n a fd par F) (hgd : X.A.guards = some []) (hr : Room n X.A) (hx : PassW CX X W)
    (I : Inv X pins σ H s) (hb : BindsTo s fd given (par.zip zs)) (rv : Vals us zs) (hl : us.length = par.length) (h : spC X.bk F us H Q (fun cls d H => W cls d σ H)) :
    codeAny (model X.prog X.w) X.A (.call (.ref a) given) (fun r s' => match r with
      | .ok (.ret u) => EP X pins σ Q u s'
      | .ok _ => False
      | .error e => X.xe e s') s := by
  refine codeAny_mono (hF.go X.A X.stack s H given zs us Q _ hgd hr I.env0 hb rv hl h) ?_
  intro r s' q
  match r, q with
  | .error e, q => exact hx pins σ H s e s' I q
  | .ok (.ret u), q => exact I.after q
theorem bind_len {B : Bk} {us : List V} {H : Hp} {Q : VK} {Ex : XK} {np nl : Nat} {f : List S → Res Fl} (h : spC B (runF np nl f) us H Q Ex) : us.length = np := by
  obtain ⟨G, ρ, r, h⟩ := h
  unfold runF at h
  split at h
  · rename_i e
    rw [← e, ← r.len, List.length_map]
  · exact h.elim
/-- what a call may ask of the mirror: as many arguments as parameters -/
def Len (F : List S → Res E) (k : Nat) : Prop := ∀ ρ, F ρ ≠ .no → ρ.length = k
theorem len_runF {np nl : Nat} {f : List S → Res Fl} : Len (runF np nl f) np := fun ρ h => by
  unfold runF at h
  split at h
  · assumption
  · exact absurd rfl h
theorem Len.of {B : Bk} {us : List V} {H : Hp} {Q : VK} {Ex : XK} {k : Nat} (L : Len F k) (h : spC B F us H Q Ex) : us.length = k := by
  obtain ⟨G, ρ, r, h⟩ := h
  rw [← L ρ (fun z => by rw [z] at h; exact h), ← r.len, List.length_map]
theorem a_fn (hF : FnG X.prog X.w X.K X.mg X.base CX n a fd par F) (hL : Len F par.length) (hgd : X.A.guards = some []) (hr : Room n X.A) (hx : PassW CX X W) (hm : X.mg x = some (.ref a)) (hk : PySem.W.keepIn X.K (.ref a) = true) (hb : Binds X.K fd par [])
    (ha : PAa X W (e :: es) fs) (hg : Gl X x := by rfl) (hdb : (x == ("__debug__" : Str)) = false := by decide) (he : starEach (e :: es) X.env = (false, eval e X.env) :: starEach es X.env := by rfl) (hpl : (backTo pos (starEach es X.env)).any (·.1) = false := by rfl) :
    PEa X W (.Call (.Name x p) (e :: es) [] pos) (aFn F fs) := by
  constructor
  intro pins s σ H Q I h
  obtain ⟨G, ρ, rl, h⟩ := h
  have args := liftA_first rl (Aft.cl (W := W) (Q := Q)) h
  refine wpAny_Call_Name_kw (ld_glob I hg hm ?_ hdb)
  refine PySem.W.callWith_K (h₀ := X.base) I.ok.mod.kin hk (thn (ha.run pos pins s σ H _ I args) ?_) he hpl
  rintro zs s1 ⟨us, H1, I1, rv, vs, ρ1, G1, P, h1⟩
  have sp := app_imp P h1
  have hl := hL.of sp
  have hb' := hb s1 zs I1.kIn (by rw [List.append_nil, ← rv.length]; exact hl)
  rw [List.append_nil] at hb'
  refine ⟨I1.kIn, wpAny_call (codeAny_mono (run_G hF hgd hr hx I1 hb' rv hl sp) ?_)⟩
  intro r s' q
  match r, q with
  | .error e, q => exact q
  | .ok (.ret u), q => exact q
theorem a_fn0 (hF : FnG X.prog X.w X.K X.mg X.base CX n a fd par F) (hL : Len F par.length) (hgd : X.A.guards = some []) (hr : Room n X.A) (hx : PassW CX X W) (hm : X.mg x = some (.ref a)) (hk : PySem.W.keepIn X.K (.ref a) = true) (hb : Binds X.K fd par [])
    (hg : Gl X x := by rfl) (hdb : (x == ("__debug__" : Str)) = false := by decide) : PEa X W (.Call (.Name x p) [] [] pos) (aFn F aNil) := by
  constructor
  intro pins s σ H Q I h
  obtain ⟨G, ρ, rl, h⟩ := h
  have P : Pend X.bk σ ρ H G ρ H G [] [] := Pend.nil rl
  have sp := app_imp (W := W) P h
  have hl := hL.of sp
  have hb' := hb s [] I.kIn (by rw [List.append_nil]; exact hl)
  refine wpAny_Call_Name_kw (ld_glob I hg hm ?_ hdb)
  refine PySem.W.callWith_K0 I.kIn hk (wpAny_call (codeAny_mono (run_G hF hgd hr hx I hb' .nil hl sp) ?_))
  intro r s' q
  match r, q with
  | .error e, q => exact q
  | .ok (.ret u), q => exact q
/-- keywords alone, in the parameters' order -/
def aKw (fs : List S → Res (List E)) := fs
abbrev PKa (X : Cx) (W : WX') (kws : List Keyword) (f : List S → Res (List E)) : Prop := PK X kws (liftA X.bk W f)
theorem pk_imp {t t' : TA} (h : PK X kws t) (w : ∀ σ H Q, t' σ H Q → t σ H Q) : PK X kws t' := ⟨fun pos pins s σ H Q I q => h.run pos pins s σ H Q I (w σ H Q q)⟩
theorem k_nil : PKa X W [] aNil := pk_imp pk_nil fun σ H Q ⟨G, ρ, r, h⟩ => h [] H G (Pend.nil r)
theorem k_cons {nm : Option Str} {kpos : Pos} {fe : List S → Res E} (ha : PEa X W e fe) (hr : PKa X W kws fs) : PKa X W (⟨nm, e, kpos⟩ :: kws) (aCons fe fs) :=
  pk_imp (pk_cons ha hr) fun σ H Q ⟨G, ρ, r, h⟩ => by
    refine lift_mono (lift_first r (AftA.cl (Q := Q)) h) fun u H1 ⟨v, ρ1, G1, P1, h1⟩ => ?_
    refine liftA_mono (liftA_next P1 (AftA.cl (Q := Q)) h1) fun us H2 ⟨vs, ρ2, G2, P2, h2⟩ => ?_
    exact h2 _ _ _ P2
/-- how keywords alone bind -/
def KwB (K : PySem.W.Frag) (fd : FuncData) (par ks : List Str) : Prop := ∀ (s : Shared) (zs : List Value), K.In s.heap → zs.length = par.length → BindsTo s fd ⟨[], ks.zip zs⟩ (par.zip zs)
theorem a_fnK (hF : FnG X.prog X.w X.K X.mg X.base CX n a fd par F) (hL : Len F par.length) (hgd : X.A.guards = some []) (hr : Room n X.A) (hx : PassW CX X W) (hm : X.mg x = some (.ref a)) (hk : PySem.W.keepIn X.K (.ref a) = true) (hb : KwB X.K fd par ks)
    (ha : PKa X W kws fs) (hall : (backToKw pos (keywordEach kws X.env)).all (·.1.isSome) = true := by rfl) (hks : (backToKw pos (keywordEach kws X.env)).filterMap (·.1) = ks := by rfl)
    (hg : Gl X x := by rfl) (hdb : (x == ("__debug__" : Str)) = false := by decide) (hpl : ((backTo pos (starEach [] X.env)).any (·.1) || (backToKw pos (keywordEach kws X.env)).any (·.1.isNone)) = false := by rfl) :
    PEa X W (.Call (.Name x p) [] kws pos) (aFn F fs) := by
  constructor
  intro pins s σ H Q I h
  obtain ⟨G, ρ, rl, h⟩ := h
  have args := liftA_first rl (Aft.cl (W := W) (Q := Q)) h
  refine wpAny_Call_Name_kw (ld_glob I hg hm ?_ hdb)
  refine PySem.W.callWith_KW0 (h₀ := X.base) I.ok.mod.kin hk hall (thn (ha.run pos pins s σ H _ I args) ?_) hpl
  rintro zs s1 ⟨us, H1, I1, rv, vs, ρ1, G1, P, h1⟩
  have sp := app_imp P h1
  have hl := hL.of sp
  have hb' := hb s1 zs I1.kIn (by rw [← rv.length]; exact hl)
  rw [hks]
  refine ⟨I1.kIn, wpAny_call (codeAny_mono (run_G hF hgd hr hx I1 hb' rv hl sp) ?_)⟩
  intro r s' q
  match r, q with
  | .error e, q => exact q
  | .ok (.ret u), q => exact q
/-- f(args), f a name of the def that holds a def of the module -/
def aFnV (i : Nat) (tbl : Str → Option (List S → Res E)) (fs : List S → Res (List E)) : List S → Res E := fun ρ => match ρ[i]? with
  | some (.d (.fn y)) => match tbl y with
    | some F => aFn F fs ρ
    | none => .no
  | _ => .no
theorem a_fnV {i : Nat} {tbl : Str → Option (List S → Res E)} (hT : ∀ y F, tbl y = some F → ∃ (a : Addr) (fd : FuncData) (par : List Str), X.mg y = some (.ref a) ∧ PySem.W.keepIn X.K (.ref a) = true ∧ FnG X.prog X.w X.K X.mg X.base CX n a fd par F ∧ Len F par.length ∧ Binds X.K fd par [])
    (hgd : X.A.guards = some []) (hr : Room n X.A) (hx : PassW CX X W) (hN : X.N[i]? = some x) (ha : PAa X W (e :: es) fs) (hv : Vis X.env.scope x := by first | exact Or.inl rfl | exact Or.inr (Or.inl rfl) | exact Or.inr (Or.inr rfl))
    (hd : (x == ("__debug__" : Str)) = false := by decide) (hcd : (x == ("__classdict__" : Str)) = false := by decide) (he : starEach (e :: es) X.env = (false, eval e X.env) :: starEach es X.env := by rfl) (hpl : (backTo pos (starEach es X.env)).any (·.1) = false := by rfl) :
    PEa X W (.Call (.Name x p) (e :: es) [] pos) (aFnV i tbl fs) := by
  constructor
  intro pins s σ H Q I h
  obtain ⟨G, ρ, rl, h⟩ := h
  unfold aFnV at h
  split at h
  · rename_i y hy
    split at h
    · rename_i F hF0
      obtain ⟨a, fd, par, hm, hk, hF, hL, hb⟩ := hT y F hF0
      obtain ⟨v, e1, u, e2, e3⟩ := rl.slot i _ hy
      subst e2
      rw [Fz] at e3
      obtain ⟨b, rfl, e4⟩ := e3
      have e4 : X.mg y = some (.ref b) := e4
      rw [hm] at e4; cases e4
      have args := liftA_first rl (Aft.cl (W := W) (Q := Q)) h
      refine wpAny_Call_Name_kw (thn ((pe_var (pos := p) (i := i) hN hv hd hcd).run pins s σ H (fun v H1 => v = .ref a ∧ H1 = H) I ⟨.ref a, e1, rfl, rfl⟩) ?_)
      rintro z s0 ⟨v, H1, I0, r0, rfl, rfl⟩
      cases r0
      refine PySem.W.callWith_K (h₀ := X.base) I.ok.mod.kin hk (thn (ha.run pos pins s0 σ _ _ I0 args) ?_) he hpl
      rintro zs s1 ⟨us, H2, I1, rv, vs, ρ1, G1, P, h1⟩
      have sp := app_imp P h1
      have hl := hL.of sp
      have hb' := hb s1 zs I1.kIn (by rw [List.append_nil, ← rv.length]; exact hl)
      rw [List.append_nil] at hb'
      refine ⟨I1.kIn, wpAny_call (codeAny_mono (run_G hF hgd hr hx I1 hb' rv hl sp) ?_)⟩
      intro r s' q
      match r, q with
      | .error e, q => exact q
      | .ok (.ret u), q => exact q
    · exact h.elim
  · exact h.elim
end
end L2.AL
/-! A14: from the mirror of law to the law. -/
namespace L2.AL
open PySem PySem.Spec PyProof.Rows
/-- what is tracked at the entry: the script, where it is none of the module's own objects -/
def scH (K : PySem.W.Frag) (a : Addr) (zs : List Value) (ns : List Int) : Hp := fun b =>
  if b = a ∧ (K.lookup a).isNone = true then some (.frz { cls := .type "list", data := .seq zs.toArray } (.lst (ns.map V.int))) else none
section
variable {K : PySem.W.Frag} {a : Addr} {zs : List Value} {ns : List Int}
theorem scH_some {b : Addr} {o : HO} (h : scH K a zs ns b = some o) : b = a ∧ K.lookup a = none ∧ o = .frz { cls := .type "list", data := .seq zs.toArray } (.lst (ns.map V.int)) := by
  unfold scH at h
  split at h
  · rename_i c
    cases h
    exact ⟨c.1, Option.isNone_iff_eq_none.mp c.2, rfl⟩
  · cases h
theorem law_G {P : Program} {w : World} {mg mb : Str → Option Value} {n k : Nat} {fa : Addr} {fd : FuncData} {x : Str} {F : List S → Res E} {s : Shared}
    (inK : K.In s.heap) (names : s.heap.Ns mainGlobals mg) (bnames : s.heap.Ns builtinsNs mb) (bis : ∀ x : Str, x ≠ "__name__" → mb x = bootBuiltins x) (nolim : s.heap.NoLimit) (nogen : s.gens = #[])
    (ha : s.heap.get? a = some { cls := .type "list", data := .seq zs.toArray }) (whole : IntsAre zs ns) (few : ns.length ≤ sizeLine) (hr : Room k callerA)
    (hF : ∀ base : Heap, K.In base → base.Ns mainGlobals mg → FnG P w K mg base CX0 k fa fd [x] F) (hb : ∀ (s : Shared) (u : Value), BindsTo s fd ⟨[u], []⟩ [(x, u)])
    (math : ∃ ρ', F [.d (.scr ns)] = .ok (.d (.bl true)) ρ') :
    codeAny (model P w) callerA (.call (.ref fa) ⟨[.ref a], []⟩) (fun r s' => r = .ok (.ret (.bool true)) ∧ OldK s.heap s'.heap ∧ s'.os = s.os ∧ AllBare s'.gens) s := by
  have zv := vals_ints whole
  have zl := whole.length
  obtain ⟨H, hH⟩ : ∃ H, H = scH K a zs ns := ⟨_, rfl⟩
  have at_a : ∀ {b : Addr} {o : HO}, H b = some o → b = a ∧ K.lookup a = none ∧ o = .frz { cls := .type "list", data := .seq zs.toArray } (.lst (ns.map V.int)) := fun e => scH_some (by rw [← hH]; exact e)
  have free : ∀ {b : Addr}, (b ≠ a ∨ K.lookup a ≠ none) → H b = none := fun {b} h => by
    cases e : H b with
    | none => rfl
    | some o =>
      obtain ⟨h1, h2, _⟩ := at_a e
      rcases h with h | h
      · exact absurd h1 h
      · exact absurd h2 h
  have seq : SqL K H a (ns.map V.int) := by
    cases e : K.lookup a with
    | some o =>
      have q := inK a o e
      rw [ha] at q
      cases q
      exact .inr ⟨_, zs.toArray, _, e, rfl, rfl, rfl, by rw [List.size_toArray, zl]; exact few, by simpa using zv⟩
    | none => exact .inl (.inr ⟨{ cls := .type "list", data := .seq zs.toArray }, by rw [hH]; unfold scH; rw [if_pos ⟨rfl, by rw [e]; rfl⟩]⟩)
  have ok : HOk P w H s.heap := fun b o e => by
    obtain ⟨rfl, _, rfl⟩ := at_a e
    exact ⟨ha, by rw [List.length_map]; exact few, zs, _, zv, ha⟩
  have spaces : ∀ {b : Addr} {m : Str → Option Value}, s.heap.Ns b m → (hidT s.heap H).Ns b m := by
    rintro b m ⟨o, es, ep, e, d, rest⟩
    refine ⟨o, es, ep, hidT_get e ?_, d, rest⟩
    cases q : H b with
    | none => rfl
    | some u =>
      obtain ⟨rfl, _⟩ := at_a q
      rw [ha] at e
      cases e
      have d : Data.seq zs.toArray _ = Data.dict es ep := d
      cases d
  have still : K.In (hidT s.heap H) := by
    intro b o e
    refine hidT_get (inK b o e) (free ?_)
    by_cases hb : b = a
    · subst hb; exact .inr (by rw [e]; simp)
    · exact .inl hb
  have modul : Mod K mg (hidT s.heap H) := by
    obtain ⟨mc, n1, n2⟩ := nolim
    exact ⟨still, spaces names, ⟨mb, spaces bnames, bis⟩, mc, spaces n1, n2⟩
  have enter : Env0 P w K mg (hidT s.heap H) callerA [] s H := by
    refine ⟨rfl, modul, fun b o e => of_hidT e, Nat.le_of_eq (hidT_size _ _), trivial, ?_, ok, .of_eq nogen⟩
    intro b z
    exact absurd (show b ∈ ([] : List Addr) from z) (by simp)
  have asked : spC ⟨K, mg, w⟩ F [.ref a] H (fun v _ => v = .bl true) (fun _ _ _ => False) := by
    obtain ⟨ρ', e⟩ := math
    refine ⟨H, [.d (.scr ns)], ⟨fun _ _ h => h, rfl, ?_, ?_⟩, ?_⟩
    · intro i t e
      match i, e with
      | 0, e =>
        cases e
        refine ⟨_, rfl, .ref a, rfl, ?_⟩
        rw [Fz]
        exact ⟨a, rfl, seq⟩
    · rintro i j b ⟨_, o, z⟩ _
      match i, z with
      | 0, z => cases z
    · rw [e]
      intro u H' G' _ re _
      have re : Fz ⟨K, mg, w⟩ G' u (.bl true) := re
      rw [Fz] at re
      exact re
  refine codeAny_mono ((hF _ still (spaces names)).go callerA [] s H ⟨[.ref a], []⟩ [.ref a] [.ref a] _ _ rfl hr enter (hb s (.ref a)) (.cons rfl .nil) rfl asked) ?_
  intro r s' q
  match r, q with
  | .ok (.ret u), ⟨v, H', os, bare, un, ok', rv, ev⟩ =>
    have ev : v = .bl true := ev
    subst ev
    have rv : u = Value.bool true := rv
    subst rv
    refine ⟨rfl, OldK.of_keep ?_, os, bare⟩
    intro b o e
    cases q : H b with
    | none => exact un.keep b o e q (fun z => absurd (show b ∈ ([] : List Addr) from z) (by simp)) (by simp)
    | some u =>
      obtain ⟨rfl, _, rfl⟩ := at_a q
      rw [ha] at e
      cases e
      exact (ok' b _ (un.frzs b _ _ q)).1
end
/-- the goal behind the head, from the mirror -/
theorem walk_G {l : PySem.W.OpenLaw} {n k : Nat} {q : Program} {loose : List Str} {XP : (Str → Option Value) → Heap → Prop} {YP : World → Heap → Prop} {d : DefRec} {K : Params → PySem.W.Frag} {x : Str} {F : List S → Res E}
    (most : l.most = some n) (small : n ≤ sizeLine) (nodef : d.params.defaults = []) (room : Room k callerA) (inK : ∀ (w : World) (h : Heap), YP w h → (K w.params).In h)
    (walks : ∀ (w : World) (mg : Str → Option Value) (fa : Addr) (h : Heap), (K w.params).In h → h.Ns mainGlobals mg → mg d.name = some (.ref fa) →
      ∃ fd : FuncData, (∀ (s : Shared) (u : Value), BindsTo s fd ⟨[u], []⟩ [(x, u)]) ∧ ∀ base : Heap, (K w.params).In base → base.Ns mainGlobals mg → FnG l.prog w (K w.params) mg base CX0 k fa fd [x] F)
    (math : ∀ ns : List Int, ns.length ≤ n → ∃ ρ', F [.d (.scr ns)] = .ok (.d (.bl true)) ρ') : PySem.W.WalkO q loose XP YP l.row.toRowW d [] (fun f vs => PySem.call f vs) := by
  apply Att.attach_call most nodef
  intro w s₀ s mg mb fa o pm cd doc a zs ns G Y ho hd hcd hmg ha whole few nogen
  obtain ⟨fd, hb, hF⟩ := walks w mg fa _ (inK w _ Y) G.T.g hmg
  exact law_G (n := n) (inK w _ Y) G.T.g G.T.b G.T.builtins G.T.nolimit nogen ha whole (Nat.le_trans few small) room hF hb (math ns few)
end L2.AL
/-! AE: enumerate(a tuple). -/
namespace L2.AL
open PySem PySem.Spec PyProof.Rows
open Sem (wp)
/-- enumerate(v): its two new cells, whatever v's iterator is -/
theorem enum_new {v : Value} {o : Obj} {H : Heap → Prop} (B : Begins v o H) :
    Meets (Builtin.«enumerate.__new__» ⟨[.type "enumerate", v], []⟩) (fun _ R s => H s.heap ∧
      R (.ok (.ret (.ref (s.heap.push o).objs.size))) { s with heap := (s.heap.push o).push { cls := .type "enumerate", data := .fields #[.none, .bool false, .ref s.heap.objs.size, rawInt 0, .none, .none] } }) := by
  refine .of_wp fun prog w A R s h => ?_
  obtain ⟨hp, gs, dr, tk, os⟩ := s
  obtain ⟨h1, h⟩ := h
  have hsub := sub_enumerate
  have it : ∀ {A' : Around} {E : Value → Shared → Prop} {Q : Value → Shared → Prop}, Q (.ref hp.objs.size) ⟨hp.push o, gs, dr, tk, os⟩ → wpAny (model prog w) A' (pyIter v) Q E ⟨hp, gs, dr, tk, os⟩ := by
    intro A' E Q q
    exact B.iter prog w _ _ ⟨hp, gs, dr, tk, os⟩ _ h1 q
  wp_walk using it
  refine wpAny_stack_any fun st => wpAny_pure ?_
  split
  · rename_i c _ _ _ _ _
    cases (c == Value.type "enumerate") <;> (wp_walk using it; exact ⟨_, rfl, h⟩)
  · wp_walk using it
    exact ⟨_, rfl, h⟩
theorem call_enum {prog : Program} {w : World} {A : Around} {E : Value → Shared → Prop} {s : Shared} {v : Value} {o : Obj} {H : Heap → Prop} {Q : Value → Shared → Prop} (B : Begins v o H) (h1 : H s.heap)
    (h : ∀ h', IsEnum h' (s.heap.objs.size + 1) s.heap.objs.size 0 .none → h'.get? s.heap.objs.size = some o → (∀ b u, s.heap.get? b = some u → h'.get? b = some u) → Q (.ref (s.heap.objs.size + 1)) { s with heap := h' }) :
    wpAny (model prog w) A (call (.type "enumerate") [v]) Q E s := by
  refine callType_new F.called_enumerate (by decide) (F.typeCall_enumerate_1 _) (F.newCall_enumerate_1 _) (fun obj => F.args_object_init_2 obj _) F.entry_enumerate_new (enum_new B) ⟨h1, ?_⟩
  have size1 : (s.heap.push o).objs.size = s.heap.objs.size + 1 := Heap.size_push ..
  show _ ∧ _
  rw [size1]
  have made : IsEnum ((s.heap.push o).push { cls := .type "enumerate", data := .fields #[.none, .bool false, .ref s.heap.objs.size, rawInt 0, .none, .none] }) (s.heap.objs.size + 1) s.heap.objs.size 0 .none := by
    have q := Heap.get?_push_size (s.heap.push o) (o := { cls := .type "enumerate", data := .fields #[.none, .bool false, .ref s.heap.objs.size, rawInt 0, .none, .none] }) rfl
    rw [size1] at q
    exact q
  exact ⟨⟨_, made, rfl⟩, h _ made (Heap.get?_push_of_some _ (Heap.get?_push_size _ B.free)) fun b u q => Heap.get?_push_of_some _ (Heap.get?_push_of_some _ q)⟩
/-- the tuple at a, each item in a new pair -/
def IteT (K : PySem.W.Frag) (a : Addr) : It where
  go := fun i H => ∃ (xs : List V) (x : V), SqT K H a xs ∧ xs[i]? = some x
  yld := fun i H v H' => ∃ T x, v = .ref T ∧ H T = none ∧ H' = upd H T (.tup [.int (i : Nat), x]) ∧ ∀ xs, SqT K H a xs → xs[i]? = some x
  stop := fun i H => ∃ xs : List V, SqT K H a xs ∧ xs.length = i
theorem turn_enumT {P : Program} {w : World} {K : PySem.W.Frag} {elts : List Expr} {kk : Nat} {tpos : Pos} (a e it : Addr) (hne : e ≠ it) (hea : a ≠ e) (hia : a ≠ it) :
    Turn P w K (.Tuple elts kk tpos) (IteT K a) [e, it] e (fun i h => (∃ old, IsEnum h e it ((i : Nat) : Int) old) ∧ h.IsTupleIter it a i) where
  mem := by simp
  obj := by
    rintro i h ⟨⟨old, he⟩, ⟨o, ho, hc, hd⟩⟩ b hb
    have e' : b = e ∨ b = it := by simpa using hb
    rcases e' with rfl | rfl
    · exact ⟨_, he, fun v q => nomatch q⟩
    · exact ⟨o, ho, fun v q => by rw [hd] at q; cases q⟩
  keep := by
    rintro i h h' ⟨⟨old, he⟩, hi⟩ k
    exact ⟨⟨old, k e (by simp) _ he⟩, hi.at fun o q => k it (by simp) o q⟩
  item := by
    intro X hP hw hK hc i pins s σ H E I hf st hg
    subst hP hw hK
    obtain ⟨⟨old, he⟩, hit⟩ := st
    obtain ⟨xs, x, hq, hx⟩ := hg
    obtain ⟨its, rv, p, hz⟩ := I.tuple hq
    have hlen := rv.length
    have hlt : i < its.toArray.size := by
      have := (List.getElem?_eq_some_iff.mp hx).1
      rw [List.size_toArray]; omega
    have size_e : e < s.heap.objs.size := Heap.lt_size he
    have size_it : it < s.heap.objs.size := by
      obtain ⟨_, q, _⟩ := hit
      exact Heap.lt_size q
    have D := Draws.tuple (prog := X.prog) (w := X.w) (A := X.A.in1) (show X.A.in1.handled = none from I.ok.hd hc) it a hia its.toArray
    refine wpAny_pyNext_enum_itemD D he ⟨hit, show s.heap.IsTuple a its.toArray from p⟩ hlt hne (by simp [hne, Ne.symm hea]) ?_
    intro u h1 tk hu out st1 hT hsz hk
    obtain ⟨x', hx', ru⟩ : ∃ x', xs[i]? = some x' ∧ RelV x' u := by
      obtain ⟨u', hu', ru⟩ := rv.get hx
      have hu : its.toArray[i]? = some u := hu
      rw [List.getElem?_toArray, hu'] at hu
      cases hu
      exact ⟨x, hx, ru⟩
    rw [hx] at hx'
    cases hx'
    refine ⟨_, rfl, wpAny_letOwnedTupleGo_enum (s := { s with heap := h1, toks := tk + 1 }) out fun h2 he2 sb => ?_⟩
    have hT2 : h2.get? s.heap.objs.size = some { cls := .type "tuple", data := .seq #[.int i tk, u] } := (sb.2 _ (Nat.ne_of_gt size_e)).trans hT
    have pair : ObjOk X.prog X.w (upd H s.heap.objs.size (.tup [.int (i : Nat), x])) h2 s.heap.objs.size (.tup [.int (i : Nat), x]) :=
      ⟨by show 2 ≤ sizeLine; decide, [.int i tk, u], .cons ⟨_, rfl⟩ (.cons ru .nil), ⟨_, hT2, rfl, _, rfl⟩⟩
    have J : Inv X pins σ (upd H s.heap.objs.size (.tup [.int (i : Nat), x])) { s with heap := h2, toks := tk + 1 } := by
      refine I.turnedNew (ch := [e, it]) (fun b ob hb q => ?_) hf (Nat.le_refl _) pair
      exact (sb.2 b (fun z => hb (by simp [z]))).trans (hk b ob (fun z => hb (by simp [z])) (fun z => hb (by simp [z])) q)
    refine ⟨.ref s.heap.objs.size, _, J, rfl, ⟨_, x, rfl, I.hok.fresh (Nat.le_refl _), rfl, fun ys hy => by rw [I.tuple_inj hy hq]; exact hx⟩, ⟨⟨u, ?_⟩, st1.1.at fun o q => (sb.2 it (Ne.symm hne)).trans q⟩, fun b hb => ?_⟩
    · have e1 : ((i + 1 : Nat) : Int) = (i : Int) + 1 := by omega
      rw [e1]
      exact he2
    · have small : b < s.heap.objs.size := by
        have e' : b = e ∨ b = it := by simpa using hb
        rcases e' with rfl | rfl
        · exact size_e
        · exact size_it
      rw [upd_ne (Nat.ne_of_lt small)]
      exact (hf b hb).1
  done := by
    intro X hP hw hK hc i pins s σ H E I hf st hg
    subst hP hw hK
    obtain ⟨⟨old, he⟩, hit⟩ := st
    obtain ⟨xs, hq, hx⟩ := hg
    obtain ⟨its, rv, p, hz⟩ := I.tuple hq
    obtain ⟨f0, f1, f2, f3, f4, f5⟩ := hf it (by simp)
    have hlen := rv.length
    have D := Draws.tuple (prog := X.prog) (w := X.w) (A := X.A.in1) (show X.A.in1.handled = none from I.ok.hd hc) it a hia its.toArray
    have hi : its.toArray.size = i := by rw [List.size_toArray]; omega
    exact wpAny_pyNext_enum_endD D he (by rw [hi]; exact ⟨hit, show s.heap.IsTuple a its.toArray from p⟩) fun h' eb => ⟨rfl, I.turned (t' := s.toks) (fun b o hb q => eb b o hb q) f0 f1 f3 f4 f5⟩
  self := by
    rintro A i s Q E ⟨⟨_, he⟩, _⟩ h
    exact wpAny_pyIter_enum he h
def iEnumT (K : PySem.W.Frag) (ta : TA) : TI := fun σ H R => ta σ H fun vs H1 => ∃ a xs, vs = [.ref a] ∧ SqT K H1 a xs ∧ R (IteT K a) H1
theorem pi_enumT {X : Cx} {e : Expr} {ta : TA} {p pos tpos : Pos} {elts : List Expr} {kk : Nat} (hg : Gl X "enumerate") (hm : X.mg "enumerate" = none) (ha : PA X [e] ta) (hs : starEach [e] X.env = [(false, eval e X.env)] := by rfl) :
    PI X (.Tuple elts kk tpos) (.Call (.Name "enumerate" p) [e] [] pos) (iEnumT X.K ta) := by
  constructor
  intro pins s σ H R I h
  refine Call_ (ld_blt I hg hm boot_enumerate (PyProof.Rows.callWith_type1 (thn (ha.run pos pins s σ H _ I h) ?_) hs rfl))
  rintro us s1 ⟨vs, H1, I1, r1, a, xs, rfl, hq, q⟩
  cases r1 with
  | cons r rr =>
    cases rr
    cases r
    obtain ⟨its, rv, p', hz⟩ := I1.tuple hq
    have tup : s1.heap.IsTuple a its.toArray := p'
    have size_a : a < s1.heap.objs.size := by
      obtain ⟨o, q, _⟩ := tup
      exact Heap.lt_size q
    refine call_enum (begins_tuple a its.toArray) tup fun h' he ho hk => wpAny_pyIter_enum he ?_
    have J : Inv X pins σ H1 { s1 with heap := h' } := I1.kept (t' := s1.toks) hk
    refine ⟨s1.heap.objs.size + 1, [s1.heap.objs.size + 1, s1.heap.objs.size], _, _, H1, rfl, J, turn_enumT a (s1.heap.objs.size + 1) s1.heap.objs.size (Nat.succ_ne_self _) (Nat.ne_of_lt (Nat.lt_succ_of_lt size_a)) (Nat.ne_of_lt size_a), ⟨⟨.none, he⟩, ⟨_, ho, rfl, rfl⟩⟩, fun b hb => ?_, q⟩
    have e' : b = s1.heap.objs.size + 1 ∨ b = s1.heap.objs.size := by simpa using hb
    have old : s1.heap.objs.size ≤ b := by
      rcases e' with z | z
      · rw [z]; exact Nat.le_add_right _ _
      · rw [z]; exact Nat.le_refl _
    exact I1.fpOk old (I1.hok.fresh old)
section
variable {B : Bk} {G : Hp}
theorem walks_enumT {a : Addr} {us : List V} {xs : List D} (h : SqT B.K G a us) (f : FzL B G us xs) : WalksD B (IteT B.K a) G (enumD xs) := by
  have hl := f.length
  have hl' : (enumD xs).length = xs.length := by unfold enumD; simp
  refine ⟨fun i H G' hi s1 s2 => ?_, fun H G' s1 s2 => ?_, fun i H G' v H' hi s1 s2 y => ?_⟩
  · have hi' : i < us.length := by omega
    exact ⟨us, us[i], Same.sqt s2 (Same.sqt s1 h), by simp [hi']⟩
  · exact ⟨us, Same.sqt s2 (Same.sqt s1 h), by omega⟩
  · obtain ⟨T, q, rfl, hT, rfl, e2⟩ := y
    obtain ⟨x, e3, f1⟩ := f.get' (e2 us (Same.sqt s2 (Same.sqt s1 h)))
    exact ⟨.tup [.int i, x], _, by unfold enumD; rw [List.getElem?_mapIdx, e3]; rfl, .tup s2 hT (.cons (fz_int _) (.one (Fz.mono s1 _ _ f1)))⟩
end
def aEnumA (fs : List S → Res (List E)) : List S → Res (List D) := fun ρ => (fs ρ).bind fun vs ρ1 => match vs with
  | [v] => match keep1 v ρ1 with
    | some (.lst xs, ρ2) => .ok (enumD xs) ρ2
    | some (.tup xs, ρ2) => .ok (enumD xs) ρ2
    | _ => .no
  | _ => .no
theorem i_enumA {X : Cx} {W : WX'} {fs : List S → Res (List E)} {p pos : Pos} {a : Expr} {elts : List Expr} {kk : Nat} {tpos : Pos} (hg : Gl X "enumerate") (hm : X.mg "enumerate" = none) (ha : PAa X W [a] fs) (hs : starEach [a] X.env = [(false, eval a X.env)] := by rfl) : PIa X W (.Tuple elts kk tpos) (.Call (.Name "enumerate" p) [a] [] pos) (aEnumA fs) :=
  pi_imp (pi_or (pi_enum hg hm ha hs) (pi_enumT hg hm ha hs)) fun σ H R ⟨G, ρ, r, h⟩ => by
    unfold aEnumA at h
    cases ef : fs ρ with
    | no => rw [ef] at h; exact h.elim
    | ex x ρ' => rw [ef] at h; exact .inl ⟨G, ρ, r, by rw [ef]; exact h⟩
    | ok vs ρ1 =>
      rw [ef, Res.bind_ok] at h
      split at h
      · rename_i v
        split at h
        · rename_i xs ρ2 hk
          refine .inl ⟨G, ρ, r, ?_⟩
          rw [ef]
          intro us H' G' P
          have hl := P.len
          match us, hl, P with
          | [w], _, P =>
            obtain ⟨G2, p2, f2, _⟩ := P.keep1 hk
            rw [Fz] at f2
            obtain ⟨a, us, rfl, q1, q2⟩ := f2
            exact ⟨a, us, rfl, SqL.of (p2.post.rel.sub _ _ q1), h _ _ _ p2.post (walks_enum q1 q2)⟩
        · rename_i xs ρ2 hk
          refine .inr ⟨G, ρ, r, ?_⟩
          rw [ef]
          intro us H' G' P
          have hl := P.len
          match us, hl, P with
          | [w], _, P =>
            obtain ⟨G2, p2, f2, _⟩ := P.keep1 hk
            rw [Fz] at f2
            obtain ⟨a, us, rfl, q1, q2⟩ := f2
            exact ⟨a, us, rfl, Same.sqt p2.post.rel.sub q1, h _ _ _ p2.post (walks_enumT q1 q2)⟩
        · exact h.elim
      · exact h.elim
end L2.AL
/-! AB: list.count of flat items, len(set(ints)), dict displays. -/
namespace L2.AL
open PySem PySem.Spec PyProof.Rows
/-! ### list.count -/
def rCntF (K : PySem.W.Frag) : V → List V → Hp → VK → Prop := fun x xs H Q => ∃ (p : Addr) (ys : List V) (y : V), x = .ref p ∧ xs = [y] ∧ SqL K H p ys ∧ flatV y = true ∧ ys.all flatV = true ∧ Q (.int (ys.countP fun z => eqV z y : Nat)) H
theorem count_eqU {x : V} : ∀ {xs : List V} {us : List Value}, Vals xs us → xs.all flatV = true → us.countP (eqU x) = xs.countP fun y => eqV y x
  | _, _, .nil, _ => rfl
  | y :: xs, u :: us, .cons r t, f => by
    rw [List.all_cons, Bool.and_eq_true] at f
    rw [List.countP_cons, List.countP_cons, eqU_of r f.1, count_eqU t f.2]
theorem mt_countF {X : Cx} : MtR X "list.count" (rCntF X.K) := by
  intro pins s σ H x xs v us Q I rx rxs h
  obtain ⟨p, ys, y, rfl, rfl, hs, fy, fys, q⟩ := h
  cases rx
  obtain ⟨u, rfl, ru⟩ := rxs.one
  obtain ⟨its, rv, ⟨⟨cls, dd, data, sl⟩, n, ho, hc, hdn, hd⟩, hlen⟩ := I.list hs
  simp only at hc hd
  subst hc hd
  refine call_meets PySem.F.slot_list_count ⟨_, ho, rfl⟩ PySem.F.entry_list_count (PySem.F.args_list_count_2 _ _)
    (SeqAt.list_countAt p its.toArray n dd sl u (eqU y)) ⟨ho, fun w hw => mem_eqAt ru fy rv fys w (by simpa using hw), ?_⟩
  have e : its.toArray.toList.countP (eqU y) = ys.countP fun z => eqV z y := count_eqU rv fys
  refine ⟨.int (ys.countP fun z => eqV z y : Nat), H, I.tok _, ⟨s.toks, ?_⟩, q⟩
  show Value.int ((its.toArray.toList.countP (eqU y) : Nat) : Int) s.toks = _
  rw [e]
def gCount : D → List D → Option E
  | .lst xs, [x] => if x.flat = true ∧ xs.all D.flat = true then some (eInt (xs.countP fun y => y.eqf x : Nat)) else none
  | _, _ => none
theorem countF_v {B : Bk} {G : Hp} {x : D} {v : V} (h : Fz B G v x) (f : x.flat = true) : ∀ {ds : List D} {us : List V}, FzL B G us ds → ds.all D.flat = true → (us.countP fun z => eqV z v) = ds.countP fun y => y.eqf x
  | [], [], _, _ => rfl
  | [], _ :: _, h, _ => by rw [FzL] at h; exact h.elim
  | _ :: _, [], h, _ => by rw [FzL] at h; exact h.elim
  | d :: ds, u :: us, h1, f1 => by
    rw [FzL] at h1
    rw [List.all_cons, Bool.and_eq_true] at f1
    rw [List.countP_cons, List.countP_cons, eqf_v h1.1 h f1.1 f, countF_v h f h1.2 f1.2]
theorem tz_flat {B : Bk} {G H : Hp} {u : V} {x : D} (h : Tz B G H u x) (f : x.flat = true) : Fz B G u x := by
  cases x <;> first | exact h | cases f
theorem count_snd {B : Bk} : SndM B gCount (rCntF B.K) := by
  intro x xs v a as G H Q e s hx hxs q
  unfold gCount at e
  split at e
  · split at e
    · rename_i c
      cases e
      obtain ⟨p, us, rfl, h1, h2⟩ := hx
      obtain ⟨u, rfl, h⟩ := tzl1 hxs
      have hf := tz_flat h c.1
      refine ⟨p, us, u, rfl, rfl, SqL.of h1, flat_v hf c.1, flats_v h2 c.2, ?_⟩
      rw [countF_v hf c.1 h2 c.2]
      exact q _ _ _ (.scalar s (fz_int _))
    · cases e
  · cases e
/-! ### len(set(a list of ints)) -/
def tLenSet (K : PySem.W.Frag) (ta : TA) : TE := fun σ H Q => ta σ H fun vs H1 => ∃ (p : Addr) (ns : List Int), vs = [.ref p] ∧ SqL K H1 p (ns.map V.int) ∧ ns.length + 1 < scanBound ∧ Q (.int ((firstMet (fun i => ns.getD i 0) ns.length).length : Nat)) H1
section
variable {X : Cx} {e : Expr} {ta : TA} {p p2 pos pos2 : Pos}
theorem pe_lenset (hc : X.calm = true) (ml : X.mg "len" = none) (ms : X.mg "set" = none) (ha : PA X [e] ta) (hl : Gl X "len" := by rfl) (hs : Gl X "set" := by rfl) (st : starEach [e] X.env = (false, eval e X.env) :: starEach [] X.env := by rfl)
    (st2 : starEach [.Call (.Name "set" p2) [e] [] pos2] X.env = (false, eval (.Call (.Name "set" p2) [e] [] pos2) X.env) :: starEach [] X.env := by rfl) : PE X (.Call (.Name "len" p) [.Call (.Name "set" p2) [e] [] pos2] [] pos) (tLenSet X.K ta) := by
  constructor
  intro pins s σ H Q I h
  refine wpAny_Call_Name_kw (ld_blt I hl ml PySem.boot_len ?_ (by decide) (by decide))
  refine PyProof.Rows.callWith_builtin1 ?_ st2 rfl
  rw [st2]
  show wpAny _ _ (spliced ((false, eval (.Call (.Name "set" p2) [e] [] pos2) X.env) :: backTo pos (starEach [] X.env))) _ _ s
  refine Calls.spliced_cons ?_
  refine wpAny_Call_Name_kw (ld_blt I hs ms PyProof.Rows.boot_set ?_ (by decide) (by decide))
  refine PyProof.Rows.callWith_type1 (thn (ha.run pos2 pins s σ H _ I h) ?_) st rfl
  rintro us s1 ⟨vs, H1, I1, rv, a, ns, rfl, hq, hn, q⟩
  obtain ⟨u, rfl, ru⟩ := rv.one
  cases ru
  obtain ⟨its, ri, pl, hz⟩ := I1.list hq
  have hlen := ri.length
  rw [List.length_map] at hlen
  have whole : IntsAre its.toArray.toList ns := ints_of_vals ri
  have size_its : its.toArray.size = ns.length := by rw [List.size_toArray]; omega
  refine call_set_list (I1.ok.hd hc) pl.isList whole (by rw [size_its]; exact hn) ?_
  intro h' tk so kk
  obtain ⟨o, es, ep, t, ho, hex, hd, _, _, hb, hf, hz2⟩ := so
  refine Calls.spliced_nil ?_
  refine call_len_set (s := { s1 with heap := h', toks := tk }) ho hex hd hf (by have : es.size < 4096 := hb; omega) ?_
  have J : Inv X pins σ H1 { s1 with heap := h', toks := tk + 1 + 1 } := I1.kept fun b o e => kk b o (Heap.lt_size e) e
  refine ⟨.int ((firstMet (fun i => ns.getD i 0) ns.length).length : Nat), H1, J, ⟨tk + 1, ?_⟩, q⟩
  rw [hz2, size_its]
end
def gLenSet : List D → Option E
  | [.lst xs] => (D.ints? xs).bind fun ns => if ns.length + 1 < 4096 then some (eInt ((firstMet (fun i => ns.getD i 0) ns.length).length : Nat)) else none
  | _ => none
theorem a_lenset {X : Cx} {W : WX'} {e : Expr} {fs : List S → Res (List E)} {p p2 pos pos2 : Pos} (hc : X.calm = true) (ml : X.mg "len" = none) (ms : X.mg "set" = none) (ha : PAa X W [e] fs) (hl : Gl X "len" := by rfl) (hs : Gl X "set" := by rfl) (st : starEach [e] X.env = (false, eval e X.env) :: starEach [] X.env := by rfl)
    (st2 : starEach [.Call (.Name "set" p2) [e] [] pos2] X.env = (false, eval (.Call (.Name "set" p2) [e] [] pos2) X.env) :: starEach [] X.env := by rfl) : PEa X W (.Call (.Name "len" p) [.Call (.Name "set" p2) [e] [] pos2] [] pos) (aCall gLenSet fs) :=
  pe_imp (pe_lenset hc ml ms ha hl hs st st2) fun σ H Q h => by
    obtain ⟨G, ρ, rl, h⟩ := h
    refine liftA_mono (liftA_first rl (Aft.cl (Q := Q)) h) fun us H1 ⟨vs, ρ1, G1, P, h1⟩ => ?_
    split at h1
    · rename_i v e
      obtain ⟨xs, e1, e2⟩ := Option.bind_eq_some_iff.mp e
      unfold gLenSet at e2
      split at e2
      · obtain ⟨ns, e3, e4⟩ := Option.bind_eq_some_iff.mp e2
        split at e4
        · rename_i hn
          cases e4
          obtain ⟨u, rfl, a, ws, rfl, q1, q2⟩ := tzl1 (P.vals e1)
          rw [ints_v q2 e3] at q1
          exact ⟨a, ns, rfl, SqL.of q1, hn, h1.fin P.post (.scalar P.post.rel.sub (fz_int _))⟩
        · cases e4
      · cases e2
    · exact h1.elim
/-! ### {k: v, ..} -/
def aDict0 : List S → Res E := fun ρ => .ok (.fr (.dct [])) ρ
def kmerge (ds : List (Key × D)) : List (Key × D) → List (Key × D)
  | [] => ds
  | p :: r => kmerge (kput ds p.1 p.2) r
/-- keys that are texts, values kept -/
def aPairs : List (Str × (List S → Res E)) → List (Key × D) → List S → Res (List (Key × D))
  | [], acc, ρ => .ok acc ρ
  | (k, f) :: r, acc, ρ => (f ρ).bind fun v ρ1 => match keep1 v ρ1 with
    | some (x, ρ2) => aPairs r (acc ++ [(.inr k, x)]) ρ2
    | none => .no
def aDict (ps : List (Str × (List S → Res E))) : List S → Res E := fun ρ => (aPairs ps [] ρ).bind fun kvs ρ1 => if kvs.length ≤ 15 then .ok (.fr (.dct (kmerge [] kvs))) ρ1 else .no
section
variable {X : Cx} {W : WX'} {pos : Pos}
theorem a_dict0 : PEa X W (.Dict [] [] pos) aDict0 := pe_imp pe_dnewK fun σ H Q ⟨G, ρ, r, h⟩ => by
  intro p hp
  exact h.fin (.refl r) (.own r.sub hp ⟨[], rfl, by rw [FzK]; trivial⟩)
end
theorem mergeK_cons {us r : List (Key × V)} {p : Key × V} : mergeK us (p :: r) = mergeK (putK us p.1 p.2) r := rfl
theorem FzK.merge {B : Bk} {G : Hp} : ∀ {more : List (Key × V)} {ms : List (Key × D)} {us : List (Key × V)} {ds : List (Key × D)}, FzK B G more ms → FzK B G us ds → FzK B G (mergeK us more) (kmerge ds ms)
  | [], [], _, _, _, h => h
  | [], _ :: _, _, _, h, _ => by rw [FzK] at h; exact h.elim
  | _ :: _, [], _, _, h, _ => by rw [FzK] at h; exact h.elim
  | u :: us, d :: ds, xs, ys, h, h' => by
    rw [FzK] at h
    rw [mergeK_cons, kmerge, ← h.1]
    exact FzK.merge h.2.2 (FzK.put h.2.1 h')
def trsOf (B : Bk) (W : WX') (ps : List (Str × (List S → Res E))) : List (TE × TE) := ps.map fun p => (lift B W (aK (.str p.1)), lift B W p.2)
theorem pairs_mono {B : Bk} {W : WX'} : ∀ {ps : List (Str × (List S → Res E))} {σ : St} {H : Hp} {Q Q' : List (V × V) → Hp → Prop}, (∀ zs H, Q zs H → Q' zs H) → tPairs (trsOf B W ps) σ H Q → tPairs (trsOf B W ps) σ H Q'
  | [], _, _, _, _, w, h => w _ _ h
  | (k, f) :: r, σ, H, Q, Q', w, h => lift_mono (show lift B W (aK (.str k)) σ H _ from h) fun x H1 h1 => lift_mono (show lift B W f σ H1 _ from h1) fun y H2 h2 => pairs_mono (ps := r) (fun zs H3 h3 => w _ _ h3) h2
theorem FzK.mono' {B : Bk} {G G' : Hp} (s : Same G G') {us : List (Key × V)} {ds : List (Key × D)} (h : FzK B G us ds) : FzK B G' us ds := FzK.mono s ds us h
def stepP (r : List (Str × (List S → Res E))) (acc : List (Key × D)) (key : Str) (k : List (Key × D) → List S → Res E) (v : E) (ρ1 : List S) : Res E := match keep1 v ρ1 with
  | some (x, ρ2) => (aPairs r (acc ++ [((Sum.inr key : Key), x)]) ρ2).bind k
  | none => .no
theorem pairs_imp {B : Bk} {W : WX'} {σ : St} {ρ0 : List S} {H0 G0 : Hp} {Φ : Res E → Prop} {k : List (Key × D) → List S → Res E} {p : Addr} (cl : Cl B W σ ρ0 H0 G0 Φ) (h0 : H0 p = none) :
    ∀ (ps : List (Str × (List S → Res E))) (acc : List (Key × D)) (accV : List (Key × V)) (ρ : List S) (H G : Hp), Post B σ ρ0 H0 G0 σ ρ H G → H p = some (.dK []) → G p = none → (∀ j, ¬ Own σ ρ j p) → FzK B G accV acc →
      Φ ((aPairs ps acc ρ).bind k) → tPairs (trsOf B W ps) σ H fun zs H2 => ∃ kv2 ρ2 G2 all, Post B σ ρ0 H0 G0 σ ρ2 H2 G2 ∧ H2 p = some (.dK []) ∧ G2 p = none ∧ (∀ j, ¬ Own σ ρ2 j p) ∧ FzK B G2 (accV ++ kv2) all ∧ zs = kv2.map (fun kv => (kV kv.1, kv.2)) ∧ Φ (k all ρ2)
  | [], acc, accV, ρ, H, G, P, hp, gp, np, f, h => ⟨[], ρ, G, acc, P, hp, gp, np, by rw [List.append_nil]; exact f, rfl, h⟩
  | (key, g) :: r, acc, accV, ρ, H, G, P, hp, gp, np, f, h => by
    have c1 := cl.step P
    have h : Φ ((g ρ).bind fun v ρ1 => stepP r acc key k v ρ1) := by
      rw [aPairs] at h
      cases eg : g ρ with
      | ok v ρ2 => rw [eg, Res.bind_ok] at h; rw [Res.bind_ok]; unfold stepP; split at h <;> simp_all
      | ex e ρ2 => rw [eg] at h; exact h
      | no => rw [eg] at h; exact h
    refine ⟨G, ρ, P.rel, fun x H1 G1 p1 re1 fr1 => ?_⟩
    have ex : x = .str key := by
      have re1 : Fz B G1 x (.str key) := re1
      rw [Fz] at re1; exact re1
    have P1 : Pend B σ ρ H G ρ H1 G1 [x] [.d (.str key)] := Pend.one p1 P.rel re1 trivial
    refine lift_mono (lift_next P1 c1 h) fun y H2 ⟨v, ρ2, G2, P2, h2⟩ => ?_
    unfold stepP at h2
    split at h2
    · rename_i xd ρ3 hk
      obtain ⟨G3, P3, f3, s3⟩ := Pend.keep1 (us := []) (vs := []) (Pend.tail (us := [y]) (vs := [v]) P2) hk
      have Q3 := P3.post
      have hp3 : H2 p = some (.dK []) := Q3.frame p _ hp np
      have gp3 : G3 p = none := Q3.keep p _ hp gp np
      have np3 : ∀ j, ¬ Own σ ρ3 j p := Q3.notown hp np
      have f4 : FzK B G3 (accV ++ [((Sum.inr key : Key), y)]) (acc ++ [((Sum.inr key : Key), xd)]) := FzK.appK (FzK.mono' Q3.grow f) (by rw [FzK]; exact ⟨rfl, f3, by rw [FzK]; trivial⟩)
      refine pairs_mono ?_ (pairs_imp cl h0 r _ _ ρ3 H2 G3 (P.trans Q3) hp3 gp3 np3 f4 h2)
      rintro zs H4 ⟨kv2, ρ4, G4, all, P4, hp4, gp4, np4, f5, ez, h4⟩
      refine ⟨((Sum.inr key : Key), y) :: kv2, ρ4, G4, all, P4, hp4, gp4, np4, by simpa using f5, ?_, h4⟩
      rw [ez, ex]
      rfl
    · exact (cl.no h2).elim
theorem a_dict {X : Cx} {W : WX'} {pos : Pos} {keys : List (Option Expr)} {values : List Expr} {ps : List (Str × (List S → Res E))} (h : PPs X pos keys values (trsOf X.bk W ps)) (hall : keys.all (·.isSome) = true := by rfl) (hl : keys.length = values.length := by rfl) (h0 : keys ≠ [] := by exact List.cons_ne_nil _ _)
    (h15 : keys.length ≤ 15 := by decide) : PEa X W (.Dict keys values pos) (aDict ps) :=
  pe_imp (pe_disp h hall hl h0 h15) fun σ H Q ⟨G, ρ, r, h⟩ => by
    intro p hp
    have gp : G p = none := Same.free r.sub hp
    have np : ∀ j, ¬ Own σ ρ j p := fun j ⟨w1, o, w2⟩ => by
      obtain ⟨v, e1, a, ho, e2, e3, _⟩ := r.slot j _ w2
      rw [w1] at e1; cases e1; cases e2
      rw [hp] at e3; cases e3
    refine pairs_mono ?_ (pairs_imp (Aft.cl (Q := Q)) hp ps [] [] ρ _ G ((Post.refl r).poke hp gp np) upd_same gp np (by rw [FzK]; trivial) h)
    rintro zs H2 ⟨kv2, ρ2, G2, all, P, hp2, gp2, np2, f, ez, h2⟩
    refine ⟨hp2, kv2, ez, ?_⟩
    split at h2
    · rename_i hz
      have f' : FzK X.bk G2 kv2 all := f
      refine ⟨by rw [f'.length]; exact hz, ?_⟩
      refine h2 (.ref p) _ G2 (P.poke hp gp2 np2) ⟨p, _, rfl, upd_same, gp2, ⟨_, rfl, FzK.merge f' (by rw [FzK]; trivial)⟩, np2⟩ fun a e => by cases e; exact hp
    · exact h2.elim
end L2.AL
/-! AW: a def that may be called by its name; short forms for the printed derivations. -/
namespace L2.AL
open PySem PySem.Spec PyProof.Rows
structure DefOk (P : Program) (w : World) (K : PySem.W.Frag) (mg : Str → Option Value) (base : Heap) (x : Str) (par : List Str) (n : Nat) (F : List S → Res E) : Prop where
  ex : ∃ (a : Addr) (fd : FuncData), mg x = some (.ref a) ∧ PySem.W.keepIn K (.ref a) = true ∧ Binds K fd par [] ∧ KwB K fd par par ∧ FnG P w K mg base CX0 n a fd par F
  len : Len F par.length
theorem kwB_of {K : PySem.W.Frag} {x qual : Str} {st : Stmt} {a : Addr} {fd : FuncData} {par : List Str} (F : Fun K x qual st a fd)
    (h : ∀ (kV doc pm : Value) (an : Option Addr) (cdv ct : Value) (zs : List Value), zs.length = par.length → bindArgs (PySem.W.fnOf x qual (defArgs st) (defBody st) (defScope st) .none kV doc pm an cdv ct) ⟨[], par.zip zs⟩ = pure (par.zip zs)) : KwB K fd par par := by
  obtain ⟨oc, od, kV, doc, pm, an, cdv, ct, osl, rfl, lk, hcd⟩ := F.ex
  exact fun s zs _ hl => .of_eq (h kV doc pm an cdv ct zs hl)
section
variable {P : Program} {w : World} {K : PySem.W.Frag} {mg : Str → Option Value} {base : Heap} {n : Nat} {a : Addr} {x qual : Str} {st : Stmt} {N par : List Str} {fd : FuncData}
/-- a def none of whose exceptions leaves -/
theorem FnG.ofN {f : List S → Res Fl} (F : Fun K x qual st a fd) (S : FnScope N par (defScope st)) (np nl : Nat) (hnp : par.length = np) (hnl : N.length - np = nl)
    (hbody : ∀ (cd : Value) (A : Around) (up : List Env) (s0 : Shared) (H : Hp) (Ex : XK), (A.deeper (envOfC qual (defScope st) s0.heap.objs.size a cd)).guards = some [] → Room n (A.deeper (envOfC qual (defScope st) s0.heap.objs.size a cd)) →
      PSsa (cxOf CX0 P w K mg base N qual (defScope st) a cd A up s0 H Ex).nox (fun cls d _ H => Ex cls d H) (List.range np) (defBody st) f) :
    FnG P w K mg base CX0 (n + 1) a fd par (runF np nl f) :=
  FnG.of F S np nl hnp hnl fun cd A up s0 H Ex hg hr => (hbody cd A up s0 H Ex hg hr).nox
theorem pass0W {X : Cx} {W : WX'} : PassW CX0 X W := fun _ _ _ _ _ _ _ z => z.elim
end
section
variable {X : Cx} {W : WX'} {x : Str} {p pos : Pos} {par : List Str} {m n : Nat} {F : List S → Res E} {fs : List S → Res (List E)} {e : Expr} {es : List Expr} {kws : List Keyword}
/-- what stands around a body: no guard, room -/
structure Rm (A : Around) (n : Nat) : Prop where
  g : A.guards = some []
  r : Room n A
theorem Rm.u {A : Around} (r : Rm A n) : A.units + 64 < cLine := r.r.units
theorem Rm.u65 {A : Around} (r : Rm A n) : A.units + 65 < cLine := by have := r.r.un; omega
theorem Rm.u1 {A : Around} (r : Rm A n) : A.units + 1 < cLine := by have := r.r.un; omega
theorem c_fn (D : DefOk X.prog X.w X.K X.mg X.base x par m F) (r : Rm X.A n) (hmn : m ≤ n) (ha : PAa X W (e :: es) fs) (hg : Gl X x := by rfl) (hdb : (x == ("__debug__" : Str)) = false := by decide) (he : starEach (e :: es) X.env = (false, eval e X.env) :: starEach es X.env := by rfl) (hpl : (backTo pos (starEach es X.env)).any (·.1) = false := by rfl) :
    PEa X W (.Call (.Name x p) (e :: es) [] pos) (aFn F fs) := by
  obtain ⟨a, fd, hm, hk, hb, _, hF⟩ := D.ex
  exact a_fn (hF.mono hmn) D.len r.g r.r pass0W hm hk hb ha hg hdb he hpl
theorem c_fn0 (D : DefOk X.prog X.w X.K X.mg X.base x par m F) (r : Rm X.A n) (hmn : m ≤ n) (hg : Gl X x := by rfl) (hdb : (x == ("__debug__" : Str)) = false := by decide) : PEa X W (.Call (.Name x p) [] [] pos) (aFn F aNil) := by
  obtain ⟨a, fd, hm, hk, hb, _, hF⟩ := D.ex
  exact a_fn0 (hF.mono hmn) D.len r.g r.r pass0W hm hk hb hg hdb
theorem c_fnK (D : DefOk X.prog X.w X.K X.mg X.base x par m F) (r : Rm X.A n) (hmn : m ≤ n) (ha : PKa X W kws fs) (hall : (backToKw pos (keywordEach kws X.env)).all (·.1.isSome) = true := by rfl) (hks : (backToKw pos (keywordEach kws X.env)).filterMap (·.1) = par := by rfl)
    (hg : Gl X x := by rfl) (hdb : (x == ("__debug__" : Str)) = false := by decide) (hpl : ((backTo pos (starEach [] X.env)).any (·.1) || (backToKw pos (keywordEach kws X.env)).any (·.1.isNone)) = false := by rfl) :
    PEa X W (.Call (.Name x p) [] kws pos) (aFn F fs) := by
  obtain ⟨a, fd, hm, hk, _, hb, hF⟩ := D.ex
  exact a_fnK (hF.mono hmn) D.len r.g r.r pass0W hm hk hb ha hall hks hg hdb hpl
/-- what a table of defs by name must have -/
def TblOk (X : Cx) (n : Nat) (tbl : Str → Option (List S → Res E)) : Prop := ∀ y F, tbl y = some F → ∃ (par : List Str) (m : Nat), m ≤ n ∧ DefOk X.prog X.w X.K X.mg X.base y par m F
theorem c_fnV {i : Nat} {tbl : Str → Option (List S → Res E)} (hT : TblOk X n tbl) (r : Rm X.A n) (hN : X.N[i]? = some x) (ha : PAa X W (e :: es) fs) (hv : Vis X.env.scope x := by first | exact Or.inl rfl | exact Or.inr (Or.inl rfl) | exact Or.inr (Or.inr rfl))
    (hd : (x == ("__debug__" : Str)) = false := by decide) (hcd : (x == ("__classdict__" : Str)) = false := by decide) (he : starEach (e :: es) X.env = (false, eval e X.env) :: starEach es X.env := by rfl) (hpl : (backTo pos (starEach es X.env)).any (·.1) = false := by rfl) :
    PEa X W (.Call (.Name x p) (e :: es) [] pos) (aFnV i tbl fs) := by
  refine a_fnV (n := n) (fun y F e => ?_) r.g r.r pass0W hN ha hv hd hcd he hpl
  obtain ⟨par, m, le, D⟩ := hT y F e
  obtain ⟨a, fd, hm, hk, hb, _, hF⟩ := D.ex
  exact ⟨a, fd, par, hm, hk, hF.mono le, D.len, hb⟩
/-- a built-in type by its name -/
theorem a_ty {T : String} (hm : X.mg x = none) (hv : bootBuiltins x = some (.type T)) (hg : Gl X x := by rfl) (hn : x ≠ "__name__" := by decide) (hd : (x == ("__debug__" : Str)) = false := by decide) : PEa X W (.Name x pos) (aK (.ty T)) :=
  a_const (pe_bltn (v := .ty T) hg hm hv rfl hn hd) fun G => by rw [Fz]
theorem gc_fn {B : Bk} {x : Str} {a : Addr} (h : B.mg x = some (.ref a)) : GC B x (.fn x) := ⟨_, .ref a, h, rfl, fun G => by rw [Fz]; exact ⟨a, rfl, h⟩⟩
theorem gc_str {B : Bk} {x z : Str} {t : Tok} (h : B.mg x = some (.str z t)) : GC B x (.str z) := ⟨_, .str z, h, ⟨t, rfl⟩, fun G => by rw [Fz]⟩
theorem gc_int {B : Bk} {x : Str} {z : Int} {t : Tok} (h : B.mg x = some (.int z t)) : GC B x (.int z) := ⟨_, .int z, h, ⟨t, rfl⟩, fun G => by rw [Fz]⟩
theorem gc_tup {B : Bk} {x : Str} {a : Addr} {o : Obj} {its : List Value} {k : Nat} {ds : List D} {us : List V} (h : B.mg x = some (.ref a)) (l : B.K.lookup a = some o) (hc : o.cls = .type "tuple") (hs : o.data = .seq its.toArray k) (hz : its.length ≤ sizeLine) (rv : Vals us its) (f : ∀ G, FzL B G us ds) : GC B x (.tup ds) :=
  ⟨_, .ref a, h, rfl, fun G => by rw [Fz]; exact ⟨a, us, rfl, .inr ⟨o, its.toArray, k, l, hc, hs, by simpa using hz, by simpa using rv⟩, f G⟩⟩
end
theorem DefOk.gc {P : Program} {w : World} {K : PySem.W.Frag} {mg : Str → Option Value} {base : Heap} {x : Str} {par : List Str} {n : Nat} {F : List S → Res E} (D : DefOk P w K mg base x par n F) : GC ⟨K, mg, w⟩ x (.fn x) := by
  obtain ⟨a, fd, hm, _⟩ := D.ex
  exact gc_fn hm
/-- a comprehension, its side conditions by computation -/
def okT (t : Tg) (vs : List Nat) : Bool := t.names.all fun j => vs.contains j
theorem okT_of {t : Tg} {vs : List Nat} (h : okT t vs = true) : ∀ j, j ∈ t.names → j ∈ vs := fun j hj => by
  have := List.all_eq_true.mp h j hj
  simpa using this
def offT (t : Tg) (P : List Nat) : Bool := t.names.all fun j => !P.contains j
theorem offT_of {t : Tg} {P : List Nat} (h : offT t P = true) : ∀ j, j ∈ t.names → j ∉ P := fun j hj => by
  have := List.all_eq_true.mp h j hj
  simpa using this
def tblOf : List (Str × (List S → Res E)) → Str → Option (List S → Res E)
  | [], _ => none
  | p :: r, y => if p.1 = y then some p.2 else tblOf r y
theorem tbl_nil {X : Cx} {n : Nat} : TblOk X n (tblOf []) := fun y F e => by cases e
theorem tbl_cons {X : Cx} {n : Nat} {x : Str} {par : List Str} {m : Nat} {F : List S → Res E} {r : List (Str × (List S → Res E))} (le : m ≤ n) (D : DefOk X.prog X.w X.K X.mg X.base x par m F) (h : TblOk X n (tblOf r)) : TblOk X n (tblOf ((x, F) :: r)) := fun y G e => by
  rw [tblOf] at e
  split at e
  · rename_i q
    cases e
    have q : x = y := q
    subst q
    exact ⟨par, m, le, D⟩
  · exact h y G e
end L2.AL
/-! AH: what the head tells of the module's names. -/
namespace L2.AL
open PySem PySem.Spec PyProof.Rows
/-- the entries of a written dict by content -/
def EntOk (B : Bk) : List DictEntry → List (Str × D) → Prop
  | [], [] => True
  | e :: es, p :: ps => (∃ t, e.key = .str p.1 t) ∧ (∃ v, RelV v e.val ∧ ∀ G, Fz B G v p.2) ∧ EntOk B es ps
  | [], _ :: _ => False
  | _ :: _, [] => False
section
variable {B : Bk} {a : Addr} {n : Nat}
theorem entFind : ∀ {es : List DictEntry} {ps : List (Str × D)} {z : Str}, EntOk B es ps → ps.lookup z = none → es.find? (fun e => e.key.isStr z) = none ∧ es.any (·.refKey) = false
  | [], [], z, _, _ => ⟨rfl, rfl⟩
  | [], _ :: _, _, h, _ => h.elim
  | _ :: _, [], _, h, _ => h.elim
  | e :: es, p :: ps, z, ⟨⟨t, hk⟩, _, h⟩, hl => by
    rw [List.lookup_cons] at hl
    cases hb : z == p.1 with
    | true => rw [hb] at hl; cases hl
    | false =>
      rw [hb] at hl
      obtain ⟨h1, h2⟩ := entFind h hl
      have hne : e.key.isStr z = false := by
        rw [hk, PySem.W.isStr_of]
        unfold Value.isStrOf
        have : z ≠ p.1 := fun q => by rw [q] at hb; simp at hb
        simp [Ne.symm this, this]
      refine ⟨?_, ?_⟩
      · rw [List.find?_cons, hne]; exact h1
      · rw [List.any_cons, h2, Bool.or_false]
        unfold DictEntry.refKey
        rw [hk]
theorem entAt : ∀ {es : List DictEntry} {ps : List (Str × D)} {q : Str × D}, EntOk B es ps → (ps.map (·.1)).Nodup → q ∈ ps → ∃ e v, es.find? (fun e => e.key.isStr q.1) = some e ∧ RelV v e.val ∧ ∀ G, Fz B G v q.2
  | [], [], q, _, _, hq => by cases hq
  | [], _ :: _, _, h, _, _ => h.elim
  | _ :: _, [], _, h, _, _ => h.elim
  | e :: es, p :: ps, q, ⟨⟨t, hk⟩, ⟨v, rv, fv⟩, h⟩, nd, hq => by
    rw [List.map_cons, List.nodup_cons] at nd
    rcases List.mem_cons.mp hq with rfl | hq'
    · refine ⟨e, v, ?_, rv, fv⟩
      have : e.key.isStr q.1 = true := by
        rw [hk, PySem.W.isStr_of]
        unfold Value.isStrOf
        simp
      rw [List.find?_cons, this]
    · obtain ⟨e', v', h1, h2, h3⟩ := entAt h nd.2 hq'
      refine ⟨e', v', ?_, h2, h3⟩
      have : e.key.isStr q.1 = false := by
        rw [hk, PySem.W.isStr_of]
        unfold Value.isStrOf
        have : p.1 ≠ q.1 := fun z => nd.1 (by rw [z]; exact List.mem_map_of_mem hq')
        simp [this, Ne.symm this]
      rw [List.find?_cons, this]
      exact h1
theorem fzc_of {G : Hp} {all : List (Str × D)} {es : List DictEntry} (hl : B.K.lookup a = some ⟨.type "dict", none, .dict es.toArray n, #[]⟩) (h : EntOk B es all) (nd : (all.map (·.1)).Nodup) : ∀ ps : List (Str × D), (∀ q ∈ ps, q ∈ all) → FzC B G a ps
  | [], _ => by rw [FzC]; trivial
  | p :: ps, hp => by
    rw [FzC]
    obtain ⟨e, v, h1, h2, h3⟩ := entAt h nd (hp p List.mem_cons_self)
    refine ⟨⟨e.val, v, ?_, h2, h3 G⟩, fzc_of hl h nd ps fun q hq => hp q (List.mem_cons_of_mem _ hq)⟩
    unfold PySem.W.nsIn
    rw [hl]
    show (match es.find? (fun e => e.key.isStr p.1) with | some e => some (some e.val) | none => _) = _
    rw [h1]
theorem gc_dict {x : Str} {es : List DictEntry} {ps : List (Str × D)} (h : B.mg x = some (.ref a)) (hl : B.K.lookup a = some ⟨.type "dict", none, .dict es.toArray n, #[]⟩) (lit : PySem.W.KeysLit B.w.params es) (low : (a == sysModules) = false) (ent : EntOk B es ps) (nd : (ps.map (·.1)).Nodup) : GC B x (.cd ps) :=
  ⟨_, .ref a, h, rfl, fun G => by
    rw [Fz]
    refine ⟨a, rfl, ⟨⟨es.toArray, n, hl, by simpa using lit, low⟩, fun z hz => ?_⟩, fzc_of hl ent nd ps fun q hq => hq⟩
    obtain ⟨h1, h2⟩ := entFind ent hz
    unfold PySem.W.nsIn
    rw [hl]
    show (match es.find? (fun e => e.key.isStr z) with | some e => some (some e.val) | none => if es.any (·.refKey) then none else some none) = _
    rw [h1, h2]
    rfl⟩
/-- a written tuple of texts -/
theorem fz_ktup {ds : List D} {us : List V} {o : Obj} {its : List Value} {k : Nat} (l : B.K.lookup a = some o) (hc : o.cls = .type "tuple") (hs : o.data = .seq its.toArray k) (hz : its.length ≤ 1000) (rv : Vals us its) (f : ∀ G, FzL B G us ds) : ∀ G, Fz B G (.ref a) (.tup ds) := fun G => by
  rw [Fz]
  exact ⟨a, us, rfl, .inr ⟨o, its.toArray, k, l, hc, hs, by simpa using Nat.le_of_lt (small1000 hz), by simpa using rv⟩, f G⟩
theorem gc_of {x : Str} {v : V} {u : Value} {d : D} (h : B.mg x = some u) (r : RelV v u) (f : ∀ G, Fz B G v d) : GC B x d := ⟨u, v, h, r, f⟩
end
end L2.AL
/-! BA: zip, -x, x[::-1], sorted(set(ints)), while. -/
namespace L2.AL
open PySem PySem.Spec PyProof.Rows
/-! ### zip -/
def zipD (xs ys : List D) : List D := (xs.zip ys).map fun p => .tup [p.1, p.2]
section
variable {B : Bk} {G : Hp}
theorem zipD_len {xs ys : List D} : (zipD xs ys).length = min xs.length ys.length := by unfold zipD; simp
theorem zipD_get {xs ys : List D} {i : Nat} {x y : D} (h : xs[i]? = some x) (h' : ys[i]? = some y) : (zipD xs ys)[i]? = some (.tup [x, y]) := by
  unfold zipD
  have e : (xs.zip ys)[i]? = some (x, y) := List.getElem?_zip_eq_some.mpr ⟨h, h'⟩
  rw [List.getElem?_map, e]
  rfl
theorem walks_zipL {a b : Addr} {us ws : List V} {xs ys : List D} (h : G a = some (.lst us)) (f : FzL B G us xs) (h' : G b = some (.lst ws)) (f' : FzL B G ws ys) : WalksD B (Itz B.K a b) G (zipD xs ys) := by
  have l1 := f.length
  have l2 := f'.length
  have wz := walk_zip (K := B.K) (a := a) (b := b) (xs := us) (ys := ws) (n := (zipD xs ys).length) (by rw [zipD_len, l1, l2])
  have rd : ∀ {G' H : Hp}, Same G G' → Same G' H → SqL B.K H a us ∧ SqL B.K H b ws := fun s1 s2 => ⟨SqL.of (s2 _ _ (s1 _ _ h)), SqL.of (s2 _ _ (s1 _ _ h'))⟩
  refine ⟨fun i H G' hi s1 s2 => wz.goes i H hi (rd s1 s2), fun H G' s1 s2 => wz.stops H (rd s1 s2), fun i H G' v H' hi s1 s2 y => ?_⟩
  obtain ⟨T, p, q, rfl, hT, rfl, e1, e2⟩ := wz.yields i H v H' hi (rd s1 s2) y
  obtain ⟨x, e3, f3⟩ := f.get' e1
  obtain ⟨z, e4, f4⟩ := f'.get' e2
  exact ⟨_, _, zipD_get e3 e4, .tup s2 hT (.cons (Fz.mono s1 _ _ f3) (.one (Fz.mono s1 _ _ f4)))⟩
theorem walks_zipT {a b : Addr} {us ws : List V} {xs ys : List D} (h : SqT B.K G a us) (f : FzL B G us xs) (h' : SqT B.K G b ws) (f' : FzL B G ws ys) : WalksD B (RZ.ItzT B.K a b) G (zipD xs ys) := by
  have l1 := f.length
  have l2 := f'.length
  have ll := zipD_len (xs := xs) (ys := ys)
  have rd : ∀ {G' H : Hp}, Same G G' → Same G' H → SqT B.K H a us ∧ SqT B.K H b ws := fun s1 s2 => ⟨Same.sqt s2 (Same.sqt s1 h), Same.sqt s2 (Same.sqt s1 h')⟩
  refine ⟨fun i H G' hi s1 s2 => ?_, fun H G' s1 s2 => ?_, fun i H G' v H' hi s1 s2 y => ?_⟩
  · have i1 : i < us.length := by omega
    have i2 : i < ws.length := by omega
    exact ⟨us, ws, us[i], ws[i], (rd s1 s2).1, (rd s1 s2).2, by simp [i1], by simp [i2]⟩
  · exact ⟨us, ws, (rd s1 s2).1, (rd s1 s2).2, by omega⟩
  · obtain ⟨T, p, q, rfl, hT, rfl, e1, e2⟩ := y
    obtain ⟨x, e3, f3⟩ := f.get' (e1 us (rd s1 s2).1)
    obtain ⟨z, e4, f4⟩ := f'.get' (e2 ws (rd s1 s2).2)
    exact ⟨_, _, zipD_get e3 e4, .tup s2 hT (.cons (Fz.mono s1 _ _ f3) (.one (Fz.mono s1 _ _ f4)))⟩
end
def aZip (fs : List S → Res (List E)) : List S → Res (List D) := fun ρ => (fs ρ).bind fun vs ρ1 => match keepL vs ρ1 with
  | some ([.lst xs, .lst ys], ρ2) => .ok (zipD xs ys) ρ2
  | some ([.tup xs, .tup ys], ρ2) => .ok (zipD xs ys) ρ2
  | _ => .no
theorem i_zip {X : Cx} {W : WX'} {fs : List S → Res (List E)} {p pos : Pos} {a b : Expr} {elts : List Expr} {kk : Nat} {tpos : Pos} (hg : Gl X "zip") (hm : X.mg "zip" = none) (ha : PAa X W [a, b] fs) (hs : starEach [a, b] X.env = (false, eval a X.env) :: starEach [b] X.env := by rfl)
    (hpl : (backTo pos (starEach [b] X.env)).any (·.1) = false := by rfl) : PIa X W (.Tuple elts kk tpos) (.Call (.Name "zip" p) [a, b] [] pos) (aZip fs) :=
  pi_imp (RZ.pi_zipA hg hm ha hs hpl) fun σ H R ⟨G, ρ, r, h⟩ => by
    refine liftA_mono (liftA_first r (AftI.cl (R := R)) h) fun us H1 ⟨vs, ρ1, G1, P, h1⟩ => ?_
    split at h1
    · rename_i xs ys ρ2 hk
      obtain ⟨G2, p2, f2, _⟩ := P.keepL hk
      match us, f2 with
      | [u, w], f2 =>
        rw [FzL, FzL] at f2
        obtain ⟨f3, f4, _⟩ := f2
        rw [Fz] at f3 f4
        obtain ⟨a1, w1, rfl, q1, r1⟩ := f3
        obtain ⟨a2, w2, rfl, q2, r2⟩ := f4
        exact ⟨a1, a2, w1, w2, rfl, .inl ⟨SqL.of (p2.rel.sub _ _ q1), SqL.of (p2.rel.sub _ _ q2), h1 _ _ _ p2 (walks_zipL q1 r1 q2 r2)⟩⟩
      | [], f2 => rw [FzL] at f2; exact f2.elim
      | [_], f2 => rw [FzL, FzL] at f2; exact f2.2.elim
      | _ :: _ :: _ :: _, f2 => rw [FzL, FzL, FzL] at f2; exact f2.2.2.elim
    · rename_i xs ys ρ2 hk
      obtain ⟨G2, p2, f2, _⟩ := P.keepL hk
      match us, f2 with
      | [u, w], f2 =>
        rw [FzL, FzL] at f2
        obtain ⟨f3, f4, _⟩ := f2
        rw [Fz] at f3 f4
        obtain ⟨a1, w1, rfl, q1, r1⟩ := f3
        obtain ⟨a2, w2, rfl, q2, r2⟩ := f4
        exact ⟨a1, a2, w1, w2, rfl, .inr ⟨Same.sqt p2.rel.sub q1, Same.sqt p2.rel.sub q2, h1 _ _ _ p2 (walks_zipT q1 r1 q2 r2)⟩⟩
      | [], f2 => rw [FzL] at f2; exact f2.elim
      | [_], f2 => rw [FzL, FzL] at f2; exact f2.2.elim
      | _ :: _ :: _ :: _, f2 => rw [FzL, FzL, FzL] at f2; exact f2.2.2.elim
    · exact h1.elim
/-! ### a tuple from its end -/
section
variable {prog : Program} {w : World} {A : Around} {E : Value → Shared → Prop} {s : Shared}
theorem rev_adjust (n : Nat) : Builtin.Slice.sliceAdjust none none (-1) (n : Int) = ((n : Int) - 1, -1) := by
  unfold Builtin.Slice.sliceAdjust
  simp
theorem rev_places (n : Nat) : Builtin.Slice.slicePlaces ((n : Int) - 1) (-1) (-1) = n := by
  unfold Builtin.Slice.slicePlaces
  simp
  split <;> omega
theorem applied_rev {sl : Addr} {vl vu vk : Value} {n : Nat} {Q : Int × Int × Nat → Shared → Prop} (hs : s.heap.IsSliceOf sl vl vu vk) (pl : IsPart vl none) (pu : IsPart vu none) (pk : IsPart vk (some (-1)))
    (q : Q ((n : Int) - 1, -1, n) s) : wpAny (model prog w) A (Builtin.Slice.sliceApplied (.ref sl) (pure (n : Int))) Q E s := by
  obtain ⟨ob, he, _, hd⟩ := id hs
  unfold Builtin.Slice.sliceApplied Builtin.Slice.sliceFields
  refine wpAny_bind (wpAny_bind (wpAny_field he hd (x := vl) rfl (wpAny_bind (wpAny_field he hd (x := vu) rfl (wpAny_bind (wpAny_field he hd (x := vk) rfl (wpAny_pure ?_)))))))
  refine wpAny_bind (HT.slicePart_ pk ?_)
  show wpAny _ _ (if ((-1 : Int) == 0) = true then _ else _) _ _ s
  rw [if_neg (by decide)]
  refine wpAny_bind (HT.slicePart_ pl (wpAny_bind (HT.slicePart_ pu (wpAny_bind (wpAny_pure ?_)))))
  show wpAny _ _ (match Builtin.Slice.sliceAdjust none none (-1) (n : Int) with | (lo, hi) => pure (lo, (-1 : Int), Builtin.Slice.slicePlaces lo hi (-1))) _ _ s
  rw [rev_adjust]
  show wpAny _ _ (pure ((n : Int) - 1, (-1 : Int), Builtin.Slice.slicePlaces ((n : Int) - 1) (-1) (-1))) _ _ s
  rw [rev_places]
  exact wpAny_pure q
theorem fm_congr {α β : Type} {f g : α → Option β} : ∀ {l : List α}, (∀ a ∈ l, f a = g a) → l.filterMap f = l.filterMap g
  | [], _ => rfl
  | a :: l, h => by rw [List.filterMap_cons, List.filterMap_cons, h a List.mem_cons_self, fm_congr fun b hb => h b (List.mem_cons_of_mem _ hb)]
theorem rev_pick (xs : Array Value) : ((List.range xs.size).filterMap fun (m : Nat) => xs[(((xs.size : Nat) : Int) - 1 + (m : Int) * (-1)).toNat]?).toArray = xs.toList.reverse.toArray := by
  congr 1
  have e : ∀ m ∈ List.range xs.size, xs[(((xs.size : Nat) : Int) - 1 + (m : Int) * (-1)).toNat]? = xs.toList.reverse[m]? := fun m hm => by
    have hm := List.mem_range.mp hm
    have h1 : (((xs.size : Nat) : Int) - 1 + (m : Int) * (-1)).toNat = xs.toList.length - 1 - m := by rw [Array.length_toList]; omega
    rw [List.getElem?_reverse (by rw [Array.length_toList]; exact hm), h1, Array.getElem?_toList]
  rw [fm_congr e]
  have hl : xs.size = xs.toList.reverse.length := by simp
  generalize xs.toList.reverse = ys at hl
  rw [hl]
  have := PySem.W.krv_all ys.toArray
  simpa using this
theorem tup_rev {t sl : Addr} {items : Array Value} {vl vu vk : Value} {Q : Value → Shared → Prop} (ht : IsTup s.heap t items) (hs : s.heap.IsSliceOf sl vl vu vk) (pl : IsPart vl none) (pu : IsPart vu none) (pk : IsPart vk (some (-1)))
    (q : Q (.ref s.heap.objs.size) { s with heap := s.heap.push { cls := .type "tuple", data := .seq items.toList.reverse.toArray } }) (hz : items.size ≤ sizeLine) : wpAny (model prog w) A (getItem (.ref t) (.ref sl)) Q E s := by
  obtain ⟨ob, he, hcl, _⟩ := id hs
  have isSl : s.TypeIs (.ref sl) "slice" := ⟨ob, he, hcl⟩
  have fits : sizeOk (.seq items.toList.reverse.toArray) := by
    show items.toList.reverse.toArray.size ≤ sizeLine
    simpa using hz
  unfold getItem
  try with_reducible refine wpAny_holding ?_
  first | refine wpAny_bind (wpAny_pure ?_) | skip
  refine wpAny_bind (wpAny_sequenceKey ht.typeIs (by decide) ?_)
  refine wpAny_bind (wpAny_callSpecial?_slot (name := Str.ofString "__getitem__") ht.typeIs PyProof.Rows.slot_tuple_getitem (wpAny_call_entry PyProof.Rows.slot_tuple_getitem ht.typeIs PyProof.Rows.entry_tuple_getitem ?_ (PyProof.Rows.args_tuple_getitem _ _)))
  show wpAny _ _ (Builtin.Tuple.tupleItemsOf (.ref t) >>= _) _ _ s
  refine wpAny_bind (PyProof.Rows.tupleItemsOf_ ht (wpAny_bind (wpAny_typeOf isSl ?_)))
  rw [if_pos (by decide)]
  refine wpAny_bind (applied_rev hs pl pu pk ?_)
  have other : ¬ (((((items.size : Nat) : Int) - 1) == 0 && (-1 : Int) == 1 && items.size == items.size) = true) := by simp
  show wpAny _ _ (if ((((items.size : Nat) : Int) - 1) == 0 && (-1 : Int) == 1 && items.size == items.size) = true then _ else _) _ _ s
  rw [if_neg other, rev_pick]
  first
    | exact wpAny_bind (m := Builtin.Tuple.tupleExact _) (wpAny_newObj_type (wpAny_pure ⟨_, rfl, wpAny_pure q⟩) fits)
    | exact wpAny_bind (wpAny_bind (m := Builtin.Tuple.tupleExact _) (wpAny_newObj_type (wpAny_pure (wpAny_pure ⟨_, rfl, wpAny_pure q⟩)) fits))
    | exact wpAny_bind (wpAny_bind (m := Builtin.Tuple.tupleExact _) (wpAny_newObj_type (wpAny_pure ⟨_, rfl, wpAny_pure q⟩) fits))
end
/-! ### -x, x[::-1] -/
def Snd1 (B : Bk) (g : D → Option E) (r : V → Hp → VK → Prop) : Prop :=
  ∀ (x : D) (v : E) (a : V) (G H : Hp) (Q : VK), g x = some v → Same G H → Tz B G H a x → (∀ u H' G', New B G H u v H' G' → Q u H') → r a H Q
def aOp1 (g : D → Option E) (fa : List S → Res E) : List S → Res E := fun ρ => (fa ρ).bind fun va ρ1 => match (va.val ρ1).bind g with
  | some v => .ok v ρ1
  | none => .no
theorem op1_imp {B : Bk} {W : WX'} {g : D → Option E} {fa : List S → Res E} {r : V → Hp → VK → Prop} (sn : Snd1 B g r) (σ : St) (H : Hp) (Q : VK) (h : lift B W (aOp1 g fa) σ H Q) : tUn r (lift B W fa) σ H Q := by
  obtain ⟨G, ρ, rl, h⟩ := h
  refine lift_mono (lift_first rl (Aft.cl (Q := Q)) h) fun u1 H1 ⟨va, ρa, Ga, P1, h1⟩ => ?_
  obtain ⟨x1, ex1, rx1⟩ := P1.re 0 va rfl
  cases ex1
  split at h1
  · rename_i v hv
    obtain ⟨d, e1, e2⟩ := Option.bind_eq_some_iff.mp hv
    exact sn d v _ Ga H1 Q e2 P1.post.rel.sub (P1.post.rel.val rx1 e1) fun w H' G' n => h1.fin P1.post n
  · exact h1.elim
def gNeg : D → Option E
  | .int i => some (eInt (-i))
  | _ => none
theorem neg_snd {B : Bk} : Snd1 B gNeg (rU fun i => .int (-i)) := by
  intro x v a G H Q e s hx q
  cases x <;> simp [gNeg] at e
  subst e
  exact ⟨_, tz_int hx, q _ _ _ (.scalar s (fz_int _))⟩
theorem a_neg {X : Cx} {W : WX'} {a : Expr} {fa : List S → Res E} {pos : Pos} (ha : PEa X W a fa) : PEa X W (.UnaryOp .USub a pos) (aOp1 gNeg fa) := pe_imp (pe_un un_neg ha) (op1_imp neg_snd)
/-- a tuple or a list from its end -/
def rRevA (K : PySem.W.Frag) : V → Hp → VK → Prop := fun x H Q => ∃ a xs, x = .ref a ∧ ((SqL K H a xs ∧ ∀ p, H p = none → Q (.ref p) (upd H p (.lst xs.reverse))) ∨ (SqT K H a xs ∧ ∀ p, H p = none → Q (.ref p) (upd H p (.tup xs.reverse))))
theorem pe_revA {X : Cx} {e : Expr} {te : TE} {k : Nat} {p1 p2 p3 pos : Pos} (he : PE X e te) : PE X (.Subscript e (.Slice none none (some (.UnaryOp .USub (.Constant (.int 1) k p1) p2)) p3) pos) (tUn (rRevA X.K) te) := by
  constructor
  intro pins s σ H Q I h
  refine Subscript_ (thn (he.run pins s σ H _ I h) ?_)
  rintro v s1 ⟨x, H1, I1, r1, a, xs, rfl, q1⟩
  cases r1
  have step : PO X (some (.UnaryOp .USub (.Constant (.int 1) k p1) p2)) (tPart (tUn (rU fun i => .int (-i)) (tC (.int 1)))) := po_some (pe_un un_neg pe_int)
  refine wpAny_Slice (thn (po_none.run pins s1 σ H1 (fun o H2 => o = none ∧ H2 = H1) I1 ⟨rfl, rfl⟩) ?_)
  rintro vl s2 ⟨l, H2, I2, pl, rfl, rfl⟩
  refine thn (po_none.run pins s2 σ H2 (fun o H3 => o = none ∧ H3 = H2) I2 ⟨rfl, rfl⟩) ?_
  rintro vu s3 ⟨u, H3, I3, pu, rfl, rfl⟩
  refine thn (step.run pins s3 σ H3 (fun o H4 => o = some (-1) ∧ H4 = H3) I3 ⟨1, rfl, -1, rfl, rfl, rfl⟩) ?_
  rintro vs s4 ⟨o, H4, I4, ps, rfl, rfl⟩
  have J : Inv X pins σ H4 { s4 with heap := s4.heap.push { cls := .type "slice", data := .fields #[vl, vu, vs] } } := I4.kept (t' := s4.toks) fun b ob q => Heap.get?_push_of_some _ q
  rcases q1 with ⟨hx, q⟩ | ⟨hx, q⟩
  · obtain ⟨its, r, ht, hz⟩ := J.list hx
    have hl := r.length
    refine tail_any (ops := [.ref a, .ref s4.heap.objs.size]) ht.isList.typeIs PySem.slot_list_getitem.lookup ?_ (by with_unfolding_all rfl)
    refine wpAny_getItem_list_slice ht.isList (Heap.IsSliceOf.new _ vl vu vs) pl pu ps (by decide) ?_ (by rw [List.size_toArray]; omega)
    rw [PySem.W.krv_pick]
    have J2 := J.laid (t' := s4.toks) (o := .lst xs.reverse) (h' := (s4.heap.push { cls := .type "slice", data := .fields #[vl, vu, vs] }).push { cls := .type "list", data := .seq its.toArray.toList.reverse.toArray }) (fun b ob q => Heap.get?_push_of_some _ q) (Nat.le_refl _)
      ⟨by rw [List.length_reverse]; exact hz, _, 0, by simpa using r.reverse, Heap.get?_push_size _ rfl⟩
    exact ⟨.ref _, _, J2, rfl, q _ (J.hok.fresh (Nat.le_refl _))⟩
  · obtain ⟨its, r, ht, hz⟩ := J.tuple hx
    have hl := r.length
    refine tail_any (ops := [.ref a, .ref s4.heap.objs.size]) ht.typeIs PyProof.Rows.slot_tuple_getitem.lookup ?_ (by with_unfolding_all rfl)
    refine tup_rev ht (Heap.IsSliceOf.new _ vl vu vs) pl pu ps ?_ (by rw [List.size_toArray]; omega)
    have J2 := J.laid (t' := s4.toks) (o := .tup xs.reverse) (h' := (s4.heap.push { cls := .type "slice", data := .fields #[vl, vu, vs] }).push { cls := .type "tuple", data := .seq its.toArray.toList.reverse.toArray }) (fun b ob q => Heap.get?_push_of_some _ q) (Nat.le_refl _)
      ⟨by rw [List.length_reverse]; exact hz, _, by simpa using r.reverse, ⟨_, Heap.get?_push_size _ rfl, rfl, _, rfl⟩⟩
    exact ⟨.ref _, _, J2, rfl, q _ (J.hok.fresh (Nat.le_refl _))⟩
def gRev : D → Option E
  | .lst xs => some (.fr (.lst xs.reverse))
  | .tup xs => some (.d (.tup xs.reverse))
  | _ => none
theorem FzL.rev {B : Bk} {G : Hp} : ∀ {us : List V} {ds : List D}, FzL B G us ds → FzL B G us.reverse ds.reverse
  | [], [], h => h
  | [], _ :: _, h => by rw [FzL] at h; exact h.elim
  | _ :: _, [], h => by rw [FzL] at h; exact h.elim
  | u :: us, d :: ds, h => by
    rw [FzL] at h
    rw [List.reverse_cons, List.reverse_cons]
    exact (FzL.rev h.2).append (.one h.1)
theorem rev_snd {B : Bk} : Snd1 B gRev (rRevA B.K) := by
  intro x v a G H Q e s hx q
  cases x <;> simp only [gRev, Option.some.injEq, reduceCtorEq] at e
  · subst e
    obtain ⟨p, us, rfl, h1, h2⟩ := tz_tup hx
    exact ⟨p, us, rfl, .inr ⟨Same.sqt s h1, fun r hr => q _ _ _ (.tup s hr h2.rev)⟩⟩
  · subst e
    obtain ⟨p, us, rfl, h1, h2⟩ := hx
    exact ⟨p, us, rfl, .inl ⟨SqL.of h1, fun r hr => q _ _ _ (.own s hr ⟨_, rfl, h2.rev⟩)⟩⟩
theorem a_rev {X : Cx} {W : WX'} {e : Expr} {fa : List S → Res E} {k : Nat} {p1 p2 p3 pos : Pos} (ha : PEa X W e fa) : PEa X W (.Subscript e (.Slice none none (some (.UnaryOp .USub (.Constant (.int 1) k p1) p2)) p3) pos) (aOp1 gRev fa) :=
  pe_imp (pe_revA ha) (op1_imp rev_snd)
end L2.AL
/-! BB: while; sorted(set(ints)). -/
namespace L2.AL
open PySem PySem.Spec PyProof.Rows
/-! ### while -/
def whGo (c : List S → Res Bool) (body : List S → Res Fl) : Nat → List S → Res Fl
  | 0, _ => .no
  | n + 1, ρ => match c ρ with
    | .ok true ρ1 => (match body ρ1 with
      | .ok .nx ρ2 => whGo c body n ρ2
      | .ok .ct ρ2 => whGo c body n ρ2
      | .ok .bk ρ2 => .ok .nx ρ2
      | r => r)
    | .ok false ρ1 => .ok .nx ρ1
    | .ex e ρ1 => .ex e ρ1
    | .no => .no
/-- a while of fewer than n turns -/
def sWhile (n : Nat) (c : List S → Res Bool) (body : List S → Res Fl) : List S → Res Fl := whGo c body n
section
variable {X : Cx} {W : WX'} {P : List Nat} {ce : Expr} {body : List Stmt} {c : List S → Res Bool} {fb : List S → Res Fl} {pos : Pos}
theorem s_while (n : Nat) (hp : PassesOwn (model X.prog X.w) X.A X.env X.xe) (hc : PTa X W ce c) (hb : PSsa X W P body fb) : PSa X W P (.While ce body [] pos) (sWhile n c fb) :=
  ps_imp (ps_while hp hc hb) fun D σ H ⟨G, ρ, r, h⟩ => by
    refine ⟨fun m σi Hi => ∃ ρi Gi, Post X.bk σ ρ H G σi ρi Hi Gi ∧ Keeps P σ σi ∧ AftS X.bk W P σ ρ H G D (whGo c fb m ρi), ⟨n, ρ, G, .refl r, .refl, h⟩, ?_⟩
    rintro m σi Hi ⟨ρi, Gi, Q, K, hgo⟩
    cases m with
    | zero => exact hgo.elim
    | succ m =>
      rw [whGo] at hgo
      refine ⟨Gi, ρi, Q.rel, ?_⟩
      cases ec : c ρi with
      | no => rw [ec] at hgo; exact hgo
      | ex e ρ' => rw [ec] at hgo; exact fun cls d H' G' p rx => hgo cls d σi H' G' (Q.trans p) K rx
      | ok b ρa =>
        rw [ec] at hgo
        intro H1 G1 p1
        have Q1 := Q.trans p1
        cases b with
        | false => rw [if_neg Bool.false_ne_true]; exact hgo σi H1 G1 Q1 K
        | true =>
          rw [if_pos rfl]
          refine ⟨fun σ' H' => ∃ ρj Gj, Post X.bk σ ρ H G σ' ρj H' Gj ∧ Keeps P σ σ' ∧ AftS X.bk W P σ ρ H G D (whGo c fb m ρj), fun σ' H' q => ⟨m, Nat.lt_succ_self m, q⟩, G1, ρa, p1.rel, ?_⟩
          simp only at hgo
          cases eb : fb ρa with
          | no => rw [eb] at hgo; exact hgo
          | ex e ρ' => rw [eb] at hgo; exact aftS_go Q1 K hgo
          | ok fl ρb =>
            rw [eb] at hgo
            cases fl with
            | nx => exact fun σ' H3 G3 p3 k3 => ⟨ρb, G3, Q1.trans p3, K.trans k3, hgo⟩
            | ct => exact fun σ' H3 G3 p3 k3 => ⟨ρb, G3, Q1.trans p3, K.trans k3, hgo⟩
            | bk => exact fun σ' H3 G3 p3 k3 => hgo σ' H3 G3 (Q1.trans p3) (K.trans k3)
            | rt w => exact aftS_go Q1 K hgo
end
/-! ### sorted(set(ints)) -/
/-- the different ones, rising -/
def distI (ns : List Int) : List Int := sortI ns.eraseDups
theorem distI_mem {ns : List Int} {k : Int} : k ∈ distI ns ↔ k ∈ ns := by
  unfold distI
  rw [(sortI_perm _).mem_iff, List.mem_eraseDups]
theorem asc_unique : ∀ {as bs : List Int}, as.Pairwise (· < ·) → bs.Pairwise (· < ·) → (∀ k, k ∈ as ↔ k ∈ bs) → as = bs := by
  intro as bs h1 h2 h
  refine PySem.W.ksm_same ?_ (h1.imp fun h => Int.le_of_lt h) (h2.imp fun h => Int.le_of_lt h)
  have nd : ∀ {l : List Int}, l.Pairwise (· < ·) → l.Nodup := fun h => h.imp fun h => Int.ne_of_lt h
  exact (List.perm_ext_iff_of_nodup (nd h1) (nd h2)).mpr h
theorem dups_nodup {α : Type} [BEq α] [LawfulBEq α] : ∀ (n : Nat) (l : List α), l.length ≤ n → l.eraseDups.Nodup
  | _, [], _ => by simp
  | 0, _ :: _, h => by simp at h
  | n + 1, a :: l, h => by
    rw [List.eraseDups_cons, List.nodup_cons]
    refine ⟨fun hm => ?_, dups_nodup n _ (Nat.le_trans (List.length_filter_le _ _) (by simpa using h))⟩
    rw [List.mem_eraseDups, List.mem_filter] at hm
    simp at hm
theorem distI_asc (ns : List Int) : (distI ns).Pairwise (· < ·) := by
  have h1 := sortI_asc ns.eraseDups
  have h2 : (distI ns).Nodup := (sortI_perm _).nodup_iff.mpr (dups_nodup _ _ (Nat.le_refl _))
  unfold distI at h2 ⊢
  exact (List.pairwise_and_iff.mpr ⟨h1, h2⟩).imp fun ⟨a, b⟩ => by omega
theorem distI_of {ns as : List Int} (h : as.Pairwise (· < ·)) (h' : ∀ k, k ∈ as ↔ k ∈ ns) : as = distI ns :=
  asc_unique h (distI_asc ns) fun k => by rw [h', distI_mem]
end L2.AL
/-! BC: displays of dicts whose keys are tuples; extend, remove; max and min of a list; list(d); keywords in any order. -/
namespace L2.AL
open PySem PySem.Spec PyProof.Rows
/-! ### {}, {k: v}, keys that are tuples -/
def aDictN0 : List S → Res E := fun ρ => .ok (.fr (.dd [])) ρ
def aDictN1 (fk fv : List S → Res E) : List S → Res E := fun ρ => (fk ρ).bind fun k ρ1 => (fv ρ1).bind fun v ρ2 => match keepL [k, v] ρ2 with
  | some ([kd, x], ρ3) => match kd.keyN? with
    | some _ => .ok (.fr (.dd [(kd, x)])) ρ3
    | none => .no
  | _ => .no
section
variable {X : Cx} {W : WX'} {k v : Expr} {fk fv : List S → Res E} {pos : Pos}
theorem a_dictN0 : PEa X W (.Dict [] [] pos) aDictN0 := pe_imp pe_dictN0 fun σ H Q ⟨G, ρ, r, h⟩ p ob hp => by
  have h : Aft X.bk W σ ρ H G Q (.ok (.fr (.dd [])) ρ) := h
  exact h.fin (.refl r) (.own r.sub hp ⟨ob, [], rfl, by rw [FzD]; trivial⟩)
theorem a_dictN1 (hu : X.A.units + 64 < cLine) (hk : PEa X W k fk) (hv : PEa X W v fv) : PEa X W (.Dict [some k] [v] pos) (aDictN1 fk fv) :=
  pe_imp (pe_dictN1 hu hk hv) fun σ H Q ⟨G, ρ, r, h⟩ => by
    intro p ob hp
    have gp : G p = none := Same.free r.sub hp
    have np : ∀ j, ¬ Own σ ρ j p := fun j ⟨w1, o, w2⟩ => by
      obtain ⟨v, e1, a, ho, e2, e3, _⟩ := r.slot j _ w2
      rw [w1] at e1; cases e1; cases e2
      rw [hp] at e3; cases e3
    have p0 : Post X.bk σ ρ H G σ ρ (upd H p (dnO X.w p ob [])) G := (Post.refl r).poke hp gp np
    have P0 : Pend X.bk σ ρ (upd H p (dnO X.w p ob [])) G ρ (upd H p (dnO X.w p ob [])) G [] [] := Pend.nil p0.rel
    have cl : Cl X.bk W σ ρ (upd H p (dnO X.w p ob [])) G (Aft X.bk W σ ρ H G Q) := (Aft.cl (Q := Q)).step p0
    refine lift_mono (lift_next P0 cl h) fun u1 H1 ⟨kv, ρ1, G1, P1, h1⟩ => ?_
    refine lift_mono (lift_next P1 cl h1) fun u2 H2 ⟨vv, ρ2, G2, P2, h2⟩ => ?_
    have hp2 : H2 p = some (dnO X.w p ob []) := P2.post.frame p _ upd_same np
    have gp2 : G2 p = none := P2.post.keep p _ upd_same gp np
    have np2 : ∀ j, ¬ Own σ ρ2 j p := P2.post.notown upd_same np
    refine ⟨hp2, ?_⟩
    split at h2
    · rename_i kd x ρ3 hkl
      split at h2
      · rename_i key hkey
        -- the parts are given away; the dict itself stands apart
        have P3 : Pend X.bk σ ρ (upd H p (dnO X.w p ob [])) G ρ2 H2 G2 [u1, u2] [kv, vv] := P2
        obtain ⟨G3, p3, f3, s3⟩ := P3.keepL hkl
        have gp3 : G3 p = none := p3.keep p _ upd_same gp np
        have np3 : ∀ j, ¬ Own σ ρ3 j p := p3.notown upd_same np
        rw [FzL, FzL] at f3
        obtain ⟨fk3, fv3, _⟩ := f3
        obtain ⟨b, rfl, ka⟩ := keyN_a p3.rel.sub fk3 hkey
        obtain ⟨n1, n2⟩ := keyN_nk hkey
        refine ⟨key, b, rfl, ⟨b, rfl, ka⟩, fun ob' => ?_⟩
        have whole : Post X.bk σ ρ H G σ ρ3 H2 G3 := p0.trans p3
        have last : Post X.bk σ ρ H G σ ρ3 (upd H2 p (dnO X.w p ob' [(key, b, u2)])) G3 := whole.poke hp gp3 np3
        exact h2 (.ref p) _ G3 last ⟨p, _, rfl, upd_same, gp3, ⟨ob', _, rfl, by rw [FzD]; exact ⟨⟨n1, n2⟩, fk3, fv3, by rw [FzD]; trivial⟩⟩, np3⟩ fun a e => by cases e; exact hp
      · exact h2.elim
    · exact h2.elim
end
/-! ### extend, remove -/
def uExtend : O → List D → Option (D × O)
  | .lst xs, [.lst ys] => if xs.length + ys.length ≤ sizeLine then some (.non, .lst (xs ++ ys)) else none
  | _, _ => none
theorem extend_snd {B : Bk} : SndU B uExtend rExtend := by
  intro o xs y o' a ho us G H Q e s hH ro f q
  unfold uExtend at e
  split at e
  · rename_i xs ys
    split at e
    · rename_i hz
      cases e
      obtain ⟨zs, rfl, f1⟩ := ro
      match us, f with
      | [w], f =>
        rw [FzL, Fz] at f
        obtain ⟨⟨b, ws, rfl, h1, h2⟩, _⟩ := f
        exact ⟨a, b, zs, ws, rfl, rfl, hH, s _ _ h1, by rw [f1.length, h2.length]; exact hz, q _ _ fz_non ⟨_, rfl, f1.append h2⟩⟩
      | [], f => rw [FzL] at f; exact f.elim
      | _ :: _ :: _, f => rw [FzL, FzL] at f; exact f.2.elim
    · cases e
  · cases e
def uRemove : O → List D → Option (D × O)
  | .lst xs, [.int k] => (D.ints? xs).bind fun ns => if k ∈ ns then some (.non, .lst ((ns.erase k).map .int)) else none
  | _, _ => none
theorem erase_first {k : Int} : ∀ {ns : List Int}, k ∈ ns → ∃ j, ns[j]? = some k ∧ (∀ m, m < j → ns[m]? ≠ some k) ∧ ns.erase k = ns.eraseIdx j
  | [], h => by simp at h
  | a :: r, h => by
    by_cases e : a = k
    · subst e
      exact ⟨0, rfl, fun m hm => absurd hm (Nat.not_lt_zero _), by simp⟩
    · obtain ⟨j, h1, h2, h3⟩ := erase_first (ns := r) (by rcases List.mem_cons.mp h with h | h; exact absurd h.symm e; exact h)
      refine ⟨j + 1, by simpa using h1, fun m hm => ?_, ?_⟩
      · cases m with
        | zero => simpa using e
        | succ m => simpa using h2 m (by omega)
      · rw [List.erase_cons_tail (by simpa using e), h3]; rfl
theorem remove_snd {B : Bk} : SndU B uRemove rRemI := by
  intro o xs y o' a ho us G H Q e s hH ro f q
  unfold uRemove at e
  split at e
  · rename_i xs k
    obtain ⟨ns, e1, e2⟩ := Option.bind_eq_some_iff.mp e
    split at e2
    · rename_i hm
      cases e2
      obtain ⟨zs, rfl, f1⟩ := ro
      match us, f with
      | [w], f =>
        rw [FzL, Fz] at f
        obtain ⟨j, h1, h2, h3⟩ := erase_first hm
        rw [ints_v f1 e1] at hH
        refine ⟨a, ns, k, j, rfl, by rw [f.1], hH, h1, h2, q _ _ fz_non ⟨_, rfl, ?_⟩⟩
        rw [h3]
        exact fz_ints _
      | [], f => rw [FzL] at f; exact f.elim
      | _ :: _ :: _, f => rw [FzL, FzL] at f; exact f.2.elim
    · cases e2
  · cases e
/-! ### two rules for one built-in; max, min of a list; list(d) -/
def gAlt (g h : List D → Option E) : List D → Option E := fun xs => match g xs with
  | some v => some v
  | none => h xs
theorem SndL.or {B : Bk} {g h : List D → Option E} {r r' : List V → Hp → VK → Prop} (a : SndL B g r) (b : SndL B h r') : SndL B (gAlt g h) (fun xs H Q => r xs H Q ∨ r' xs H Q) := by
  intro xs v us G H Q e s hx q
  unfold gAlt at e
  split at e
  · rename_i w hw
    cases e
    exact .inl (a xs v us G H Q hw s hx q)
  · exact .inr (b xs v us G H Q e s hx q)
def maxI : List Int → Option Int
  | [] => none
  | n :: r => some (r.foldl max n)
def minI : List Int → Option Int
  | [] => none
  | n :: r => some (r.foldl min n)
theorem foldl_max (r : List Int) : ∀ n : Int, (n ≤ r.foldl max n ∧ ∀ y ∈ r, y ≤ r.foldl max n) ∧ (r.foldl max n = n ∨ r.foldl max n ∈ r) := by
  induction r with
  | nil => intro n; simp
  | cons a r ih =>
    intro n
    obtain ⟨⟨h1, h2⟩, h3⟩ := ih (max n a)
    rw [List.foldl_cons]
    refine ⟨⟨by omega, fun y hy => ?_⟩, ?_⟩
    · rcases List.mem_cons.mp hy with rfl | hy
      · omega
      · exact h2 y hy
    · rcases h3 with h3 | h3
      · rw [h3]
        by_cases h : a ≤ n
        · left; omega
        · right; rw [show max n a = a by omega]; exact List.mem_cons_self
      · exact .inr (List.mem_cons_of_mem _ h3)
theorem foldl_min (r : List Int) : ∀ n : Int, (r.foldl min n ≤ n ∧ ∀ y ∈ r, r.foldl min n ≤ y) ∧ (r.foldl min n = n ∨ r.foldl min n ∈ r) := by
  induction r with
  | nil => intro n; simp
  | cons a r ih =>
    intro n
    obtain ⟨⟨h1, h2⟩, h3⟩ := ih (min n a)
    rw [List.foldl_cons]
    refine ⟨⟨by omega, fun y hy => ?_⟩, ?_⟩
    · rcases List.mem_cons.mp hy with rfl | hy
      · omega
      · exact h2 y hy
    · rcases h3 with h3 | h3
      · rw [h3]
        by_cases h : n ≤ a
        · left; omega
        · right; rw [show min n a = a by omega]; exact List.mem_cons_self
      · exact .inr (List.mem_cons_of_mem _ h3)
def gMaxL : List D → Option E
  | [.lst xs] => (D.ints? xs).bind fun ns => (maxI ns).map eInt
  | _ => none
def gMinL : List D → Option E
  | [.lst xs] => (D.ints? xs).bind fun ns => (minI ns).map eInt
  | _ => none
theorem maxL_snd {B : Bk} : SndL B gMaxL (rMax B.K) := by
  intro xs v us G H Q e s hx q
  unfold gMaxL at e
  split at e
  · obtain ⟨ns, e1, e2⟩ := Option.bind_eq_some_iff.mp e
    obtain ⟨m, e3, rfl⟩ := Option.map_eq_some_iff.mp e2
    obtain ⟨u, rfl, p, ws, rfl, h1, h2⟩ := tzl1 hx
    rw [ints_v h2 e1] at h1
    cases ns with
    | nil => cases e3
    | cons n r =>
      cases e3
      obtain ⟨⟨f1, f2⟩, f3⟩ := foldl_max r n
      refine ⟨p, n :: r, rfl, SqL.of h1, by simp, fun m hm hy => ?_⟩
      have : m = r.foldl max n := by
        have a1 : r.foldl max n ≤ m := by
          rcases f3 with z | z
          · rw [z]; exact hy n List.mem_cons_self
          · exact hy _ (List.mem_cons_of_mem _ z)
        have a2 : m ≤ r.foldl max n := by
          rcases List.mem_cons.mp hm with rfl | hm
          · exact f1
          · exact f2 m hm
        omega
      rw [this]
      exact q _ _ _ (.scalar s (fz_int _))
  · cases e
theorem minL_snd {B : Bk} : SndL B gMinL (rMin B.K) := by
  intro xs v us G H Q e s hx q
  unfold gMinL at e
  split at e
  · obtain ⟨ns, e1, e2⟩ := Option.bind_eq_some_iff.mp e
    obtain ⟨m, e3, rfl⟩ := Option.map_eq_some_iff.mp e2
    obtain ⟨u, rfl, p, ws, rfl, h1, h2⟩ := tzl1 hx
    rw [ints_v h2 e1] at h1
    cases ns with
    | nil => cases e3
    | cons n r =>
      cases e3
      obtain ⟨⟨f1, f2⟩, f3⟩ := foldl_min r n
      refine ⟨p, n :: r, rfl, SqL.of h1, by simp, fun m hm hy => ?_⟩
      have : m = r.foldl min n := by
        have a1 : m ≤ r.foldl min n := by
          rcases f3 with z | z
          · rw [z]; exact hy n List.mem_cons_self
          · exact hy _ (List.mem_cons_of_mem _ z)
        have a2 : r.foldl min n ≤ m := by
          rcases List.mem_cons.mp hm with rfl | hm
          · exact f1
          · exact f2 m hm
        omega
      rw [this]
      exact q _ _ _ (.scalar s (fz_int _))
  · cases e
section
variable {X : Cx}
abbrev rMaxA (K : PySem.W.Frag) : List V → Hp → VK → Prop := fun xs H Q => (∃ i j, xs = [V.int i, V.int j] ∧ Q (.int (if j > i then j else i)) H) ∨ rMax K xs H Q
abbrev rMinA (K : PySem.W.Frag) : List V → Hp → VK → Prop := fun xs H Q => (∃ i j, xs = [V.int i, V.int j] ∧ Q (.int (if j < i then j else i)) H) ∨ rMin K xs H Q
theorem call_maxA (hc : X.calm = true) : CallR X (.builtin "max") (rMaxA X.K) := (call_max2 hc).or (cr_max hc)
theorem call_minA (hc : X.calm = true) : CallR X (.builtin "min") (rMinA X.K) := (call_min2 hc).or (cr_min hc)
theorem maxA_snd {B : Bk} : SndL B (gAlt gMax gMaxL) (rMaxA B.K) := max_snd.or maxL_snd
theorem minA_snd {B : Bk} : SndL B (gAlt gMin gMinL) (rMinA B.K) := min_snd.or minL_snd
def gListN : List D → Option E
  | [.dd kvs] => some (.fr (.lst (kvs.map (·.1))))
  | _ => none
theorem listN_snd {B : Bk} : SndL B gListN (rListN B.w) := by
  intro xs v us G H Q e s hx q
  unfold gListN at e
  split at e
  · cases e
    obtain ⟨u, rfl, p, ob, es, rfl, h1, h2⟩ := tzl1 hx
    exact ⟨p, ob, es, rfl, h1, fun l hl => q _ _ _ (.own s hl ⟨_, rfl, fzd_keys h2⟩)⟩
  · cases e
abbrev rListB (K : PySem.W.Frag) (w : World) : List V → Hp → VK → Prop := fun xs H Q => rListA K xs H Q ∨ rListN w xs H Q
theorem call_listA (hc : X.calm = true) : CallR X (.type "list") (rListB X.K X.w) := call_list_of.or (call_listN hc)
theorem listA_snd {B : Bk} : SndL B (gAlt gList gListN) (rListB B.K B.w) := list_snd.or listN_snd
end
end L2.AL
/-! BK: calls by keywords in any order. -/
namespace L2.AL
open PySem PySem.Spec PyProof.Rows
def permL {α : Type} (is : List Nat) (l : List α) : List α := is.filterMap fun i => l[i]?
theorem permL_get {α : Type} : ∀ {is : List Nat} {l : List α} {k : Nat}, (∀ i ∈ is, i < l.length) → (permL is l)[k]? = is[k]?.bind fun i => l[i]?
  | [], _, _, _ => by simp [permL]
  | i :: is, l, 0, h => by
    have hi := h i List.mem_cons_self
    simp [permL, hi]
  | i :: is, l, k + 1, h => by
    have hi := h i List.mem_cons_self
    have := permL_get (is := is) (l := l) (k := k) fun j hj => h j (List.mem_cons_of_mem _ hj)
    simpa [permL, hi] using this
theorem permL_len {α : Type} : ∀ {is : List Nat} {l : List α}, (∀ i ∈ is, i < l.length) → (permL is l).length = is.length
  | [], _, _ => by simp [permL]
  | i :: is, l, h => by
    have hi := h i List.mem_cons_self
    have := permL_len (is := is) (l := l) fun j hj => h j (List.mem_cons_of_mem _ hj)
    simpa [permL, hi] using this
theorem permL_at {α : Type} {is : List Nat} {l : List α} {k : Nat} {x : α} (h : ∀ i ∈ is, i < l.length) (e : (permL is l)[k]? = some x) : ∃ i, is[k]? = some i ∧ l[i]? = some x := by
  rw [permL_get h] at e
  exact Option.bind_eq_some_iff.mp e
theorem vals_perm {is : List Nat} {us : List V} {zs : List Value} (r : Vals us zs) (h : ∀ i ∈ is, i < us.length) : Vals (permL is us) (permL is zs) := by
  induction is with
  | nil => exact .nil
  | cons i is ih =>
    have hi := h i List.mem_cons_self
    obtain ⟨u, e1, e2⟩ := r.get (List.getElem?_eq_getElem hi)
    have q := ih fun j hj => h j (List.mem_cons_of_mem _ hj)
    have a1 : permL (i :: is) us = us[i] :: permL is us := by simp [permL, hi]
    have a2 : permL (i :: is) zs = u :: permL is zs := by simp [permL, e1]
    rw [a1, a2]
    exact .cons e2 q
theorem Pend.perm {B : Bk} {σ : St} {ρ0 ρ : List S} {H0 G0 H G : Hp} {us : List V} {vs : List E} {is : List Nat} (p : Pend B σ ρ0 H0 G0 ρ H G us vs) (nd : is.Nodup) (h : ∀ i ∈ is, i < vs.length) : Pend B σ ρ0 H0 G0 ρ H G (permL is us) (permL is vs) := by
  have h' : ∀ i ∈ is, i < us.length := fun i hi => by rw [p.len]; exact h i hi
  refine ⟨p.post, by rw [permL_len h', permL_len h], fun k v e => ?_, fun k o a e e' => ?_, fun k l o o' a e e' w w' => ?_⟩
  · obtain ⟨i, e1, e2⟩ := permL_at h e
    obtain ⟨u, e3, e4⟩ := p.re i v e2
    exact ⟨u, by rw [permL_get h', e1]; exact e3, e4⟩
  · obtain ⟨i, e1, e2⟩ := permL_at h e
    obtain ⟨j, e3, e4⟩ := permL_at h' e'
    rw [e1] at e3; cases e3
    exact p.new i o a e2 e4
  · obtain ⟨i, e1, e2⟩ := permL_at h e
    obtain ⟨j, e3, e4⟩ := permL_at h e'
    obtain ⟨i', e5, e6⟩ := permL_at h' w
    obtain ⟨j', e7, e8⟩ := permL_at h' w'
    rw [e1] at e5; cases e5
    rw [e3] at e7; cases e7
    have := p.apart i j o o' a e2 e4 e6 e8
    subst this
    have k1 : k < is.length := (List.getElem?_eq_some_iff.mp e1).1
    have l1 : l < is.length := (List.getElem?_eq_some_iff.mp e3).1
    exact (List.getElem?_inj k1 nd).mp (e1.trans e3.symm)
/-- f(k = .., ..), the arguments' places told for each parameter -/
def aFnP (is : List Nat) (F : List S → Res E) (fs : List S → Res (List E)) : List S → Res E := fun ρ => (fs ρ).bind fun vs ρ1 => if vs.length = is.length then appFn F (permL is vs) ρ1 else .no
def KwP (K : PySem.W.Frag) (fd : FuncData) (par ks : List Str) (is : List Nat) : Prop := ∀ (s : Shared) (zs : List Value), K.In s.heap → zs.length = par.length → BindsTo s fd ⟨[], ks.zip zs⟩ (par.zip (permL is zs))
section
variable {X : Cx} {W : WX'} {CX : CXT} {n : Nat} {a : Addr} {x : Str} {p pos : Pos} {fd : FuncData} {par ks : List Str} {F : List S → Res E} {fs : List S → Res (List E)} {kws : List Keyword} {is : List Nat}
theorem a_fnP (nd : is.Nodup) (hin : ∀ i ∈ is, i < is.length) (hlp : is.length = par.length) (hF : FnG X.prog X.w X.K X.mg X.base CX n a fd par F) (hL : Len F par.length) (hgd : X.A.guards = some []) (hr : Room n X.A) (hx : PassW CX X W) (hm : X.mg x = some (.ref a)) (hk : PySem.W.keepIn X.K (.ref a) = true) (hb : KwP X.K fd par ks is)
    (ha : PKa X W kws fs) (hall : (backToKw pos (keywordEach kws X.env)).all (·.1.isSome) = true := by rfl) (hks : (backToKw pos (keywordEach kws X.env)).filterMap (·.1) = ks := by rfl)
    (hg : Gl X x := by rfl) (hdb : (x == ("__debug__" : Str)) = false := by decide) (hpl : ((backTo pos (starEach [] X.env)).any (·.1) || (backToKw pos (keywordEach kws X.env)).any (·.1.isNone)) = false := by rfl) :
    PEa X W (.Call (.Name x p) [] kws pos) (aFnP is F fs) := by
  constructor
  intro pins s σ H Q I h
  obtain ⟨G, ρ, rl, h⟩ := h
  have args := liftA_first rl (Aft.cl (W := W) (Q := Q)) h
  refine wpAny_Call_Name_kw (ld_glob I hg hm ?_ hdb)
  refine PySem.W.callWith_KW0 (h₀ := X.base) I.ok.mod.kin hk hall (thn (ha.run pos pins s σ H _ I args) ?_) hpl
  rintro zs s1 ⟨us, H1, I1, rv, vs, ρ1, G1, P, h1⟩
  split at h1
  · rename_i hlen
    have hin' : ∀ i ∈ is, i < vs.length := fun i hi => by rw [hlen]; exact hin i hi
    have sp := app_imp (P.perm nd hin') h1
    have hl := hL.of sp
    have hin2 : ∀ i ∈ is, i < us.length := fun i hi => by rw [P.len]; exact hin' i hi
    have hb' := hb s1 zs I1.kIn (by rw [← rv.length, P.len, hlen, hlp])
    rw [hks]
    refine ⟨I1.kIn, wpAny_call (codeAny_mono (run_G hF hgd hr hx I1 hb' (vals_perm rv hin2) hl sp) ?_)⟩
    intro r s' q
    match r, q with
    | .error e, q => exact q
    | .ok (.ret u), q => exact q
  · exact h1.elim
/-- a def that may be called by its parameters' names in the order ks -/
structure DefKw (P : Program) (w : World) (K : PySem.W.Frag) (mg : Str → Option Value) (base : Heap) (x : Str) (par ks : List Str) (is : List Nat) (n : Nat) (F : List S → Res E) : Prop where
  ex : ∃ (a : Addr) (fd : FuncData), mg x = some (.ref a) ∧ PySem.W.keepIn K (.ref a) = true ∧ KwP K fd par ks is ∧ FnG P w K mg base CX0 n a fd par F
  len : Len F par.length
theorem kwP_of {K : PySem.W.Frag} {x qual : Str} {st : Stmt} {a : Addr} {fd : FuncData} {par ks : List Str} {is : List Nat} (F : Fun K x qual st a fd)
    (h : ∀ (kV doc pm : Value) (an : Option Addr) (cdv ct : Value) (zs : List Value), zs.length = par.length → bindArgs (PySem.W.fnOf x qual (defArgs st) (defBody st) (defScope st) .none kV doc pm an cdv ct) ⟨[], ks.zip zs⟩ = pure (par.zip (permL is zs))) : KwP K fd par ks is := by
  obtain ⟨oc, od, kV, doc, pm, an, cdv, ct, osl, rfl, lk, hcd⟩ := F.ex
  exact fun s zs _ hl => .of_eq (h kV doc pm an cdv ct zs hl)
theorem c_fnP {m : Nat} (D : DefKw X.prog X.w X.K X.mg X.base x par ks is m F) (r : Rm X.A n) (hmn : m ≤ n) (ha : PKa X W kws fs) (nd : is.Nodup := by decide) (hin : ∀ i ∈ is, i < is.length := by decide) (hlp : is.length = par.length := by rfl)
    (hall : (backToKw pos (keywordEach kws X.env)).all (·.1.isSome) = true := by rfl) (hks : (backToKw pos (keywordEach kws X.env)).filterMap (·.1) = ks := by rfl)
    (hg : Gl X x := by rfl) (hdb : (x == ("__debug__" : Str)) = false := by decide) (hpl : ((backTo pos (starEach [] X.env)).any (·.1) || (backToKw pos (keywordEach kws X.env)).any (·.1.isNone)) = false := by rfl) :
    PEa X W (.Call (.Name x p) [] kws pos) (aFnP is F fs) := by
  obtain ⟨a, fd, hm, hk, hb, hF⟩ := D.ex
  exact a_fnP nd hin hlp (hF.mono hmn) D.len r.g r.r pass0W hm hk hb ha hall hks hg hdb hpl
end
/-! ### a def that calls itself: no promise at depth none -/
theorem FnG.none {P : Program} {w : World} {K : PySem.W.Frag} {mg : Str → Option Value} {base : Heap} {CX : CXT} {n : Nat} {a : Addr} {fd : FuncData} {par : List Str} : FnG P w K mg base CX n a fd par (fun _ => .no) :=
  ⟨fun A up s0 H given zs us Q Ex hgd hr e0 hb rv hlen h => by obtain ⟨G, ρ, r, h⟩ := h; exact h.elim⟩
theorem Len.none {k : Nat} : Len (fun _ => .no) k := fun ρ h => absurd rfl h
end L2.AL
/-! BS: dicts in a list that are changed by an alias: cells (objects that no slot owns), a for loop with an invariant of one's own, list.append of a new cell,
a store by two targets. -/
namespace L2.AL
open PySem PySem.Spec PyProof.Rows
/-! ### what a slot owns is given to nobody, and taken back -/
section
variable {B : Bk} {W : WX'} {σ0 σ σ' : St} {ρ0 ρ ρ' : List S} {H0 G0 H G H' G' : Hp}
/-- the dict at a stands as a cell: no slot owns it -/
structure CellOk (B : Bk) (H0 : Hp) (σ : St) (ρ : List S) (H G : Hp) (a : Addr) (c : List (Key × D)) : Prop where
  obj : ∃ kvs, H a = some (.dK kvs) ∧ FzK B G kvs c
  new : H0 a = none
  loose : G a = none
  free : ∀ i, ¬ Own σ ρ i a
theorem CellOk.post {a : Addr} {c : List (Key × D)} (h : CellOk B H0 σ ρ H G a c) (p : Post B σ ρ H G σ' ρ' H' G') : CellOk B H0 σ' ρ' H' G' a c := by
  obtain ⟨kvs, e, f⟩ := h.obj
  exact ⟨⟨kvs, p.frame a _ e h.free, FzK.mono p.grow _ _ f⟩, h.new, p.keep a _ e h.loose h.free, p.notown e h.free⟩
/-- slots are forgotten -/
theorem Post.forget (p : Post B σ0 ρ0 H0 G0 σ ρ H G) (hl : ρ'.length = ρ.length) (h : ∀ (i : Nat) (s : S), ρ'[i]? = some s → s = S.no ∨ ρ[i]? = some s) : Post B σ0 ρ0 H0 G0 σ ρ' H G := by
  have ow : ∀ i a, Own σ ρ' i a → Own σ ρ i a := fun i a ⟨w1, o, w2⟩ => by
    rcases h i _ w2 with z | z
    · cases z
    · exact ⟨w1, o, z⟩
  refine ⟨p.grow, p.dom, p.frame, p.keep, ⟨p.rel.sub, by rw [p.rel.len, hl], fun i s e => ?_, fun i j a w1 w2 => p.rel.sep i j a (ow i a w1) (ow j a w2)⟩, fun i a w => p.own i a (ow i a w)⟩
  rcases h i s e with rfl | z
  · have hi : i < σ.length := by rw [p.rel.len, ← hl]; exact (List.getElem?_eq_some_iff.mp e).1
    exact ⟨σ[i], List.getElem?_eq_getElem hi, trivial⟩
  · exact p.rel.slot i s z
theorem Own.forget {j : Nat} {i : Nat} {a : Addr} (h : Own σ (ρ.set j .no) i a) : Own σ ρ i a ∧ i ≠ j := by
  obtain ⟨w1, o, w2⟩ := h
  by_cases hj : j = i
  · subst hj
    have hl : j < ρ.length := by have := (List.getElem?_eq_some_iff.mp w2).1; rwa [List.length_set] at this
    rw [List.getElem?_set_self hl] at w2; cases w2
  · rw [List.getElem?_set_ne hj] at w2
    exact ⟨⟨w1, o, w2⟩, fun z => hj z.symm⟩
theorem Post.drop1 {j : Nat} (p : Post B σ0 ρ0 H0 G0 σ ρ H G) : Post B σ0 ρ0 H0 G0 σ (ρ.set j .no) H G :=
  p.forget (by rw [List.length_set]) fun i s e => by
    by_cases hj : j = i
    · subst hj
      by_cases hl : j < ρ.length
      · rw [List.getElem?_set_self hl] at e; cases e; exact .inl rfl
      · rw [List.set_eq_of_length_le (by omega)] at e; exact .inr e
    · rw [List.getElem?_set_ne hj] at e; exact .inr e
/-- a slot takes a cell -/
theorem Post.adopt {j : Nat} {a : Addr} {c : List (Key × D)} (p : Post B σ0 ρ0 H0 G0 σ ρ H G) (h : CellOk B H0 σ ρ H G a c) (hj : j < ρ.length) (hs : σ[j]? = some (some (.ref a))) : Post B σ0 ρ0 H0 G0 σ (ρ.set j (.own (.dct c))) H G := by
  have ow : ∀ i b, Own σ (ρ.set j (.own (.dct c))) i b → (i = j ∧ b = a) ∨ (i ≠ j ∧ Own σ ρ i b) := fun i b ⟨w1, o, w2⟩ => by
    by_cases e : j = i
    · subst e
      rw [hs] at w1; cases w1
      exact .inl ⟨rfl, rfl⟩
    · rw [List.getElem?_set_ne e] at w2
      exact .inr ⟨fun z => e z.symm, w1, o, w2⟩
  obtain ⟨kvs, e1, f1⟩ := h.obj
  refine ⟨p.grow, p.dom, p.frame, p.keep, ⟨p.rel.sub, by rw [p.rel.len, List.length_set], fun i s e => ?_, fun i k b w1 w2 => ?_⟩, fun i b w => ?_⟩
  · by_cases ei : j = i
    · subst ei
      rw [List.getElem?_set_self hj] at e
      cases e
      exact ⟨_, hs, a, _, rfl, e1, h.loose, kvs, rfl, f1⟩
    · rw [List.getElem?_set_ne ei] at e
      exact p.rel.slot i s e
  · rcases ow i b w1 with ⟨rfl, rfl⟩ | ⟨n1, z1⟩ <;> rcases ow k _ w2 with ⟨rfl, e2⟩ | ⟨n2, z2⟩
    · rfl
    · exact absurd z2 (h.free k)
    · exact absurd (e2 ▸ z1) (h.free i)
    · exact p.rel.sep i k b z1 z2
  · rcases ow i b w with ⟨rfl, rfl⟩ | ⟨_, z⟩
    · exact .inr h.new
    · exact p.own i b z
/-- a slot that owns a dict gives it back -/
theorem CellOk.release {j : Nat} {a : Addr} {c : List (Key × D)} (p : Rel B G σ ρ H) (hj : ρ[j]? = some (.own (.dct c))) (hs : σ[j]? = some (some (.ref a))) (hn : H0 a = none) : CellOk B H0 σ (ρ.set j .no) H G a c := by
  obtain ⟨v, e1, a', ho, e2, e3, e4, kvs, e5, f⟩ := p.slot j _ hj
  rw [hs] at e1; cases e1; cases e2
  subst e5
  refine ⟨⟨kvs, e3, f⟩, hn, e4, fun i w => ?_⟩
  obtain ⟨w1, n⟩ := w.forget
  exact n (p.sep i j a w1 ⟨hs, _, hj⟩)
/-- other cells, while a slot takes one of them -/
theorem CellOk.other {j : Nat} {a b : Addr} {o : O} {c : List (Key × D)} (h : CellOk B H0 σ ρ H G a c) (hs : σ[j]? = some (some (.ref b))) (ne : a ≠ b) : CellOk B H0 σ (ρ.set j (.own o)) H G a c :=
  ⟨h.obj, h.new, h.loose, fun i ⟨w1, o', w2⟩ => by
    by_cases e : j = i
    · subst e
      rw [hs] at w1; cases w1
      exact ne rfl
    · rw [List.getElem?_set_ne e] at w2
      exact h.free i ⟨w1, o', w2⟩⟩
theorem CellOk.drop1 {j : Nat} {a : Addr} {c : List (Key × D)} (h : CellOk B H0 σ ρ H G a c) : CellOk B H0 σ (ρ.set j .no) H G a c :=
  ⟨h.obj, h.new, h.loose, fun i w => h.free i w.forget.1⟩
/-- cells by a list of addresses -/
structure Cells (B : Bk) (H0 : Hp) (σ : St) (ρ : List S) (H G : Hp) (as : List Addr) (cs : List (List (Key × D))) : Prop where
  len : as.length = cs.length
  nd : as.Nodup
  ok : ∀ (k : Nat) (a : Addr) (c : List (Key × D)), as[k]? = some a → cs[k]? = some c → CellOk B H0 σ ρ H G a c
theorem Cells.post {as : List Addr} {cs : List (List (Key × D))} (h : Cells B H0 σ ρ H G as cs) (p : Post B σ ρ H G σ' ρ' H' G') : Cells B H0 σ' ρ' H' G' as cs :=
  ⟨h.len, h.nd, fun k a c e1 e2 => (h.ok k a c e1 e2).post p⟩
theorem Cells.drop1 {as : List Addr} {cs : List (List (Key × D))} {j : Nat} (h : Cells B H0 σ ρ H G as cs) : Cells B H0 σ (ρ.set j .no) H G as cs :=
  ⟨h.len, h.nd, fun k a c e1 e2 => (h.ok k a c e1 e2).drop1⟩
theorem Cells.nil : Cells B H0 σ ρ H G [] [] := ⟨rfl, List.nodup_nil, fun k a c e => by simp at e⟩
theorem Cells.snoc {as : List Addr} {cs : List (List (Key × D))} {a : Addr} {c : List (Key × D)} (h : Cells B H0 σ ρ H G as cs) (hc : CellOk B H0 σ ρ H G a c) (hn : a ∉ as) : Cells B H0 σ ρ H G (as ++ [a]) (cs ++ [c]) :=
  ⟨by simp [h.len], List.nodup_append.mpr ⟨h.nd, by simp, fun x hx y hy => by simp at hy; subst hy; exact fun z => hn (z ▸ hx)⟩, fun k b d e1 e2 => by
    rcases getElem?_snoc e1 with e1 | ⟨k1, rfl⟩ <;> rcases getElem?_snoc e2 with e2 | ⟨k2, rfl⟩
    · exact h.ok k b d e1 e2
    · have := (List.getElem?_eq_some_iff.mp e1).1; have := h.len; omega
    · have := (List.getElem?_eq_some_iff.mp e2).1; have := h.len; omega
    · exact hc⟩
/-- the k-th is taken by slot j, changed, and given back -/
theorem Cells.back {as : List Addr} {cs : List (List (Key × D))} {j k : Nat} {a : Addr} {c c' : List (Key × D)} (h : Cells B H0 σ ρ H G as cs) (ha : as[k]? = some a) (hc : cs[k]? = some c) (hs : σ[j]? = some (some (.ref a)))
    (p : Post B σ (ρ.set j (.own (.dct c))) H G σ' ρ' H' G') (hj : ρ'[j]? = some (.own (.dct c'))) (hk : σ'[j]? = σ[j]?) : Cells B H0 σ' (ρ'.set j .no) H' G' as (cs.set k c') := by
  refine ⟨by rw [List.length_set, h.len], h.nd, fun m b d e1 e2 => ?_⟩
  by_cases hm : k = m
  · subst hm
    rw [ha] at e1; cases e1
    rw [List.getElem?_set_self (List.getElem?_eq_some_iff.mp hc).1] at e2
    cases e2
    exact .release p.rel hj (by rw [hk, hs]) (h.ok k a c ha hc).new
  · rw [List.getElem?_set_ne hm] at e2
    have ne : b ≠ a := fun z => by
      subst z
      obtain ⟨h1, h2⟩ := List.getElem?_eq_some_iff.mp ha
      obtain ⟨h3, h4⟩ := List.getElem?_eq_some_iff.mp e1
      have pw := List.pairwise_iff_getElem.mp h.nd
      rcases Nat.lt_or_gt_of_ne hm with l | l
      · exact pw k m h1 h3 l (h2.trans h4.symm)
      · exact pw m k h3 h1 l (h4.trans h2.symm)
    exact (((h.ok m b d e1 e2).other hs ne).post p).drop1
/-- all the cells stand still from now on -/
theorem Cells.freeze {as : List Addr} : ∀ {cs : List (List (Key × D))} {G : Hp}, Cells B H0 σ ρ H G as cs → Post B σ0 ρ0 H0 G0 σ ρ H G →
    ∃ G', Post B σ0 ρ0 H0 G0 σ ρ H G' ∧ FzL B G' (as.map V.ref) (cs.map D.dct) ∧ Same G G' ∧ ∀ b, b ∉ as → G b = none → G' b = none := by
  induction as with
  | nil =>
    intro cs G h p
    match cs, h.len with
    | [], _ => exact ⟨G, p, .nil, .refl _, fun _ _ g => g⟩
  | cons a as ih =>
    intro cs G h p
    match cs, h.len with
    | c :: cs, hl =>
      have hc := h.ok 0 a c rfl rfl
      obtain ⟨kvs, e1, f1⟩ := hc.obj
      have sg : Same G (upd G a (.dK kvs)) := upd_self_same hc.loose
      have nd := List.nodup_cons.mp h.nd
      have p1 : Post B σ0 ρ0 H0 G0 σ ρ H (upd G a (.dK kvs)) := by
        refine ⟨p.grow.trans sg, p.dom, p.frame, fun b u e g n => ?_, ⟨fun b u e => ?_, p.rel.len, fun i s e => ?_, p.rel.sep⟩, p.own⟩
        · rw [upd_ne (fun z => by rw [z, hc.new] at e; cases e)]; exact p.keep b u e g n
        · by_cases hb : b = a
          · subst hb; rw [upd_same] at e; cases e; exact e1
          · rw [upd_ne hb] at e; exact p.rel.sub b u e
        · obtain ⟨v, z1, z2⟩ := p.rel.slot i s e
          refine ⟨v, z1, ?_⟩
          cases s with
          | no => trivial
          | d y => obtain ⟨w, q1, q2⟩ := z2; exact ⟨w, q1, Fz.mono sg _ _ q2⟩
          | own o =>
            obtain ⟨b, ob, q1, q2, q3, q4⟩ := z2
            subst q1
            refine ⟨b, ob, rfl, q2, ?_, q4.mono sg⟩
            rw [upd_ne fun z => hc.free i ⟨by rw [z1, z], o, e⟩]
            exact q3
      have h1 : Cells B H0 σ ρ H (upd G a (.dK kvs)) as cs := ⟨by simpa using hl, nd.2, fun k b d e2 e3 => by
        have z := h.ok (k + 1) b d (by simpa using e2) (by simpa using e3)
        obtain ⟨ks, o1, o2⟩ := z.obj
        refine ⟨⟨ks, o1, FzK.mono sg _ _ o2⟩, z.new, ?_, z.free⟩
        rw [upd_ne fun q => nd.1 (by rw [← q]; exact List.mem_of_getElem? e2)]
        exact z.loose⟩
      obtain ⟨G', p2, f2, s2, k2⟩ := ih h1 p1
      refine ⟨G', p2, .cons ?_ f2, sg.trans s2, fun b hb g => k2 b (fun z => hb (List.mem_cons_of_mem _ z)) (by rw [upd_ne fun z => hb (by rw [z]; exact List.mem_cons_self)]; exact g)⟩
      rw [Fz]
      exact ⟨a, kvs, rfl, s2 _ _ upd_same, FzK.mono (sg.trans s2) _ _ f1⟩
end
/-! ### for, with an invariant of one's own -/
section
variable {X : Cx} {W : WX'} {P : List Nat} {tg iter : Expr} {body : List Stmt} {it : List S → Res (List D)} {t : Tg} {tb : TS} {pos : Pos}
/-- J: what stands before the i-th turn, besides that the slots' contents fit -/
def tForI (B : Bk) (P : List Nat) (it : List S → Res (List D)) (t : Tg) (tb : TS) : TS := fun D σ H => ∃ G ρ xs ρ1, Rel B G σ ρ H ∧ it ρ = .ok xs ρ1 ∧ ∀ H1 G1, Post B σ ρ H G σ ρ1 H1 G1 →
  ∃ J : Nat → St → List S → Hp → Hp → Prop, J 0 σ ρ1 H1 G1 ∧
    (∀ i σi ρi Hi Gi, i = xs.length → Post B σ ρ1 H1 G1 σi ρi Hi Gi → Keeps P σ σi → J i σi ρi Hi Gi → D.nx σi Hi) ∧
    (∀ i x σi ρi Hi Gi, xs[i]? = some x → Post B σ ρ1 H1 G1 σi ρi Hi Gi → Keeps P σ σi → J i σi ρi Hi Gi → ∃ ρa, tset t x ρi = some ρa ∧
      ∀ σ2 H2 G2, Post B σi ρi Hi Gi σ2 ρa H2 G2 → Keeps P σi σ2 →
        tb { D with nx := fun σ' H' => ∃ ρ' G', Post B σ ρ1 H1 G1 σ' ρ' H' G' ∧ Keeps P σ σ' ∧ J (i + 1) σ' ρ' H' G', ct := fun σ' H' => ∃ ρ' G', Post B σ ρ1 H1 G1 σ' ρ' H' G' ∧ Keeps P σ σ' ∧ J (i + 1) σ' ρ' H' G', bk := D.nx } σ2 H2)
theorem s_forI (hp : PassesOwn (model X.prog X.w) X.A X.env X.xe) (hc : X.calm = true) (hi : PIa X W tg iter it) (hg : PG X tg (gD X.bk t)) (hb : PSs X body tb) (hP : ∀ j, j ∈ t.names → j ∉ P)
    (hs : ∀ x, foldedSetIterable iter X.env x = pure x := by intro _; rfl) : PS X (.For tg iter body [] pos) (tForI X.bk P it t tb) :=
  ps_imp (ps_for hp hc hi hg hb hs) fun D σ H ⟨G, ρ, xs, ρ1, r, ei, h⟩ => by
    refine ⟨G, ρ, r, ?_⟩
    rw [ei]
    intro J H1 G1 p1 wk
    obtain ⟨K, k0, kEnd, kGo⟩ := h H1 G1 p1
    refine ⟨fun i m σi Hi => m = xs.length - i ∧ i ≤ xs.length ∧ ∃ ρi Gi, Post X.bk σ ρ1 H1 G1 σi ρi Hi Gi ∧ Keeps P σ σi ∧ K i σi ρi Hi Gi, ⟨xs.length, by simp, Nat.zero_le _, ρ1, G1, .refl p1.rel, .refl, k0⟩, ?_⟩
    rintro i m σi Hi ⟨rfl, hi, ρi, Gi, Q, Kp, hK⟩
    by_cases hlt : i < xs.length
    · refine .inr ⟨wk.go i Hi Gi hlt Q.grow Q.rel.sub, fun σ' H' => ∃ ρ' G', Post X.bk σ ρ1 H1 G1 σ' ρ' H' G' ∧ Keeps P σ σ' ∧ K (i + 1) σ' ρ' H' G',
        fun σ' H' q => ⟨xs.length - (i + 1), by omega, rfl, hlt, q⟩, fun v H' y => ?_⟩
      obtain ⟨x, G2, ex, nw⟩ := wk.yld i Hi Gi v H' hlt Q.grow Q.rel.sub y
      obtain ⟨q1, re, _⟩ := nw.post (Post.refl Q.rel)
      have re : Fz X.bk G2 v x := re
      obtain ⟨ρa, ea, z⟩ := kGo i x σi ρi Hi Gi ex Q Kp hK
      refine ⟨G2, ρi, x, ρa, q1.rel, re, ea, fun σ2 p2 k2 => ?_⟩
      exact z σ2 _ G2 (q1.trans p2) fun j hj => k2 j fun y => hP j y hj
    · have e : i = xs.length := by omega
      exact .inl ⟨by subst e; exact wk.stop Hi Gi Q.grow Q.rel.sub, kEnd i σi ρi Hi Gi e Q Kp hK⟩
end
/-! ### list.append of a new dict, which becomes a cell -/
section
variable {X : Cx} {W : WX'} {P : List Nat} {x : Str} {i : Nat} {e : Expr} {f : List S → Res E} {apos cpos npos pos : Pos}
def tAppCell (B : Bk) (i : Nat) (f : List S → Res E) : TS := fun D σ H => ∃ G ρ xs kvs ρ1, Rel B G σ ρ H ∧ ρ[i]? = some (.own (.lst xs)) ∧ xs.length < sizeLine ∧ f ρ = .ok (.fr (.dct kvs)) ρ1 ∧ ρ1[i]? = some (.own (.lst xs)) ∧
  ∀ c H' G', Post B σ ρ H G σ (ρ1.set i (.own (.lst (xs ++ [.raw (.ref c)])))) H' G' → H c = none → (∃ kk, H' c = some (.dK kk) ∧ FzK B G' kk kvs) → G' c = none →
    (∀ j, ¬ Own σ (ρ1.set i (.own (.lst (xs ++ [.raw (.ref c)])))) j c) → D.nx σ H'
theorem s_appCell (hN : X.N[i]? = some x) (ha : PAa X W [e] (aCons f aNil)) (hv : Vis X.env.scope x := by first | exact Or.inl rfl | exact Or.inr (Or.inl rfl) | exact Or.inr (Or.inr rfl))
    (hd : (x == ("__debug__" : Str)) = false := by decide) (hcd : (x == ("__classdict__" : Str)) = false := by decide) (hbase : attributeBase (.Name x npos) "append" X.env (eval (.Name x npos) X.env) = eval (.Name x npos) X.env := by rfl)
    (hfew : ((backTo cpos (starEach [e] X.env)).all (fun x => !x.1) && (backToKw cpos (keywordEach [] X.env)).all (fun x => x.1.isSome)
      && decide ([e].length + ([] : List Keyword).length + (if ([] : List Keyword).isEmpty then 0 else 1) < 30)) = true := by rfl)
    (hline : (apos.endLine == cpos.line) = true := by rfl) (hs : starEach [e] X.env = (false, eval e X.env) :: starEach [] X.env := by rfl) (hplain : (backTo cpos (starEach [] X.env)).any (·.1) = false := by rfl)
    (hsw : swapsWith (.Call (.Attribute (.Name x npos) "append" apos) [e] [] cpos) none pos.line X.env = pure false := by rfl) :
    PS X (.Expr (.Call (.Attribute (.Name x npos) "append" apos) [e] [] cpos) pos) (tAppCell X.bk i f) :=
  ps_imp (ps_expr (pe_bm PySem.F.plainAttrs_list PySem.F.slot_list_append PySem.F.type_list_append mt_append (a_var (W := W) i hN hv hd hcd) ha hbase hfew hline hs hplain) hsw) fun D σ H ⟨G, ρ, xs, kvs, ρ1, rl, ho0, hz, ef, ho1, h⟩ => by
    refine ⟨G, ρ, rl, ?_⟩
    unfold aVar
    rw [ho0]
    intro u H1 G1 p1 re1 fr1
    have re1 : σ[i]? = some (some u) := re1
    refine ⟨tyV_own p1.rel re1 ho0 rfl, ?_⟩
    have P0 : Pend X.bk σ ρ H G ρ H1 G1 [u] [.sl i] := Pend.one p1 rl re1 trivial
    refine ⟨G1, ρ, p1.rel, ?_⟩
    have ef2 : aCons f aNil ρ = .ok [.fr (.dct kvs)] ρ1 := by unfold aCons; rw [ef]; rfl
    rw [ef2]
    intro us H2 G2 Pd
    match us, Pd.len with
    | [w], _ =>
      have P2 := P0.append Pd
      obtain ⟨w', ew, cw⟩ := P2.re 1 _ rfl
      cases ew
      obtain ⟨c, ho, rfl, c1, c2, ⟨kk, rfl, fk⟩, c4⟩ := cw
      have cn : H c = none := P2.new 1 _ c rfl rfl
      obtain ⟨v, e1, a, hob, e2, e3, e4, zs, rfl, f5⟩ := P2.post.rel.slot i _ ho1
      rw [re1] at e1; cases e1; cases e2
      have nac : c ≠ a := fun z => by subst z; exact c4 i ⟨re1, _, ho1⟩
      have pp := mut_post (o' := .lst (xs ++ [.raw (.ref c)])) (ho := .lst (zs ++ [.ref c])) P2.post re1 ho1 ⟨_, rfl, f5.append (.one (by rw [Fz]))⟩
      refine ⟨a, zs, .ref c, rfl, rfl, e3, by rw [f5.length]; exact hz, h c _ G2 pp cn ⟨kk, by rw [upd_ne nac]; exact c1, fk⟩ c2 fun j ⟨w1, o', w2⟩ => ?_⟩
      by_cases hj : i = j
      · subst hj
        rw [re1] at w1; cases w1; exact nac rfl
      · rw [List.getElem?_set_ne hj] at w2
        exact c4 j ⟨w1, o', w2⟩
end
/-! ### o[k1], o[k2] = v1, v2 -/
def sPut2 (i : Nat) (k1 k2 : Str) (fs : List S → Res (List E)) : List S → Res Fl := fun ρ => (fs ρ).bind fun vs ρ1 => match vs with
  | [.d x1, .d x2] => match ρ1[i]? with
    | some (.own (.dct kvs)) => if kvs.length + 2 < sizeLine then .ok .nx (ρ1.set i (.own (.dct (kput (kput kvs (.inr k1) x1) (.inr k2) x2)))) else .no
    | _ => .no
  | _ => .no
theorem kput_len {ds : List (Key × D)} {k : Key} {x : D} : (kput ds k x).length ≤ ds.length + 1 := by
  unfold kput
  split
  · rw [List.length_map]; omega
  · rw [List.length_append, List.length_singleton]; omega
section
variable {X : Cx} {W : WX'} {P : List Nat} {x k1 k2 : Str} {i : Nat} {a b : Expr} {fs : List S → Res (List E)} {pos np1 np2 kp1 kp2 sp1 sp2 pt pt2 : Pos} {kk1 kk2 kt ct1 ct2}
theorem s_put2 (hu : X.A.units + 64 < cLine) (hc : X.calm = true) (hN : X.N[i]? = some x) (ha : PAa X W [a, b] fs) (hvis : Vis X.env.scope x := by first | exact Or.inl rfl | exact Or.inr (Or.inl rfl) | exact Or.inr (Or.inr rfl))
    (hd : (x == ("__debug__" : Str)) = false := by decide) (hcd : (x == ("__classdict__" : Str)) = false := by decide)
    (hn : (assignEach [.Subscript (.Name x np1) (.Constant (.str k1) kk1 kp1) sp1, .Subscript (.Name x np2) (.Constant (.str k2) kk2 kp2) sp2] X.env).length = 2 := by rfl)
    (hst : (assignEach [.Subscript (.Name x np1) (.Constant (.str k1) kk1 kp1) sp1, .Subscript (.Name x np2) (.Constant (.str k2) kk2 kp2) sp2] X.env).findIdx? (·.1) = none := by rfl)
    (ha1 : ∀ v, assign (.Subscript (.Name x np1) (.Constant (.str k1) kk1 kp1) sp1) X.env v = (do
      let ov ← holding [v] (eval (.Name x np1) X.env)
      let iv ← holding [v, ov] (eval (.Constant (.str k1) kk1 kp1) X.env)
      standAt sp1
      holding [v, ov, iv] (setItem ov iv v)
      release [v, ov, iv] []) := by intro _; rfl)
    (ha2 : ∀ v, assign (.Subscript (.Name x np2) (.Constant (.str k2) kk2 kp2) sp2) X.env v = (do
      let ov ← holding [v] (eval (.Name x np2) X.env)
      let iv ← holding [v, ov] (eval (.Constant (.str k2) kk2 kp2) X.env)
      standAt sp2
      holding [v, ov, iv] (setItem ov iv v)
      release [v, ov, iv] []) := by intro _; rfl)
    (hs : swapsWithSole [.Tuple [.Subscript (.Name x np1) (.Constant (.str k1) kk1 kp1) sp1, .Subscript (.Name x np2) (.Constant (.str k2) kk2 kp2) sp2] kt pt] (.Tuple [a, b] ct1 pt2) pos.line X.env = pure false := by rfl)
    (hw : swappedStores [.Tuple [.Subscript (.Name x np1) (.Constant (.str k1) kk1 kp1) sp1, .Subscript (.Name x np2) (.Constant (.str k2) kk2 kp2) sp2] kt pt] (.Tuple [a, b] ct1 pt2) X.env = pure none := by rfl)
    (h1 : (assignEach [.Tuple [.Subscript (.Name x np1) (.Constant (.str k1) kk1 kp1) sp1, .Subscript (.Name x np2) (.Constant (.str k2) kk2 kp2) sp2] kt pt] X.env).map (·.2) = [assign (.Tuple [.Subscript (.Name x np1) (.Constant (.str k1) kk1 kp1) sp1, .Subscript (.Name x np2) (.Constant (.str k2) kk2 kp2) sp2] kt pt) X.env] := by rfl) :
    PSa X W P (.Assign [.Tuple [.Subscript (.Name x np1) (.Constant (.str k1) kk1 kp1) sp1, .Subscript (.Name x np2) (.Constant (.str k2) kk2 kp2) sp2] kt pt] (.Tuple [a, b] ct1 pt2) pos) (sPut2 i k1 k2 fs) :=
  ps_imp (ps_asg (pe_tup ha) (pg_tup hc (pgs_cons (pg_sub (a_var (W := W) i hN hvis hd hcd) (a_str (W := W)) (set_dict (by omega)) ha1) (pgs_cons (pg_sub (a_var (W := W) i hN hvis hd hcd) (a_str (W := W)) (set_dict (by omega)) ha2) pgs_nil)) hn hst) hs hw h1) fun D σ H ⟨G, ρ, r, h⟩ => by
    refine liftA_mono (liftA_first r (AftS.cl (P := P) (D := D)) h) fun us H1 ⟨vs, ρ1, G1, Pd, h1⟩ => ?_
    split at h1
    · rename_i x1 x2
      split at h1
      · rename_i kvs ho
        split at h1
        · rename_i hz
          match us, Pd.len with
          | [u1, u2], _ =>
            obtain ⟨w1, z1, f1⟩ := Pd.re 0 _ rfl
            obtain ⟨w2, z2, f2⟩ := Pd.re 1 _ rfl
            cases z1; cases z2
            have f1 : Fz X.bk G1 u1 x1 := f1
            have f2 : Fz X.bk G1 u2 x2 := f2
            refine ⟨by show 2 ≤ sizeLine; rw [sizeLine_eq]; decide, fun q hq => ⟨q, [u1, u2], rfl, SqT.of upd_same, rfl, ?_⟩⟩
            have ph : Post X.bk σ ρ1 H1 G1 σ ρ1 (upd H1 q (.tup [u1, u2])) G1 := (Post.refl Pd.post.rel).poke hq (Same.free Pd.post.rel.sub hq) fun j ⟨w1, o, w2⟩ => by
              obtain ⟨v, e1, a, ho, e2, e3, _⟩ := Pd.post.rel.slot j _ w2
              rw [w1] at e1; cases e1; cases e2
              rw [hq] at e3; cases e3
            have pA := Pd.post.trans ph
            -- the first store
            refine ⟨u1, [u2], rfl, G1, ρ1, pA.rel, ?_⟩
            unfold aVar
            rw [ho]
            intro ov H2 G2 p2 re2 _
            have re2 : σ[i]? = some (some ov) := re2
            refine ⟨G2, ρ1, p2.rel, ?_⟩
            unfold aK
            intro kv H3 G3 p3 re3 _
            have re3 : kv = .str k1 := by have q : Fz X.bk G3 kv (.str k1) := re3; rw [Fz] at q; exact q
            subst re3
            have pB := (pA.trans p2).trans p3
            obtain ⟨v, e1, ad, hob, e2, e3, e4, ks, rfl, e5⟩ := pB.rel.slot i _ ho
            rw [re2] at e1; cases e1; cases e2
            have g1 : Same G1 G3 := (p2.trans p3).grow
            refine ⟨ad, _, rfl, DPut.k (k := .inr k1) e3 (by rw [FzK.length e5]; omega), ?_⟩
            have pC := mut_post (o' := .dct (kput kvs (.inr k1) x1)) pB re2 ho ⟨_, rfl, FzK.put (k := .inr k1) (Fz.mono g1 _ _ f1) e5⟩
            -- the second
            have hi : i < ρ1.length := (List.getElem?_eq_some_iff.mp ho).1
            have ho' : (ρ1.set i (.own (.dct (kput kvs (.inr k1) x1))))[i]? = some (.own (.dct (kput kvs (.inr k1) x1))) := List.getElem?_set_self hi
            refine ⟨u2, [], rfl, G3, _, pC.rel, ?_⟩
            simp only [aVar, ho']
            intro ov H4 G4 p4 re4 _
            have re4 : σ[i]? = some (some ov) := re4
            rw [re2] at re4; cases re4
            refine ⟨G4, _, p4.rel, ?_⟩
            simp only [aK]
            intro kv H5 G5 p5 re5 _
            have re5 : kv = .str k2 := by have q : Fz X.bk G5 kv (.str k2) := re5; rw [Fz] at q; exact q
            subst re5
            have pD := (pC.trans p4).trans p5
            obtain ⟨v, e1, ad', hob, e2, e3, e4, ks', rfl, e5⟩ := pD.rel.slot i _ ho'
            rw [re2] at e1; cases e1; cases e2
            refine ⟨ad, _, rfl, DPut.k (k := .inr k2) e3 ?_, rfl, ?_⟩
            · have := FzK.length e5; have := kput_len (ds := kvs) (k := .inr k1) (x := x1); omega
            have pE := mut_post (o' := .dct (kput (kput kvs (.inr k1) x1) (.inr k2) x2)) pD re2 ho' ⟨_, rfl, FzK.put (k := .inr k2) (Fz.mono (g1.trans (p4.trans p5).grow) _ _ f2) e5⟩
            rw [List.set_set] at pE
            exact h1 σ _ G5 pE .refl
        · exact h1.elim
      · exact h1.elim
    · exact h1.elim
end
end L2.AL
/-! BT: the laws' story of calls, by typed values; its walk. -/
namespace L2.AL
open PySem PySem.Spec PyProof.Rows
theorem ofString_inj {a b : String} (h : Str.ofString a = Str.ofString b) : a = b := by
  have e : (a.toList.map Char.toNat) = (b.toList.map Char.toNat) := by
    rw [Str.ofString_eq_toList, Str.ofString_eq_toList] at h
    simpa using congrArg (fun z : Str => z.cps.toList) h
  have inj : ∀ (l m : List Char), l.map Char.toNat = m.map Char.toNat → l = m := by
    intro l
    induction l with
    | nil => intro m hm; cases m with | nil => rfl | cons _ _ => simp at hm
    | cons c l ih =>
      intro m hm
      cases m with
      | nil => simp at hm
      | cons d m =>
        simp only [List.map_cons, List.cons.injEq] at hm
        rw [Char.ext (UInt32.toNat_inj.mp hm.1), ih m hm.2]
  exact String.ext (inj _ _ e)
theorem ofString_eq {a b : String} : (Str.ofString a = Str.ofString b) = (a = b) := propext ⟨ofString_inj, fun h => by rw [h]⟩
inductive Srt where | put | drop | look
  deriving DecidableEq
def Srt.str : Srt → Str
  | .put => "put" | .drop => "drop" | .look => "look"
def answerT : Srt → Bool → Str
  | .put, false => "done" | .put, true => "refused" | .drop, false => "none" | .drop, true => "done" | .look, false => "none" | .look, true => "there"
def behindT : Srt → Bool → Bool
  | .put, _ => true | .drop, _ => false | .look, u => u
structure Deed where
  b : Int
  e : Option Int
  key : Str
  sort : Srt
  mo : Option (Int × Int × Str × Bool)
def oi : Option Int → D
  | none => .non
  | some i => .int i
def Deed.kvs (d : Deed) : List (Key × D) := [(.inr "begin", .int d.b), (.inr "end", oi d.e), (.inr "key", .str d.key), (.inr "sort", .str d.sort.str), (.inr "moment", oi (d.mo.map (·.1)))] ++
  match d.mo with
  | none => []
  | some (_, t, s, u) => [(.inr "turn", .int t), (.inr "said", .str s), (.inr "stands", .bl u)]
structure SSt where
  jar : O
  deeds : List Deed
  going : List Nat
  table : List (Str × Bool)
  clock : Int
def upOf (table : List (Str × Bool)) (key : Str) : Bool := ((table.find? fun kv => decide (kv.1 = key)).map (·.2)).getD false
def putT (table : List (Str × Bool)) (key : Str) (u : Bool) : List (Str × Bool) :=
  if (table.any fun kv => decide (kv.1 = key)) = true then table.map (fun kv => if kv.1 = key then (kv.1, u) else kv) else table ++ [(key, u)]
section
variable (mt : List S → Res E)
def tk (j : O) (m : Int) : Option (Int × O) := match mt [.own j, .d (.int m)] with
  | .ok (.d (.int r)) [.own j', _] => some (r, j')
  | _ => none
def pk {α : Type} (j : O) (xs : List α) : Option (α × O) := (tk mt j xs.length).bind fun p => if 0 ≤ p.1 ∧ p.1 < xs.length then xs[p.1.toNat]?.map fun x => (x, p.2) else none
def dts : List Int := [0, 0, 0, 1, 7]
def srts : List Srt := [.put, .put, .drop, .look]
def beginS (ks : List Str) (s : SSt) : Option SSt := if s.deeds.length < 1000 ∧ s.going.length < 1000 then
    (pk mt s.jar dts).bind fun p => (pk mt p.2 srts).bind fun q => (pk mt q.2 ks).bind fun k =>
      some ⟨k.2, s.deeds ++ [⟨s.clock + 1 + p.1, none, k.1, q.1, none⟩], s.going ++ [s.deeds.length], s.table, s.clock + 1 + p.1⟩
  else none
def endS (n : Nat) (d : Deed) (s : SSt) : Option SSt := (pk mt s.jar dts).bind fun p => some ⟨p.2, s.deeds.set n { d with e := some (s.clock + 1 + p.1) }, s.going.erase n, s.table, s.clock + 1 + p.1⟩
def actS (turn : Int) (n : Nat) (d : Deed) (s : SSt) : Option SSt := if s.table.length < 1000 then
    (tk mt s.jar 7).bind fun p =>
      let up := upOf s.table d.key
      let sd := if 0 < p.1 then answerT d.sort up else "again"
      let st := if 0 < p.1 then behindT d.sort up else up
      some ⟨p.2, s.deeds.set n { d with mo := some (s.clock, turn, sd, st) }, s.going, putT s.table d.key st, s.clock⟩
  else none
def onS (turn : Int) (s : SSt) : Option SSt := if s.going = [] then some s else (pk mt s.jar s.going).bind fun p => (s.deeds[p.1]?).bind fun d => match d.mo with
  | some _ => endS mt p.1 d { s with jar := p.2 }
  | none => actS mt turn p.1 d { s with jar := p.2 }
def turnS (ks : List Str) (many : Int) (turn : Int) (s : SSt) : Option SSt :=
  if (s.deeds.length : Int) < many then
    if s.going = [] then beginS mt ks s else (tk mt s.jar 3).bind fun p => if p.1 = 0 then beginS mt ks { s with jar := p.2 } else onS mt turn { s with jar := p.2 }
  else onS mt turn s
def goS (ks : List Str) (many : Int) : List Int → SSt → Option SSt
  | [], s => some s
  | t :: ts, s => (turnS mt ks many t s).bind (goS ks many ts)
def turns (many : Int) : List Int := (List.range (4 * many).toNat).map fun i : Nat => (i : Int)
def keysS : S → Option (List Str)
  | .own (.lst xs) => D.strs? xs
  | .d (.lst xs) => D.strs? xs
  | _ => none
def bStory : List S → Res Fl := fun ρ => match ρ with
  | [.own j, s1, .d (.int many), .no, .no, .no, .no, .no, .no, .no, .no, .no] => match keysS s1 with
    | some ks => if 0 ≤ many ∧ many ≤ 1000 then match goS mt ks many (turns many) ⟨j, [], [], [], 0⟩ with
        | some st => .ok (.rt (.fr (.lst (st.deeds.map fun d => .dct d.kvs)))) [.own st.jar, s1, .d (.int many), .no, .no, .no, .no, .no, .no, .no, .no, .no]
        | none => .no
      else .no
    | none => .no
  | _ => .no
end
end L2.AL
/-! BU: what the story's statements do, by typed values. -/
namespace L2.AL
open PySem PySem.Spec PyProof.Rows
def nI (n : Nat) : D := .int n
def kB (p : Str × Bool) : Key × D := (.inr p.1, .bl p.2)
def slots (s : SSt) (s1 : S) (many : Int) (s3 s7 s8 s9 s10 s11 : S) : List S :=
  [.own s.jar, s1, .d (.int many), s3, .own (.lst (s.going.map nI)), .own (.dct (s.table.map kB)), .d (.int s.clock), s7, s8, s9, s10, s11]
/-! ### the statements -/
section
variable (mt mo ma mb : List S → Res E)
def fInit : List S → Res Fl := sSet [3, 4, 5, 6] (aCons (aLst aNil) (aCons (aLst aNil) (aCons aDict0 (aCons (aK (.int 0)) aNil))))
def fTurns : List S → Res (List D) := aRng1 (aCons (aOp2 gMul (aK (.int 4)) (aVar 2)) aNil)
def fC1 : List S → Res Bool := aAndT (aT (aOp2 gLt (aCall gLen (aCons (aVar 3) aNil)) (aVar 2))) (aOrT (aT (aOp2 gEq (aVar 4) (aLst aNil))) (aT (aOp2 gEq (aFn mt (aCons (aVar 0) (aCons (aK (.int 3)) aNil))) (aK (.int 0)))))
def f6 : List S → Res Fl := sSet1 6 (aOp2 gAdd (aOp2 gAdd (aVar 6) (aK (.int 1))) (aFn mo (aCons (aVar 0) (aCons (aLst (aCons (aK (.int 0)) (aCons (aK (.int 0)) (aCons (aK (.int 0)) (aCons (aK (.int 1)) (aCons (aK (.int 7)) aNil)))))) aNil))))
def f4 : List S → Res Fl := sExpr (aMut "list" 4 uAppend (aCons (aCall gLen (aCons (aVar 3) aNil)) aNil))
def f8 : List S → Res Fl := sSet1 8 (aFn mo (aCons (aVar 0) (aCons (aLst (aCons (aK (.str "put")) (aCons (aK (.str "put")) (aCons (aK (.str "drop")) (aCons (aK (.str "look")) aNil))))) aNil)))
def fD : List S → Res E := aDict [("begin", (aVar 6)), ("end", (aK .non)), ("key", (aFn mo (aCons (aVar 0) (aCons (aVar 1) aNil)))), ("sort", (aVar 8)), ("moment", (aK .non))]
def fC2 : List S → Res Bool := aT (aOp2 gNe (aVar 4) (aLst aNil))
def f9 : List S → Res Fl := sSet1 9 (aFn mo (aCons (aVar 0) (aCons (aVar 4) aNil)))
def f10 : List S → Res Fl := sSet1 10 (aOp2 gIx (aVar 3) (aVar 9))
def fEnd : List S → Res Fl := sSeq (f6 mo) (sSeq (sPut 10 (aK (.str "end")) (aVar 6)) (sExpr (aMut "list" 4 uRemove (aCons (aVar 9) aNil))))
def fSay : List S → Res Fl := sSeq (sPut 10 (aK (.str "said")) (aFn ma (aCons (aOp2 gIx (aVar 10) (aK (.str "sort"))) (aCons (aVar 11) aNil))))
    (sPut 10 (aK (.str "stands")) (aFn mb (aCons (aOp2 gIx (aVar 10) (aK (.str "sort"))) (aCons (aVar 11) aNil))))
def fAct : List S → Res Fl := sSeq (sSet1 11 (aMeth "dict" gGet (aVar 5) (aCons (aOp2 gIx (aVar 10) (aK (.str "key"))) (aCons (aK (.bl false)) aNil))))
  (sSeq (sPut2 10 "moment" "turn" (aCons (aVar 6) (aCons (aVar 7) aNil)))
  (sSeq (sPut2 10 "said" "stands" (aCons (aK (.str "again")) (aCons (aVar 11) aNil)))
  (sSeq (sIf (aT (aOp2 gGt (aFn mt (aCons (aVar 0) (aCons (aK (.int 7)) aNil))) (aK (.int 0)))) (fSay ma mb) sNx)
  (sPut 5 (aOp2 gIx (aVar 10) (aK (.str "key"))) (aOp2 gIx (aVar 10) (aK (.str "stands")))))))
def fB : List S → Res Fl := sIf (aT (aOp2 gIsn (aOp2 gIx (aVar 10) (aK (.str "moment"))) (aK .non))) (fEnd mo) (fAct mt ma mb)
end
section
variable {mt mo ma mb : List S → Res E} {s : SSt} {s1 s3 s7 s8 s9 s10 s11 : S} {many : Int}
theorem tk_eq {j j' : O} {m r : Int} (h : tk mt j m = some (r, j')) : ∃ x, mt [.own j, .d (.int m)] = .ok (.d (.int r)) [.own j', x] := by
  unfold tk at h
  split at h
  · rename_i r0 j0 x e
    cases h
    exact ⟨x, e⟩
  · cases h
theorem of_eq {α : Type} (hof : mo = runF 2 0 (sRet (aOp2 gIx (aVar 1) (aFn mt (aCons (aVar 0) (aCons (aCall gLen (aCons (aVar 1) aNil)) aNil)))))) {j j' : O} {xs : List α} {x : α} (F : α → D) (h : pk mt j xs = some (x, j'))
    (hs : s1 = .own (.lst (xs.map F)) ∨ s1 = .d (.lst (xs.map F))) : mo [.own j, s1] = .ok (.d (F x)) [.own j', s1] := by
  unfold pk at h
  obtain ⟨p, e1, e2⟩ := Option.bind_eq_some_iff.mp h
  obtain ⟨r, j0⟩ := p
  split at e2
  · rename_i hb
    obtain ⟨y, e3, e4⟩ := Option.map_eq_some_iff.mp e2
    cases e4
    obtain ⟨w, e5⟩ := tk_eq e1
    have hi : gIx (.lst (xs.map F)) (.int r) = some (.d (F x)) := by
      simp only [gIx, atI, ixN]
      rw [if_pos hb.1, if_pos (by rw [List.length_map]; exact hb.2)]
      simp [e3]
    subst hof
    rcases hs with rfl | rfl <;> simp [runF, outF, sSeq, sIf, sRet, sRetN, sSet1, sSet, sTg, sExpr, sNx, aVar, aK, aCons, aNil, aOp2, app2, aCall, valL, E.val, aT, aNotT, aAndT, aOrT, aAndV, aOrV, aNotV, aIf, aChain, aTup, aLst, keepL, keep1, freeze, toSL, toS, setL, aFn, appFn, argS, slIx, wb, aIter, D.items?, aMeth, D.tyn, aSlice, aPart, aPartN, gIsi, D.isi, gIs, gIsn, D.is?, D.seq?, aStar, O.toD, eBl, eInt, eStr, tset, tsetL, wipeS, backS, nOwn, D.imm, gLen, e5, hi]
  · cases e2
theorem log_smallG {n k : Nat} (h : n < 2 ^ k) (hk : 0 < k) : n.log2 < k := by
  by_cases h0 : n = 0
  · subst h0; simpa using hk
  · exact (Nat.log2_lt h0).mpr h
theorem le5 : 5 ≤ sizeLine := by rw [sizeLine_eq]; decide
theorem le2 : 2 ≤ sizeLine := by rw [sizeLine_eq]; decide
theorem le3 : 3 ≤ sizeLine := by rw [sizeLine_eq]; decide
theorem le1 : 1 ≤ sizeLine := by rw [sizeLine_eq]; decide
theorem le4 : 4 ≤ sizeLine := by rw [sizeLine_eq]; decide
theorem nI_inj {ns : List Nat} : (ns.map nI).length = ns.length := List.length_map _
theorem ints_nI : ∀ ns : List Nat, D.ints? (ns.map nI) = some (ns.map fun n : Nat => (n : Int))
  | [] => rfl
  | n :: ns => by rw [List.map_cons, nI, D.ints?, ints_nI ns]; rfl
theorem layAllG {α : Type} (g : α → PyData) (k : Nat) : ∀ l : List α, (∀ a ∈ l, (g a).canLay0 = true ∧ (g a).depth ≤ k) → PyData.canLayAll0 (l.map g) = true ∧ PyData.depthAll (l.map g) ≤ k
  | [], _ => ⟨rfl, Nat.zero_le _⟩
  | a :: l, h => by
    obtain ⟨h1, h2⟩ := h a List.mem_cons_self
    obtain ⟨h3, h4⟩ := layAllG g k l fun b hb => h b (List.mem_cons_of_mem _ hb)
    simp only [List.map_cons, PyData.canLayAll0, PyData.depthAll, h1, h3, Bool.and_self, true_and]
    exact Nat.max_le.mpr ⟨h2, h4⟩
theorem eq_nil (ns : List Nat) : (D.lst (ns.map nI)).eq? (.lst []) = some (decide (ns = [])) := by
  have pl : ∀ ms : List Nat, D.pyL (ms.map nI) = some (ms.map fun m : Nat => PyData.int m) := fun ms => by
    induction ms with
    | nil => rfl
    | cons m ms ih => rw [List.map_cons, D.pyL, ih]; rfl
  have c := layAllG (fun m : Nat => PyData.int m) 0 ns fun _ _ => ⟨rfl, Nat.le_refl _⟩
  have c1 : (PyData.list (ns.map fun m : Nat => PyData.int m)).canLay0 = true := by simp only [PyData.canLay0]; exact c.1
  have sh : SeqAt.shaped (PyData.list (ns.map fun m : Nat => PyData.int m)) = true := by
    unfold SeqAt.shaped
    rw [c1, Bool.true_and]
    refine decide_eq_true ?_
    simp only [PyData.depth]; omega
  have sh0 : SeqAt.shaped (PyData.list []) = true := by decide +kernel
  have h1 : (D.lst (ns.map nI)).py = some (PyData.list (ns.map fun m : Nat => PyData.int m)) := by rw [D.py, pl]; rfl
  have h2 : (D.lst []).py = some (PyData.list []) := rfl
  unfold D.eq?
  simp only [h1, h2, sh, sh0, and_self, if_true]
  cases ns with
  | nil => rfl
  | cons n r => simp; rfl
/-! ### the parts -/
variable (hof : mo = runF 2 0 (sRet (aOp2 gIx (aVar 1) (aFn mt (aCons (aVar 0) (aCons (aCall gLen (aCons (aVar 1) aNil)) aNil))))))
theorem fInit_eq {j : O} : fInit [.own j, s1, .d (.int many), .no, .no, .no, .no, .no, .no, .no, .no, .no] = .ok .nx (slots ⟨j, [], [], [], 0⟩ s1 many (.own (.lst [])) .no .no .no .no .no) := by
  simp [runF, outF, sSeq, sIf, sRet, sRetN, sSet1, sSet, sTg, sExpr, sNx, aVar, aK, aCons, aNil, aOp2, app2, aCall, valL, E.val, aT, aNotT, aAndT, aOrT, aAndV, aOrV, aNotV, aIf, aChain, aTup, aLst, keepL, keep1, freeze, toSL, toS, setL, aFn, appFn, argS, slIx, wb, aIter, D.items?, aMeth, D.tyn, aSlice, aPart, aPartN, gIsi, D.isi, gIs, gIsn, D.is?, D.seq?, aStar, O.toD, eBl, eInt, eStr, tset, tsetL, wipeS, backS, nOwn, D.imm, fInit, aDict0, slots]
theorem fTurns_eq (h0 : 0 ≤ many) (h1 : many ≤ 1000) : fTurns (slots s s1 many s3 s7 s8 s9 s10 s11) = .ok ((turns many).map .int) (slots s s1 many s3 s7 s8 s9 s10 s11) := by
  have a : -(2 ^ 62) ≤ 4 * many ∧ 4 * many < 2 ^ 62 := by omega
  have e : rangeD 0 (4 * many).toNat = (turns many).map .int := by simp [rangeD, turns, Function.comp_def]
  have g : gMul (.int 4) (.int many) = some (eInt (4 * many)) := by
    have l : many.natAbs.log2 < 20 := log_smallG (by omega) (by omega)
    have l4 : Nat.log2 4 = 2 := by decide +kernel
    simp [gMul, l4]
    omega
  simp [runF, outF, sSeq, sIf, sRet, sRetN, sSet1, sSet, sTg, sExpr, sNx, aVar, aK, aCons, aNil, aOp2, app2, aCall, valL, E.val, aT, aNotT, aAndT, aOrT, aAndV, aOrV, aNotV, aIf, aChain, aTup, aLst, keepL, keep1, freeze, toSL, toS, setL, aFn, appFn, argS, slIx, wb, aIter, D.items?, aMeth, D.tyn, aSlice, aPart, aPartN, gIsi, D.isi, gIs, gIsn, D.is?, D.seq?, aStar, O.toD, eBl, eInt, eStr, tset, tsetL, wipeS, backS, nOwn, D.imm, fTurns, aRng1, slots, g]
  rw [if_pos (by omega), e]
theorem geq_nil (ns : List Nat) {b : Bool} (h : decide (ns = []) = b) : gEq (.lst (ns.map nI)) (.lst []) = some (eBl b) := by unfold gEq; rw [eq_nil, h]; rfl
theorem gne_nil (ns : List Nat) {b : Bool} (h : decide (ns = []) = b) : gNe (.lst (ns.map nI)) (.lst []) = some (eBl (!b)) := by unfold gNe; rw [eq_nil, h]; rfl
theorem geq_int (i j : Int) : gEq (.int i) (.int j) = some (eBl (decide (i = j))) := by unfold gEq D.eq?; rw [dec_beq]; rfl
theorem fC1_lt (xs : List D) (hx : xs.length = s.deeds.length) (h : (s.deeds.length : Int) < many) (hg : s.going = []) : fC1 mt (slots s s1 many (.own (.lst xs)) s7 s8 s9 s10 s11) = .ok true (slots s s1 many (.own (.lst xs)) s7 s8 s9 s10 s11) := by
  have e := geq_nil s.going (b := true) (by simp [hg])
  simp [runF, outF, sSeq, sIf, sRet, sRetN, sSet1, sSet, sTg, sExpr, sNx, aVar, aK, aCons, aNil, aOp2, app2, aCall, valL, E.val, aT, aNotT, aAndT, aOrT, aAndV, aOrV, aNotV, aIf, aChain, aTup, aLst, keepL, keep1, freeze, toSL, toS, setL, aFn, appFn, argS, slIx, wb, aIter, D.items?, aMeth, D.tyn, aSlice, aPart, aPartN, gIsi, D.isi, gIs, gIsn, D.is?, D.seq?, aStar, O.toD, eBl, eInt, eStr, tset, tsetL, wipeS, backS, nOwn, D.imm, fC1, slots, gLen, gLt, hx, h, e]
theorem fC1_tk (xs : List D) (hx : xs.length = s.deeds.length) (h : (s.deeds.length : Int) < many) (hg : s.going ≠ []) {r : Int} {j : O} (ht : tk mt s.jar 3 = some (r, j)) :
    fC1 mt (slots s s1 many (.own (.lst xs)) s7 s8 s9 s10 s11) = .ok (decide (r = 0)) (slots { s with jar := j } s1 many (.own (.lst xs)) s7 s8 s9 s10 s11) := by
  have e := geq_nil s.going (b := false) (by simp [hg])
  obtain ⟨w, t⟩ := tk_eq ht
  simp [runF, outF, sSeq, sIf, sRet, sRetN, sSet1, sSet, sTg, sExpr, sNx, aVar, aK, aCons, aNil, aOp2, app2, aCall, valL, E.val, aT, aNotT, aAndT, aOrT, aAndV, aOrV, aNotV, aIf, aChain, aTup, aLst, keepL, keep1, freeze, toSL, toS, setL, aFn, appFn, argS, slIx, wb, aIter, D.items?, aMeth, D.tyn, aSlice, aPart, aPartN, gIsi, D.isi, gIs, gIsn, D.is?, D.seq?, aStar, O.toD, eBl, eInt, eStr, tset, tsetL, wipeS, backS, nOwn, D.imm, fC1, slots, gLen, gLt, hx, h, e, t, geq_int]
theorem fC1_ge (xs : List D) (hx : xs.length = s.deeds.length) (h : ¬ (s.deeds.length : Int) < many) : fC1 mt (slots s s1 many (.own (.lst xs)) s7 s8 s9 s10 s11) = .ok false (slots s s1 many (.own (.lst xs)) s7 s8 s9 s10 s11) := by
  simp [runF, outF, sSeq, sIf, sRet, sRetN, sSet1, sSet, sTg, sExpr, sNx, aVar, aK, aCons, aNil, aOp2, app2, aCall, valL, E.val, aT, aNotT, aAndT, aOrT, aAndV, aOrV, aNotV, aIf, aChain, aTup, aLst, keepL, keep1, freeze, toSL, toS, setL, aFn, appFn, argS, slIx, wb, aIter, D.items?, aMeth, D.tyn, aSlice, aPart, aPartN, gIsi, D.isi, gIs, gIsn, D.is?, D.seq?, aStar, O.toD, eBl, eInt, eStr, tset, tsetL, wipeS, backS, nOwn, D.imm, fC1, slots, gLen, gLt, hx, h]
include hof in
theorem f6_eq {x : Int} {j : O} (h : pk mt s.jar dts = some (x, j)) : f6 mo (slots s s1 many s3 s7 s8 s9 s10 s11) = .ok .nx (slots { s with jar := j, clock := s.clock + 1 + x } s1 many s3 s7 s8 s9 s10 s11) := by
  have e := of_eq hof D.int h (s1 := .own (.lst (dts.map D.int))) (.inl rfl)
  simp only [dts, List.map_cons, List.map_nil] at e
  simp [runF, outF, sSeq, sIf, sRet, sRetN, sSet1, sSet, sTg, sExpr, sNx, aVar, aK, aCons, aNil, aOp2, app2, aCall, valL, E.val, aT, aNotT, aAndT, aOrT, aAndV, aOrV, aNotV, aIf, aChain, aTup, aLst, keepL, keep1, freeze, toSL, toS, setL, aFn, appFn, argS, slIx, wb, aIter, D.items?, aMeth, D.tyn, aSlice, aPart, aPartN, gIsi, D.isi, gIs, gIsn, D.is?, D.seq?, aStar, O.toD, eBl, eInt, eStr, tset, tsetL, wipeS, backS, nOwn, D.imm, f6, slots, e, gAdd, le5]
theorem f4_eq (xs : List D) (hx : xs.length = s.deeds.length) (hz : s.going.length < 1000) : f4 (slots s s1 many (.own (.lst xs)) s7 s8 s9 s10 s11) = .ok .nx (slots { s with going := s.going ++ [s.deeds.length] } s1 many (.own (.lst xs)) s7 s8 s9 s10 s11) := by
  have z : s.going.length < sizeLine := Nat.lt_of_lt_of_le hz (by rw [sizeLine_eq]; decide)
  simp [runF, outF, sSeq, sIf, sRet, sRetN, sSet1, sSet, sTg, sExpr, sNx, aVar, aK, aCons, aNil, aOp2, app2, aCall, valL, E.val, aT, aNotT, aAndT, aOrT, aAndV, aOrV, aNotV, aIf, aChain, aTup, aLst, keepL, keep1, freeze, toSL, toS, setL, aFn, appFn, argS, slIx, wb, aIter, D.items?, aMeth, D.tyn, aSlice, aPart, aPartN, gIsi, D.isi, gIs, gIsn, D.is?, D.seq?, aStar, O.toD, eBl, eInt, eStr, tset, tsetL, wipeS, backS, nOwn, D.imm, f4, slots, gLen, aMut, uAppend, hx, z, nI, O.tyn]
include hof in
theorem f8_eq {x : Srt} {j : O} (h : pk mt s.jar srts = some (x, j)) : f8 mo (slots s s1 many s3 s7 s8 s9 s10 s11) = .ok .nx (slots { s with jar := j } s1 many s3 s7 (.d (.str x.str)) s9 s10 s11) := by
  have e := of_eq hof (fun z : Srt => D.str z.str) h (s1 := .own (.lst (srts.map fun z : Srt => D.str z.str))) (.inl rfl)
  simp only [srts, List.map_cons, List.map_nil, Srt.str] at e
  simp only [Srt.str] at *
  simp [runF, outF, sSeq, sIf, sRet, sRetN, sSet1, sSet, sTg, sExpr, sNx, aVar, aK, aCons, aNil, aOp2, app2, aCall, valL, E.val, aT, aNotT, aAndT, aOrT, aAndV, aOrV, aNotV, aIf, aChain, aTup, aLst, keepL, keep1, freeze, toSL, toS, setL, aFn, appFn, argS, slIx, wb, aIter, D.items?, aMeth, D.tyn, aSlice, aPart, aPartN, gIsi, D.isi, gIs, gIsn, D.is?, D.seq?, aStar, O.toD, eBl, eInt, eStr, tset, tsetL, wipeS, backS, nOwn, D.imm, f8, slots, e, le4]
theorem keys_of {ks : List Str} (h : keysS s1 = some ks) : s1 = .own (.lst (ks.map .str)) ∨ s1 = .d (.lst (ks.map .str)) := by
  have st : ∀ (xs : List D) (ks : List Str), D.strs? xs = some ks → xs = ks.map .str := by
    intro xs
    induction xs with
    | nil => intro ks h; cases h; rfl
    | cons x xs ih =>
      intro ks h
      cases x <;> simp only [D.strs?, reduceCtorEq] at h
      obtain ⟨r, e1, rfl⟩ := Option.map_eq_some_iff.mp h
      rw [ih r e1]; rfl
  unfold keysS at h
  split at h
  · rw [st _ _ h]; exact .inl rfl
  · rw [st _ _ h]; exact .inr rfl
  · cases h
include hof in
theorem fD_eq {ks : List Str} {k : Str} {so : Srt} {j : O} (hk : keysS s1 = some ks) (h : pk mt s.jar ks = some (k, j)) :
    fD mo (slots s s1 many s3 s7 (.d (.str so.str)) s9 s10 s11) = .ok (.fr (.dct (Deed.kvs ⟨s.clock, none, k, so, none⟩))) (slots { s with jar := j } s1 many s3 s7 (.d (.str so.str)) s9 s10 s11) := by
  have e := of_eq hof D.str h (keys_of hk)
  rcases keys_of hk with rfl | rfl <;> simp [runF, outF, sSeq, sIf, sRet, sRetN, sSet1, sSet, sTg, sExpr, sNx, aVar, aK, aCons, aNil, aOp2, app2, aCall, valL, E.val, aT, aNotT, aAndT, aOrT, aAndV, aOrV, aNotV, aIf, aChain, aTup, aLst, keepL, keep1, freeze, toSL, toS, setL, aFn, appFn, argS, slIx, wb, aIter, D.items?, aMeth, D.tyn, aSlice, aPart, aPartN, gIsi, D.isi, gIs, gIsn, D.is?, D.seq?, aStar, O.toD, eBl, eInt, eStr, tset, tsetL, wipeS, backS, nOwn, D.imm, fD, slots, aDict, aPairs, e, kmerge, kput, ofString_eq, Deed.kvs, oi]
theorem fC2_eq : fC2 (slots s s1 many s3 s7 s8 s9 s10 s11) = .ok (!decide (s.going = [])) (slots s s1 many s3 s7 s8 s9 s10 s11) := by
  have e := gne_nil s.going rfl
  simp [runF, outF, sSeq, sIf, sRet, sRetN, sSet1, sSet, sTg, sExpr, sNx, aVar, aK, aCons, aNil, aOp2, app2, aCall, valL, E.val, aT, aNotT, aAndT, aOrT, aAndV, aOrV, aNotV, aIf, aChain, aTup, aLst, keepL, keep1, freeze, toSL, toS, setL, aFn, appFn, argS, slIx, wb, aIter, D.items?, aMeth, D.tyn, aSlice, aPart, aPartN, gIsi, D.isi, gIs, gIsn, D.is?, D.seq?, aStar, O.toD, eBl, eInt, eStr, tset, tsetL, wipeS, backS, nOwn, D.imm, fC2, slots, e]
include hof in
theorem f9_eq {n : Nat} {j : O} (h : pk mt s.jar s.going = some (n, j)) : f9 mo (slots s s1 many s3 s7 s8 s9 s10 s11) = .ok .nx (slots { s with jar := j } s1 many s3 s7 s8 (.d (.int n)) s10 s11) := by
  have e := of_eq hof nI h (s1 := .own (.lst (s.going.map nI))) (.inl rfl)
  simp [runF, outF, sSeq, sIf, sRet, sRetN, sSet1, sSet, sTg, sExpr, sNx, aVar, aK, aCons, aNil, aOp2, app2, aCall, valL, E.val, aT, aNotT, aAndT, aOrT, aAndV, aOrV, aNotV, aIf, aChain, aTup, aLst, keepL, keep1, freeze, toSL, toS, setL, aFn, appFn, argS, slIx, wb, aIter, D.items?, aMeth, D.tyn, aSlice, aPart, aPartN, gIsi, D.isi, gIs, gIsn, D.is?, D.seq?, aStar, O.toD, eBl, eInt, eStr, tset, tsetL, wipeS, backS, nOwn, D.imm, f9, slots, e, nI]
theorem f10_eq {xs : List D} {x : D} {n : Nat} (h : xs[n]? = some x) : f10 (slots s s1 many (.own (.lst xs)) s7 s8 (.d (.int n)) s10 s11) = .ok .nx (slots s s1 many (.own (.lst xs)) s7 s8 (.d (.int n)) (.d x) s11) := by
  have hl := (List.getElem?_eq_some_iff.mp h).1
  have hi : gIx (.lst xs) (.int n) = some (.d x) := by
    simp only [gIx, atI, ixN]
    rw [if_pos (by omega), if_pos (by omega)]
    simp [h]
  simp [runF, outF, sSeq, sIf, sRet, sRetN, sSet1, sSet, sTg, sExpr, sNx, aVar, aK, aCons, aNil, aOp2, app2, aCall, valL, E.val, aT, aNotT, aAndT, aOrT, aAndV, aOrV, aNotV, aIf, aChain, aTup, aLst, keepL, keep1, freeze, toSL, toS, setL, aFn, appFn, argS, slIx, wb, aIter, D.items?, aMeth, D.tyn, aSlice, aPart, aPartN, gIsi, D.isi, gIs, gIsn, D.is?, D.seq?, aStar, O.toD, eBl, eInt, eStr, tset, tsetL, wipeS, backS, nOwn, D.imm, f10, slots, hi]
end
end L2.AL
/-! BV: the story's turns on one of its dicts. -/
namespace L2.AL
open PySem PySem.Spec PyProof.Rows
section
variable {mt mo ma mb : List S → Res E} {s : SSt} {s1 s3 s7 s8 s9 s10 s11 : S} {many : Int} {d : Deed}
theorem kg_moment : kget d.kvs (.inr "moment") = some (oi (d.mo.map (·.1))) := by simp [kget, Deed.kvs, ofString_eq]
theorem kg_key : kget d.kvs (.inr "key") = some (.str d.key) := by simp [kget, Deed.kvs, ofString_eq]
theorem kg_sort : kget d.kvs (.inr "sort") = some (.str d.sort.str) := by simp [kget, Deed.kvs, ofString_eq]
theorem kg_stands {c t : Int} {z : Str} {u : Bool} (h : d.mo = some (c, t, z, u)) : kget d.kvs (.inr "stands") = some (.bl u) := by simp [kget, Deed.kvs, ofString_eq, h]
theorem kp_end {e : Int} : kput d.kvs (.inr "end") (.int e) = Deed.kvs { d with e := some e } := by
  cases h : d.mo <;> simp [kput, Deed.kvs, ofString_eq, h, oi]
theorem kp_act {c t : Int} {u : Bool} {z : Str} (h : d.mo = none) : kput (kput (kput (kput d.kvs (.inr "moment") (.int c)) (.inr "turn") (.int t)) (.inr "said") (.str z)) (.inr "stands") (.bl u) = Deed.kvs { d with mo := some (c, t, z, u) } := by
  simp [kput, Deed.kvs, ofString_eq, h, oi]
theorem kp_said {c t : Int} {u : Bool} {z z' : Str} (h : d.mo = some (c, t, z, u)) : kput d.kvs (.inr "said") (.str z') = Deed.kvs { d with mo := some (c, t, z', u) } := by
  simp [kput, Deed.kvs, ofString_eq, h, oi]
theorem kp_stands {c t : Int} {u u' : Bool} {z : Str} (h : d.mo = some (c, t, z, u)) : kput d.kvs (.inr "stands") (.bl u') = Deed.kvs { d with mo := some (c, t, z, u') } := by
  simp [kput, Deed.kvs, ofString_eq, h, oi]
theorem kvs_len : d.kvs.length ≤ 8 := by cases h : d.mo <;> simp [Deed.kvs, h]
theorem kput_lt {k : Key} {x : D} : d.kvs.length < sizeLine ∧ d.kvs.length + 2 < sizeLine ∧ (kput d.kvs k x).length < sizeLine := by
  have h1 := kvs_len (d := d)
  have h2 := kput_len (ds := d.kvs) (k := k) (x := x)
  have h3 : 100 ≤ sizeLine := by rw [sizeLine_eq]; decide
  omega
theorem erase_nI {n : Nat} : ∀ ns : List Nat, ((ns.map fun m : Nat => (m : Int)).erase (n : Int)).map D.int = (ns.erase n).map nI
  | [] => rfl
  | m :: ns => by
    by_cases h : m = n
    · subst h; simp [nI]
    · have h' : (m : Int) ≠ (n : Int) := by omega
      rw [List.map_cons, List.erase_cons_tail (by simpa using h'), List.map_cons, erase_nI ns, List.erase_cons_tail (by simpa using h)]
      rfl
theorem remove_eq {ns : List Nat} {n : Nat} (h : n ∈ ns) : uRemove (.lst (ns.map nI)) [.int n] = some (.non, .lst ((ns.erase n).map nI)) := by
  simp only [uRemove, ints_nI, Option.bind_some]
  rw [if_pos (List.mem_map.mpr ⟨n, h, rfl⟩), erase_nI]
variable (hof : mo = runF 2 0 (sRet (aOp2 gIx (aVar 1) (aFn mt (aCons (aVar 0) (aCons (aCall gLen (aCons (aVar 1) aNil)) aNil))))))
include hof in
theorem fEnd_eq {n : Nat} {x : Int} {j : O} (h : pk mt s.jar dts = some (x, j)) (hn : n ∈ s.going) : fEnd mo (slots s s1 many s3 s7 s8 (.d (.int n)) (.own (.dct d.kvs)) s11) =
    .ok .nx (slots { s with jar := j, going := s.going.erase n, clock := s.clock + 1 + x } s1 many s3 s7 s8 (.d (.int n)) (.own (.dct (Deed.kvs { d with e := some (s.clock + 1 + x) }))) s11) := by
  have e := f6_eq (s1 := s1) (s3 := s3) (s7 := s7) (s8 := s8) (s9 := .d (.int n)) (s10 := .own (.dct d.kvs)) (s11 := s11) (many := many) hof h
  have z := (kput_lt (d := d) (k := .inr "end") (x := .non)).1
  have r := remove_eq hn
  unfold fEnd sSeq
  rw [e]
  simp [runF, outF, sSeq, sIf, sRet, sRetN, sSet1, sSet, sTg, sExpr, sNx, aVar, aK, aCons, aNil, aOp2, app2, aCall, valL, E.val, aT, aNotT, aAndT, aOrT, aAndV, aOrV, aNotV, aIf, aChain, aTup, aLst, keepL, keep1, freeze, toSL, toS, setL, aFn, appFn, argS, slIx, wb, aIter, D.items?, aMeth, D.tyn, aSlice, aPart, aPartN, gIsi, D.isi, gIs, gIsn, D.is?, D.seq?, aStar, O.toD, eBl, eInt, eStr, tset, tsetL, wipeS, backS, nOwn, D.imm, slots, sPut, putO, D.key?, z, kp_end, aMut, r, O.tyn]
theorem get_up {table : List (Str × Bool)} {key : Str} : gGet (.dct (table.map kB)) [.str key, .bl false] = some (.d (.bl (upOf table key))) := by
  have e : ((kget (table.map kB) (.inr key)).getD (.bl false)) = .bl (upOf table key) := by
    unfold kget upOf
    rw [List.find?_map]
    have : ((fun kv : Key × D => decide (kv.1 = .inr key)) ∘ kB) = fun kv : Str × Bool => decide (kv.1 = key) := by
      funext kv
      simp [kB]
    rw [this]
    cases table.find? fun kv => decide (kv.1 = key) <;> rfl
  simp [gGet, D.imm, D.key?, e]
theorem put_up {table : List (Str × Bool)} {key : Str} {u : Bool} : kput (table.map kB) (.inr key) (.bl u) = (putT table key u).map kB := by
  have e : ((table.map kB).any fun kv => decide (kv.1 = .inr key)) = table.any fun kv => decide (kv.1 = key) := by
    rw [List.any_map]
    congr 1
    funext kv
    simp [kB]
  unfold kput putT
  rw [e]
  split
  · rw [List.map_map, List.map_map]
    congr 1
    funext kv
    by_cases h : kv.1 = key <;> simp [kB, h]
  · simp [kB]
section
variable (hma : ∀ so u, ma [.d (.str (Srt.str so)), .d (.bl u)] = .ok (.d (.str (answerT so u))) [.d (.str (Srt.str so)), .d (.bl u)])
variable (hmb : ∀ so u, mb [.d (.str (Srt.str so)), .d (.bl u)] = .ok (.d (.bl (behindT so u))) [.d (.str (Srt.str so)), .d (.bl u)])
include hma hmb in
theorem fSay_eq {c t : Int} {u up : Bool} {z : Str} (h : d.mo = some (c, t, z, u)) : fSay ma mb (slots s s1 many s3 s7 s8 s9 (.own (.dct d.kvs)) (.d (.bl up))) =
    .ok .nx (slots s s1 many s3 s7 s8 s9 (.own (.dct (Deed.kvs { d with mo := some (c, t, answerT d.sort up, behindT d.sort up) }))) (.d (.bl up))) := by
  have z1 := (kput_lt (d := d) (k := .inr "end") (x := .non)).1
  have z2 := (kput_lt (d := { d with mo := some (c, t, answerT d.sort up, u) }) (k := .inr "end") (x := .non)).1
  have g2 := kg_sort (d := { d with mo := some (c, t, answerT d.sort up, u) })
  have p2 := kp_stands (d := { d with mo := some (c, t, answerT d.sort up, u) }) (u' := behindT d.sort up) rfl
  have p1 := kp_said (z' := answerT d.sort up) h
  unfold fSay
  simp [runF, outF, sSeq, sIf, sRet, sRetN, sSet1, sSet, sTg, sExpr, sNx, aVar, aK, aCons, aNil, aOp2, app2, aCall, valL, E.val, aT, aNotT, aAndT, aOrT, aAndV, aOrV, aNotV, aIf, aChain, aTup, aLst, keepL, keep1, freeze, toSL, toS, setL, aFn, appFn, argS, slIx, wb, aIter, D.items?, aMeth, D.tyn, aSlice, aPart, aPartN, gIsi, D.isi, gIs, gIsn, D.is?, D.seq?, aStar, O.toD, eBl, eInt, eStr, tset, tsetL, wipeS, backS, nOwn, D.imm, slots, sPut, putO, D.key?, z1, z2, kg_sort, gIx, hma, hmb, p1, p2, g2]
include hma hmb in
theorem fAct_eq {turn r : Int} {j : O} (h : tk mt s.jar 7 = some (r, j)) (hd : d.mo = none) (hz : s.table.length < 1000) :
    fAct mt ma mb (slots s s1 many s3 (.d (.int turn)) s8 s9 (.own (.dct d.kvs)) s11) =
    .ok .nx (slots { s with jar := j, table := putT s.table d.key (if 0 < r then behindT d.sort (upOf s.table d.key) else upOf s.table d.key) } s1 many s3 (.d (.int turn)) s8 s9
      (.own (.dct (Deed.kvs { d with mo := some (s.clock, turn, (if 0 < r then answerT d.sort (upOf s.table d.key) else "again"), (if 0 < r then behindT d.sort (upOf s.table d.key) else upOf s.table d.key)) }))) (.d (.bl (upOf s.table d.key)))) := by
  have z1 := (kput_lt (d := d) (k := .inr "end") (x := .non)).2.1
  have zt : s.table.length < sizeLine := Nat.lt_of_lt_of_le hz (by rw [sizeLine_eq]; decide)
  have z2 : (kput (kput d.kvs (.inr "moment") (.int s.clock)) (.inr "turn") (.int turn)).length + 2 < sizeLine := by
    have h1 := kvs_len (d := d)
    have h2 := kput_len (ds := d.kvs) (k := .inr "moment") (x := .int s.clock)
    have h3 := kput_len (ds := kput d.kvs (.inr "moment") (.int s.clock)) (k := .inr "turn") (x := .int turn)
    have h4 : 100 ≤ sizeLine := by rw [sizeLine_eq]; decide
    omega
  obtain ⟨w, t⟩ := tk_eq h
  have a := kp_act (d := d) (c := s.clock) (t := turn) (u := upOf s.table d.key) (z := "again") hd
  have e1 : sSet1 11 (aMeth "dict" gGet (aVar 5) (aCons (aOp2 gIx (aVar 10) (aK (.str "key"))) (aCons (aK (.bl false)) aNil))) (slots s s1 many s3 (.d (.int turn)) s8 s9 (.own (.dct d.kvs)) s11) =
      .ok .nx (slots s s1 many s3 (.d (.int turn)) s8 s9 (.own (.dct d.kvs)) (.d (.bl (upOf s.table d.key)))) := by
    simp [runF, outF, sSeq, sIf, sRet, sRetN, sSet1, sSet, sTg, sExpr, sNx, aVar, aK, aCons, aNil, aOp2, app2, aCall, valL, E.val, aT, aNotT, aAndT, aOrT, aAndV, aOrV, aNotV, aIf, aChain, aTup, aLst, keepL, keep1, freeze, toSL, toS, setL, aFn, appFn, argS, slIx, wb, aIter, D.items?, aMeth, D.tyn, aSlice, aPart, aPartN, gIsi, D.isi, gIs, gIsn, D.is?, D.seq?, aStar, O.toD, eBl, eInt, eStr, tset, tsetL, wipeS, backS, nOwn, D.imm, slots, gIx, D.key?, kg_key, get_up]
  have e2 : sPut2 10 "moment" "turn" (aCons (aVar 6) (aCons (aVar 7) aNil)) (slots s s1 many s3 (.d (.int turn)) s8 s9 (.own (.dct d.kvs)) (.d (.bl (upOf s.table d.key)))) =
      .ok .nx (slots s s1 many s3 (.d (.int turn)) s8 s9 (.own (.dct (kput (kput d.kvs (.inr "moment") (.int s.clock)) (.inr "turn") (.int turn)))) (.d (.bl (upOf s.table d.key)))) := by
    simp [runF, outF, sSeq, sIf, sRet, sRetN, sSet1, sSet, sTg, sExpr, sNx, aVar, aK, aCons, aNil, aOp2, app2, aCall, valL, E.val, aT, aNotT, aAndT, aOrT, aAndV, aOrV, aNotV, aIf, aChain, aTup, aLst, keepL, keep1, freeze, toSL, toS, setL, aFn, appFn, argS, slIx, wb, aIter, D.items?, aMeth, D.tyn, aSlice, aPart, aPartN, gIsi, D.isi, gIs, gIsn, D.is?, D.seq?, aStar, O.toD, eBl, eInt, eStr, tset, tsetL, wipeS, backS, nOwn, D.imm, slots, sPut2, z1]
  have e3 : sPut2 10 "said" "stands" (aCons (aK (.str "again")) (aCons (aVar 11) aNil)) (slots s s1 many s3 (.d (.int turn)) s8 s9 (.own (.dct (kput (kput d.kvs (.inr "moment") (.int s.clock)) (.inr "turn") (.int turn)))) (.d (.bl (upOf s.table d.key)))) =
      .ok .nx (slots s s1 many s3 (.d (.int turn)) s8 s9 (.own (.dct (Deed.kvs { d with mo := some (s.clock, turn, "again", upOf s.table d.key) }))) (.d (.bl (upOf s.table d.key)))) := by
    simp [runF, outF, sSeq, sIf, sRet, sRetN, sSet1, sSet, sTg, sExpr, sNx, aVar, aK, aCons, aNil, aOp2, app2, aCall, valL, E.val, aT, aNotT, aAndT, aOrT, aAndV, aOrV, aNotV, aIf, aChain, aTup, aLst, keepL, keep1, freeze, toSL, toS, setL, aFn, appFn, argS, slIx, wb, aIter, D.items?, aMeth, D.tyn, aSlice, aPart, aPartN, gIsi, D.isi, gIs, gIsn, D.is?, D.seq?, aStar, O.toD, eBl, eInt, eStr, tset, tsetL, wipeS, backS, nOwn, D.imm, slots, sPut2, z2, a]
  have e4 : sIf (aT (aOp2 gGt (aFn mt (aCons (aVar 0) (aCons (aK (.int 7)) aNil))) (aK (.int 0)))) (fSay ma mb) sNx (slots s s1 many s3 (.d (.int turn)) s8 s9 (.own (.dct (Deed.kvs { d with mo := some (s.clock, turn, "again", upOf s.table d.key) }))) (.d (.bl (upOf s.table d.key)))) =
      .ok .nx (slots { s with jar := j } s1 many s3 (.d (.int turn)) s8 s9 (.own (.dct (Deed.kvs { d with mo := some (s.clock, turn, (if 0 < r then answerT d.sort (upOf s.table d.key) else "again"), (if 0 < r then behindT d.sort (upOf s.table d.key) else upOf s.table d.key)) }))) (.d (.bl (upOf s.table d.key)))) := by
    have c : aT (aOp2 gGt (aFn mt (aCons (aVar 0) (aCons (aK (.int 7)) aNil))) (aK (.int 0))) (slots s s1 many s3 (.d (.int turn)) s8 s9 (.own (.dct (Deed.kvs { d with mo := some (s.clock, turn, "again", upOf s.table d.key) }))) (.d (.bl (upOf s.table d.key)))) =
        .ok (decide (0 < r)) (slots { s with jar := j } s1 many s3 (.d (.int turn)) s8 s9 (.own (.dct (Deed.kvs { d with mo := some (s.clock, turn, "again", upOf s.table d.key) }))) (.d (.bl (upOf s.table d.key)))) := by
      simp [runF, outF, sSeq, sIf, sRet, sRetN, sSet1, sSet, sTg, sExpr, sNx, aVar, aK, aCons, aNil, aOp2, app2, aCall, valL, E.val, aT, aNotT, aAndT, aOrT, aAndV, aOrV, aNotV, aIf, aChain, aTup, aLst, keepL, keep1, freeze, toSL, toS, setL, aFn, appFn, argS, slIx, wb, aIter, D.items?, aMeth, D.tyn, aSlice, aPart, aPartN, gIsi, D.isi, gIs, gIsn, D.is?, D.seq?, aStar, O.toD, eBl, eInt, eStr, tset, tsetL, wipeS, backS, nOwn, D.imm, slots, t, gGt]
    unfold sIf
    rw [c, Res.bind_ok]
    by_cases hr : 0 < r
    · simp only [hr, decide_true, if_true]
      exact fSay_eq (s := { s with jar := j }) (d := { d with mo := some (s.clock, turn, "again", upOf s.table d.key) }) hma hmb rfl
    · simp only [hr, decide_false, Bool.false_eq_true, if_false]
      rfl
  unfold fAct
  unfold sSeq
  rw [e1]
  simp only [e2, e3, e4]
  generalize (if 0 < r then answerT d.sort (upOf s.table d.key) else (Str.ofString "again")) = sd
  generalize (if 0 < r then behindT d.sort (upOf s.table d.key) else upOf s.table d.key) = st
  have g1 := kg_key (d := { d with mo := some (s.clock, turn, sd, st) })
  have g2 := kg_stands (d := { d with mo := some (s.clock, turn, sd, st) }) rfl
  simp [runF, outF, sSeq, sIf, sRet, sRetN, sSet1, sSet, sTg, sExpr, sNx, aVar, aK, aCons, aNil, aOp2, app2, aCall, valL, E.val, aT, aNotT, aAndT, aOrT, aAndV, aOrV, aNotV, aIf, aChain, aTup, aLst, keepL, keep1, freeze, toSL, toS, setL, aFn, appFn, argS, slIx, wb, aIter, D.items?, aMeth, D.tyn, aSlice, aPart, aPartN, gIsi, D.isi, gIs, gIsn, D.is?, D.seq?, aStar, O.toD, eBl, eInt, eStr, tset, tsetL, wipeS, backS, nOwn, D.imm, slots, sPut, putO, gIx, D.key?, g1, g2, zt, put_up]
theorem fB_c : aT (aOp2 gIsn (aOp2 gIx (aVar 10) (aK (.str "moment"))) (aK .non)) (slots s s1 many s3 s7 s8 s9 (.own (.dct d.kvs)) s11) = .ok d.mo.isSome (slots s s1 many s3 s7 s8 s9 (.own (.dct d.kvs)) s11) := by
  have g := kg_moment (d := d)
  cases h : d.mo <;> rw [h] at g <;> simp [runF, outF, sSeq, sIf, sRet, sRetN, sSet1, sSet, sTg, sExpr, sNx, aVar, aK, aCons, aNil, aOp2, app2, aCall, valL, E.val, aT, aNotT, aAndT, aOrT, aAndV, aOrV, aNotV, aIf, aChain, aTup, aLst, keepL, keep1, freeze, toSL, toS, setL, aFn, appFn, argS, slIx, wb, aIter, D.items?, aMeth, D.tyn, aSlice, aPart, aPartN, gIsi, D.isi, gIs, gIsn, D.is?, D.seq?, aStar, O.toD, eBl, eInt, eStr, tset, tsetL, wipeS, backS, nOwn, D.imm, slots, gIx, D.key?, g, oi, gIsn, D.is?]
end
end
end L2.AL
/-! BW: the walk of the story. -/
namespace L2.AL
open PySem PySem.Spec PyProof.Rows
section
variable {B : Bk} {W : WX'} {P : List Nat} {σ : St} {ρ ρ1 : List S} {H G : Hp} {D' : Ends}
theorem liftS_nx {f : List S → Res Fl} (r : Rel B G σ ρ H) (e : f ρ = .ok .nx ρ1) (h : ∀ σ' H' G', Post B σ ρ H G σ' ρ1 H' G' → Keeps P σ σ' → D'.nx σ' H') : liftS B W P f D' σ H :=
  ⟨G, ρ, r, by rw [e]; exact h⟩
theorem liftT_ok {f : List S → Res Bool} {b : Bool} {Q : Bool → Hp → Prop} (r : Rel B G σ ρ H) (e : f ρ = .ok b ρ1) (h : ∀ H' G', Post B σ ρ H G σ ρ1 H' G' → Q b H') : liftT B W f σ H Q :=
  ⟨G, ρ, r, by rw [e]; exact h⟩
end
/-- what stands before a turn -/
def raws (as : List Addr) : S := .own (.lst (as.map fun a => .raw (.ref a)))
structure Stand (B : Bk) (H0 : Hp) (s1 : S) (many : Int) (s : SSt) (s7 : S) (as : List Addr) (σ : St) (ρ : List S) (H G : Hp) : Prop where
  sl : ∃ s8 s9 s10 s11, ρ = slots s s1 many (raws as) s7 s8 s9 s10 s11
  cl : Cells B H0 σ ρ H G as (s.deeds.map Deed.kvs)
section
variable {B : Bk} {σ σ' : St} {ρ ρ' : List S} {H H' H0 G G' : Hp} {s s' : SSt} {s1 s7 : S} {many : Int} {as : List Addr}
theorem Stand.len (h : Stand B H0 s1 many s s7 as σ ρ H G) : (as.map fun a => D.raw (.ref a)).length = s.deeds.length := by
  have := h.cl.len
  simpa using this
theorem Stand.go (h : Stand B H0 s1 many s s7 as σ ρ H G) (p : Post B σ ρ H G σ' ρ' H' G') (e : s'.deeds = s.deeds) (hs : ∃ s8 s9 s10 s11, ρ' = slots s' s1 many (raws as) s7 s8 s9 s10 s11) : Stand B H0 s1 many s' s7 as σ' ρ' H' G' :=
  ⟨hs, by rw [e]; exact h.cl.post p⟩
end
section
variable {X : Cx} {W : WX'} {mt mo ma mb : List S → Res E}
/-- the body of the loop -/
def tBody (B : Bk) (W : WX') (mt mo ma mb : List S → Res E) : TS :=
  tIfS (liftT B W (fC1 mt)) (tSeq (liftS B W [0, 1, 2] (f6 mo)) (tSeq (liftS B W [0, 1, 2] f4) (tSeq (liftS B W [0, 1, 2] (f8 mo)) (tAppCell B 3 (fD mo)))))
    (tIfS (liftT B W fC2) (tSeq (liftS B W [0, 1, 2] (f9 mo)) (tSeq (liftS B W [0, 1, 2] f10) (liftS B W [0, 1, 2, 10] (fB mt mo ma mb)))) tNext)
section
variable {B : Bk} {σ0 σ : St} {ρ0 ρ : List S} {H0 G0 H G : Hp} {s st : SSt} {s1 : S} {many turn : Int} {as : List Addr} {ks : List Str} {D' : Ends}
variable (hof : mo = runF 2 0 (sRet (aOp2 gIx (aVar 1) (aFn mt (aCons (aVar 0) (aCons (aCall gLen (aCons (aVar 1) aNil)) aNil))))))
variable (hma : ∀ so u, ma [.d (.str (Srt.str so)), .d (.bl u)] = .ok (.d (.str (answerT so u))) [.d (.str (Srt.str so)), .d (.bl u)])
variable (hmb : ∀ so u, mb [.d (.str (Srt.str so)), .d (.bl u)] = .ok (.d (.bl (behindT so u))) [.d (.str (Srt.str so)), .d (.bl u)])
/-- what a turn must reach -/
def Reach (B : Bk) (σ0 : St) (ρ0 : List S) (H0 G0 : Hp) (s1 : S) (many : Int) (s7 : S) (st : SSt) (σ0' : St) (N : St → Hp → Prop) : Prop :=
  ∀ σ' ρ' H' G' as', Post B σ0 ρ0 H0 G0 σ' ρ' H' G' → Keeps [0, 1, 2] σ0' σ' → Stand B H0 s1 many st s7 as' σ' ρ' H' G' → N σ' H'
theorem Reach.keep {s7 : S} {σ1 σ2 : St} {N : St → Hp → Prop} (h : Reach B σ0 ρ0 H0 G0 s1 many s7 st σ1 N) (k : Keeps [0, 1, 2] σ1 σ2) : Reach B σ0 ρ0 H0 G0 s1 many s7 st σ2 N :=
  fun σ' ρ' H' G' as' p kk z => h σ' ρ' H' G' as' p (k.trans kk) z
include hof in
theorem begin_go {D' : Ends} (hk : keysS s1 = some ks) (P0 : Post B σ0 ρ0 H0 G0 σ ρ H G) (Z : Stand B H0 s1 many s (.d (.int turn)) as σ ρ H G) (e : beginS mt ks s = some st) (h : Reach B σ0 ρ0 H0 G0 s1 many (.d (.int turn)) st σ D'.nx) :
    tSeq (liftS B W [0, 1, 2] (f6 mo)) (tSeq (liftS B W [0, 1, 2] f4) (tSeq (liftS B W [0, 1, 2] (f8 mo)) (tAppCell B 3 (fD mo)))) D' σ H := by
  unfold beginS at e
  split at e
  · rename_i hz
    obtain ⟨p, e1, e⟩ := Option.bind_eq_some_iff.mp e
    obtain ⟨q, e2, e⟩ := Option.bind_eq_some_iff.mp e
    obtain ⟨k, e3, e⟩ := Option.bind_eq_some_iff.mp e
    cases e
    obtain ⟨s8, s9, s10, s11, rfl⟩ := Z.sl
    obtain ⟨px, pj⟩ := p
    obtain ⟨qx, qj⟩ := q
    obtain ⟨kx, kj⟩ := k
    have ln := Z.len
    refine liftS_nx P0.rel (f6_eq hof e1) fun σ1 H1 G1 p1 k1 => ?_
    have Z1 : Stand B H0 s1 many { s with jar := pj, clock := s.clock + 1 + px } (.d (.int turn)) as σ1 _ H1 G1 := Z.go p1 rfl ⟨_, _, _, _, rfl⟩
    refine liftS_nx p1.rel (f4_eq (s := { s with jar := pj, clock := s.clock + 1 + px }) _ ln hz.2) fun σ2 H2 G2 p2 k2 => ?_
    have Z2 : Stand B H0 s1 many { s with jar := pj, clock := s.clock + 1 + px, going := s.going ++ [s.deeds.length] } (.d (.int turn)) as σ2 _ H2 G2 := Z1.go p2 rfl ⟨_, _, _, _, rfl⟩
    refine liftS_nx p2.rel (f8_eq (s := { s with jar := pj, clock := s.clock + 1 + px, going := s.going ++ [s.deeds.length] }) hof e2) fun σ3 H3 G3 p3 k3 => ?_
    have Z3 : Stand B H0 s1 many { s with jar := qj, clock := s.clock + 1 + px, going := s.going ++ [s.deeds.length] } (.d (.int turn)) as σ3 _ H3 G3 := Z2.go p3 rfl ⟨_, _, _, _, rfl⟩
    have PP := ((P0.trans p1).trans p2).trans p3
    refine ⟨G3, _, _, _, _, p3.rel, rfl, ?_, fD_eq (s := { s with jar := qj, clock := s.clock + 1 + px, going := s.going ++ [s.deeds.length] }) hof hk e3, rfl, fun c H4 G4 p4 c1 c2 c3 c4 => ?_⟩
    · rw [ln]; exact Nat.lt_of_lt_of_le hz.1 (by rw [sizeLine_eq]; decide)
    have hcs : c ∉ as := fun hc => by
      obtain ⟨m, hm, em⟩ := List.mem_iff_getElem.mp hc
      have hl : m < (s.deeds.map Deed.kvs).length := by rw [← Z3.cl.len]; exact hm
      obtain ⟨kv, o1, _⟩ := (Z3.cl.ok m c _ (by rw [← em]; exact List.getElem?_eq_getElem hm) (List.getElem?_eq_getElem hl)).obj
      rw [c1] at o1; cases o1
    have C4 : CellOk B H0 σ3 _ H4 G4 c (Deed.kvs ⟨s.clock + 1 + px, none, kx, qx, none⟩) := ⟨c2, PP.dom c c1, c3, c4⟩
    refine h σ3 _ H4 G4 (as ++ [c]) (PP.trans p4) ((k1.trans k2).trans k3) ⟨⟨.d (.str qx.str), s9, s10, s11, ?_⟩, ?_⟩
    · simp [slots, raws]
    · rw [List.map_append]
      exact (Z3.cl.post p4).snoc C4 hcs
  · cases e
theorem alias_go {a : Addr} {n : Nat} {s9 s8 s11 : S} {d : Deed} {mtb : List S → Res Fl} {s' : SSt} {c' : Deed} {x11 : S} (ha : as[n]? = some a) (hd : s.deeds[n]? = some d) (P0 : Post B σ0 ρ0 H0 G0 σ ρ H G) (er : ρ = slots s s1 many (raws as) (.d (.int turn)) s8 s9 (.d (.raw (.ref a))) s11)
    (cl : Cells B H0 σ ρ H G as (s.deeds.map Deed.kvs)) (ex : mtb (slots s s1 many (raws as) (.d (.int turn)) s8 s9 (.own (.dct d.kvs)) s11) = .ok .nx (slots s' s1 many (raws as) (.d (.int turn)) s8 s9 (.own (.dct c'.kvs)) x11)) (hd' : s'.deeds = s.deeds)
    (h : Reach B σ0 ρ0 H0 G0 s1 many (.d (.int turn)) { s' with deeds := s.deeds.set n c' } σ D'.nx) : liftS B W [0, 1, 2, 10] mtb D' σ H := by
  have hs : σ[10]? = some (some (.ref a)) := by
    obtain ⟨v, e1, u, e2, e3⟩ := P0.rel.slot 10 (.d (.raw (.ref a))) (by rw [er]; rfl)
    rw [Fz] at e3
    rw [e1, e2, e3]
  have hc : (s.deeds.map Deed.kvs)[n]? = some d.kvs := by rw [List.getElem?_map, hd]; rfl
  have c1 := cl.ok n a _ ha hc
  have P1 := P0.adopt c1 (j := 10) (by rw [er]; exact (by decide : 10 < 12)) hs
  have e1 : ρ.set 10 (.own (.dct d.kvs)) = slots s s1 many (raws as) (.d (.int turn)) s8 s9 (.own (.dct d.kvs)) s11 := by rw [er]; rfl
  rw [e1] at P1
  refine liftS_nx P1.rel ex fun σ2 H2 G2 p2 k2 => ?_
  have k10 : σ2[10]? = σ[10]? := k2 10 (by decide)
  have bk := cl.back (j := 10) ha hc hs (by rw [e1]; exact p2) rfl k10
  refine h σ2 _ H2 G2 as ((P1.trans p2).drop1 (j := 10)) (fun j hj => k2 j (by simp at hj ⊢; omega)) ⟨⟨s8, s9, .no, x11, rfl⟩, ?_⟩
  rw [List.map_set]
  exact bk
include hof hma hmb in
theorem on_go (hk : keysS s1 = some ks) (P0 : Post B σ0 ρ0 H0 G0 σ ρ H G) (Z : Stand B H0 s1 many s (.d (.int turn)) as σ ρ H G) (e : onS mt turn s = some st) (h : Reach B σ0 ρ0 H0 G0 s1 many (.d (.int turn)) st σ D'.nx) :
    tIfS (liftT B W fC2) (tSeq (liftS B W [0, 1, 2] (f9 mo)) (tSeq (liftS B W [0, 1, 2] f10) (liftS B W [0, 1, 2, 10] (fB mt mo ma mb)))) tNext D' σ H := by
  obtain ⟨s8, s9, s10, s11, rfl⟩ := Z.sl
  refine liftT_ok P0.rel fC2_eq fun H1 G1 p1 => ?_
  have P1 := P0.trans p1
  have Z1 : Stand B H0 s1 many s (.d (.int turn)) as σ _ H1 G1 := Z.go p1 rfl ⟨_, _, _, _, rfl⟩
  unfold onS at e
  split at e
  · rename_i hg
    cases e
    rw [hg]
    exact h σ _ H1 G1 as P1 .refl Z1
  · rename_i hg
    rw [show (!decide (s.going = [])) = true by simp [hg]]
    obtain ⟨p, e1, e⟩ := Option.bind_eq_some_iff.mp e
    obtain ⟨n, j⟩ := p
    obtain ⟨d, e2, e⟩ := Option.bind_eq_some_iff.mp e
    refine liftS_nx P1.rel (f9_eq hof e1) fun σ2 H2 G2 p2 k2 => ?_
    have Z2 : Stand B H0 s1 many { s with jar := j } (.d (.int turn)) as σ2 _ H2 G2 := Z1.go p2 rfl ⟨_, _, _, _, rfl⟩
    have P2 := P1.trans p2
    have hn : n < as.length := by
      have := Z.cl.len
      have := (List.getElem?_eq_some_iff.mp e2).1
      simp at *
      omega
    have ha : as[n]? = some as[n] := List.getElem?_eq_getElem hn
    refine liftS_nx P2.rel (f10_eq (x := .raw (.ref as[n])) (by rw [List.getElem?_map, ha]; rfl)) fun σ3 H3 G3 p3 k3 => ?_
    have P3 := P2.trans p3
    have cl3 := Z2.cl.post p3
    have h3 := h.keep (k2.trans k3)
    have mem : n ∈ s.going := by
      unfold pk at e1
      obtain ⟨p, _, q2⟩ := Option.bind_eq_some_iff.mp e1
      split at q2
      · obtain ⟨y, q3, q4⟩ := Option.map_eq_some_iff.mp q2
        cases q4
        exact List.mem_of_getElem? q3
      · cases q2
    have cc := fB_c (s := { s with jar := j }) (s1 := s1) (many := many) (s3 := raws as) (s7 := .d (.int turn)) (s8 := s8) (s9 := .d (.int n)) (s11 := s11) (d := d)
    cases hm : d.mo with
    | some m =>
      rw [hm] at e cc
      have e : endS mt n d { s with jar := j } = some st := e
      unfold endS at e
      obtain ⟨p, e3, e⟩ := Option.bind_eq_some_iff.mp e
      obtain ⟨px, pj⟩ := p
      cases e
      refine alias_go (x11 := s11) (s := { s with jar := j }) (c' := { d with e := some (s.clock + 1 + px) }) (s' := { s with jar := pj, going := s.going.erase n, clock := s.clock + 1 + px }) ha (d := d) e2 P3 rfl cl3 ?_ rfl h3
      unfold fB sIf
      rw [cc, Res.bind_ok]
      exact fEnd_eq (s := { s with jar := j }) hof e3 mem
    | none =>
      rw [hm] at e cc
      have e : actS mt turn n d { s with jar := j } = some st := e
      unfold actS at e
      split at e
      · rename_i hz
        obtain ⟨p, e3, e⟩ := Option.bind_eq_some_iff.mp e
        obtain ⟨px, pj⟩ := p
        cases e
        refine alias_go (x11 := .d (.bl (upOf s.table d.key))) (s := { s with jar := j }) (s' := { s with jar := pj, table := putT s.table d.key (if 0 < px then behindT d.sort (upOf s.table d.key) else upOf s.table d.key) }) ha (d := d) e2 P3 rfl cl3 ?_ rfl h3
        unfold fB sIf
        rw [cc, Res.bind_ok]
        exact fAct_eq (s := { s with jar := j }) hma hmb e3 hm hz
      · cases e
include hof hma hmb in
theorem body_go (hk : keysS s1 = some ks) (P0 : Post B σ0 ρ0 H0 G0 σ ρ H G) (Z : Stand B H0 s1 many s (.d (.int turn)) as σ ρ H G) (e : turnS mt ks many turn s = some st) (h : Reach B σ0 ρ0 H0 G0 s1 many (.d (.int turn)) st σ D'.nx) :
    tBody B W mt mo ma mb D' σ H := by
  obtain ⟨s8, s9, s10, s11, rfl⟩ := Z.sl
  have ln := Z.len
  unfold turnS at e
  split at e
  · rename_i hl
    split at e
    · rename_i hg
      refine liftT_ok P0.rel (fC1_lt _ ln hl hg) fun H1 G1 p1 => ?_
      exact begin_go hof hk (P0.trans p1) (Z.go p1 rfl ⟨_, _, _, _, rfl⟩) e h
    · rename_i hg
      obtain ⟨p, e1, e⟩ := Option.bind_eq_some_iff.mp e
      obtain ⟨r, j⟩ := p
      refine liftT_ok P0.rel (fC1_tk _ ln hl hg e1) fun H1 G1 p1 => ?_
      have e : (if r = 0 then beginS mt ks { s with jar := j } else onS mt turn { s with jar := j }) = some st := e
      have Z1 : Stand B H0 s1 many { s with jar := j } (.d (.int turn)) as σ _ H1 G1 := Z.go p1 rfl ⟨_, _, _, _, rfl⟩
      by_cases hr : r = 0
      · rw [if_pos hr] at e
        simp only [hr, decide_true]
        exact begin_go hof hk (P0.trans p1) Z1 e h
      · rw [if_neg hr] at e
        simp only [hr, decide_false]
        exact on_go hof hma hmb hk (P0.trans p1) Z1 e h
  · rename_i hl
    refine liftT_ok P0.rel (fC1_ge _ ln hl) fun H1 G1 p1 => ?_
    exact on_go hof hma hmb hk (P0.trans p1) (Z.go p1 rfl ⟨_, _, _, _, rfl⟩) e h
end
section
variable {pos : Pos} {sI sFin : Stmt} {tg iter : Expr} {body : List Stmt}
/-- the whole def -/
theorem story_walk (hof : mo = runF 2 0 (sRet (aOp2 gIx (aVar 1) (aFn mt (aCons (aVar 0) (aCons (aCall gLen (aCons (aVar 1) aNil)) aNil))))))
    (hma : ∀ so u, ma [.d (.str (Srt.str so)), .d (.bl u)] = .ok (.d (.str (answerT so u))) [.d (.str (Srt.str so)), .d (.bl u)])
    (hmb : ∀ so u, mb [.d (.str (Srt.str so)), .d (.bl u)] = .ok (.d (.bl (behindT so u))) [.d (.str (Srt.str so)), .d (.bl u)])
    (hI : PSa X W [0, 1, 2] sI fInit) (hp : PassesOwn (model X.prog X.w) X.A X.env X.xe) (hc : X.calm = true) (hi : PIa X W tg iter fTurns) (hg : PG X tg (gD X.bk (.nm 7))) (hb : PSs X body (tBody X.bk W mt mo ma mb))
    (hR : PSa X W [0, 1, 2] sFin (sRet (aVar 3))) (hs : ∀ x, foldedSetIterable iter X.env x = pure x := by intro _; rfl) : PSsa X W [0, 1, 2] [sI, .For tg iter body [] pos, sFin] (bStory mt) :=
  pss_imp (pss_cons hI (pss_cons (s_forI (P := [0, 1, 2]) hp hc hi hg hb (by decide) hs) (pss_one hR))) fun D σ H ⟨G, ρ, r, h⟩ => by
    unfold bStory at h
    split at h
    · rename_i j s1 many
      split at h
      · rename_i ks hk
        split at h
        · rename_i hm
          split at h
          · rename_i st hst
            refine liftS_nx r fInit_eq fun σ1 H1 G1 p1 k1 => ?_
            refine ⟨G1, _, _, _, p1.rel, fTurns_eq hm.1 hm.2, fun H2 G2 p2 => ?_⟩
            refine ⟨fun i σi ρi Hi Gi => ∃ s as s7, Stand X.bk H2 s1 many s s7 as σi ρi Hi Gi ∧ goS mt ks many ((turns many).drop i) s = some st, ⟨⟨j, [], [], [], 0⟩, [], .no, ⟨⟨.no, .no, .no, .no, rfl⟩, .nil⟩, hst⟩, ?_, ?_⟩
            · rintro i σi ρi Hi Gi hi Q K ⟨s, as, s7, Z, hgo⟩
              rw [hi, List.length_map, List.drop_length] at hgo
              have hgo : s = st := Option.some.inj hgo
              subst hgo
              obtain ⟨s8, s9, s10, s11, rfl⟩ := Z.sl
              refine ⟨Gi, _, Q.rel, ?_⟩
              have er : sRet (aVar 3) (slots s s1 many (raws as) s7 s8 s9 s10 s11) = .ok (.rt (.sl 3)) (slots s s1 many (raws as) s7 s8 s9 s10 s11) := rfl
              rw [er]
              intro u σ' H' G' p3 k3 re _
              have re : σ'[3]? = some (some u) := re
              have C := Z.cl.post p3
              have Q3 := Q.trans p3
              obtain ⟨G'', p4, f4, s4, n4⟩ := C.freeze Q3
              obtain ⟨v, e1, a3, ho, e2, e3, e4, us, rfl, f5⟩ := p3.rel.slot 3 _ rfl
              rw [re] at e1; cases e1; cases e2
              have ow : Own σ' (slots s s1 many (raws as) s7 s8 s9 s10 s11) 3 a3 := ⟨re, _, rfl⟩
              have hus : us = as.map V.ref := by
                have q : ∀ (as : List Addr) (us : List V), FzL X.bk G' us (as.map fun a => AL.D.raw (.ref a)) → us = as.map V.ref := by
                  intro as
                  induction as with
                  | nil => intro us f; cases us with | nil => rfl | cons _ _ => rw [List.map_nil, FzL] at f; exact f.elim
                  | cons a as ih =>
                    intro us f
                    cases us with
                    | nil => rw [List.map_cons, FzL] at f; exact f.elim
                    | cons u us =>
                      rw [List.map_cons, FzL] at f
                      have f1 := f.1
                      rw [Fz] at f1
                      rw [f1, ih us f.2]; rfl
                exact q as us f5
              subst hus
              have na : a3 ∉ as := fun hc => by
                obtain ⟨m, hm, em⟩ := List.mem_iff_getElem.mp hc
                have hl : m < (s.deeds.map Deed.kvs).length := by rw [← C.len]; exact hm
                exact (C.ok m a3 _ (by rw [← em]; exact List.getElem?_eq_getElem hm) (List.getElem?_eq_getElem hl)).free 3 ow
              have PT : Post X.bk σ ([.own j, s1, .d (.int many), .no, .no, .no, .no, .no, .no, .no, .no, .no] : List S) H G σ' (slots s s1 many (raws as) s7 s8 s9 s10 s11) H' G'' := (p1.trans p2).trans p4
              have PF : Post X.bk σ ([.own j, s1, .d (.int many), .no, .no, .no, .no, .no, .no, .no, .no, .no] : List S) H G σ' [.own s.jar, s1, .d (.int many), .no, .no, .no, .no, .no, .no, .no, .no, .no] H' G'' :=
                PT.forget rfl fun i z hz => by
                  match i, hz with
                  | 0, hz => exact .inr hz
                  | 1, hz => exact .inr hz
                  | 2, hz => exact .inr hz
                  | 3, hz => cases hz; exact .inl rfl
                  | 4, hz => cases hz; exact .inl rfl
                  | 5, hz => cases hz; exact .inl rfl
                  | 6, hz => cases hz; exact .inl rfl
                  | 7, hz => cases hz; exact .inl rfl
                  | 8, hz => cases hz; exact .inl rfl
                  | 9, hz => cases hz; exact .inl rfl
                  | 10, hz => cases hz; exact .inl rfl
                  | 11, hz => cases hz; exact .inl rfl
                  | n + 12, hz => simp at hz
              have ow' : ∀ i, Own σ' ([.own s.jar, s1, .d (.int many), .no, .no, .no, .no, .no, .no, .no, .no, .no] : List S) i a3 → False := fun i ⟨w1, o, w2⟩ => by
                have : i < 3 := by
                  match i, w2 with
                  | 0, _ => omega
                  | 1, _ => omega
                  | 2, _ => omega
                  | 3, w2 => cases w2
                  | 4, w2 => cases w2
                  | 5, w2 => cases w2
                  | 6, w2 => cases w2
                  | 7, w2 => cases w2
                  | 8, w2 => cases w2
                  | 9, w2 => cases w2
                  | 10, w2 => cases w2
                  | 11, w2 => cases w2
                  | n + 12, w2 => simp at w2
                have w3 : (slots s s1 many (raws as) s7 s8 s9 s10 s11)[i]? = some (.own o) := by
                  match i, this, w2 with
                  | 0, _, w2 => exact w2
                  | 1, _, w2 => exact w2
                  | 2, _, w2 => exact w2
                have := p3.rel.sep i 3 a3 ⟨w1, o, w3⟩ ow
                omega
              refine h (.ref a3) σ' H' G'' PF (k1.trans (K.trans k3)) ⟨a3, _, rfl, e3, n4 a3 na e4, ⟨_, rfl, by simpa [Function.comp_def] using f4⟩, ow'⟩ fun a ea => ?_
              cases ea
              rcases PT.own 3 a3 ow with ⟨_, o, z⟩ | z
              · cases z
              · exact z
            · rintro i x σi ρi Hi Gi hx Q K ⟨s, as, s7, Z, hgo⟩
              obtain ⟨s8, s9, s10, s11, rfl⟩ := Z.sl
              rw [List.getElem?_map] at hx
              obtain ⟨t, ht, rfl⟩ := Option.map_eq_some_iff.mp hx
              have hl := (List.getElem?_eq_some_iff.mp ht).1
              have hdr : (turns many).drop i = t :: (turns many).drop (i + 1) := by
                rw [List.drop_eq_getElem_cons hl]
                have : (turns many)[i] = t := by rw [List.getElem?_eq_getElem hl] at ht; exact Option.some.inj ht
                rw [this]
              rw [hdr, goS] at hgo
              obtain ⟨s', e1, e2⟩ := Option.bind_eq_some_iff.mp hgo
              refine ⟨slots s s1 many (raws as) (.d (.int t)) s8 s9 s10 s11, rfl, fun σ2 H3 G3 p3 k3 => ?_⟩
              have Z2 : Stand X.bk H2 s1 many s (.d (.int t)) as σ2 _ H3 G3 := ⟨⟨_, _, _, _, rfl⟩, Z.cl.post p3⟩
              exact body_go hof hma hmb hk (Q.trans p3) Z2 e1 fun σ' ρ' H' G' as' p' k' Z' => ⟨ρ', G', p', (K.trans k3).trans k', s', as', _, Z', e2⟩
          · exact h.elim
        · exact h.elim
      · exact h.elim
    · exact h.elim
/-- the body of the loop, by its derivations -/
theorem story_body {c1 c2 : Expr} {t6 t4 t8 tA t9 t10 tB : Stmt} {p1 p2 : Pos} (h1 : PTa X W c1 (fC1 mt)) (h6 : PSa X W [0, 1, 2] t6 (f6 mo)) (h4 : PSa X W [0, 1, 2] t4 f4) (h8 : PSa X W [0, 1, 2] t8 (f8 mo)) (hA : PS X tA (tAppCell X.bk 3 (fD mo)))
    (h2 : PTa X W c2 fC2) (h9 : PSa X W [0, 1, 2] t9 (f9 mo)) (h10 : PSa X W [0, 1, 2] t10 f10) (hB : PSa X W [0, 1, 2, 10] tB (fB mt mo ma mb)) :
    PSs X [.If c1 [t6, t4, t8, tA] [.If c2 [t9, t10, tB] [] p2] p1] (tBody X.bk W mt mo ma mb) :=
  pss_one (ps_if h1 (pss_cons h6 (pss_cons h4 (pss_cons h8 (pss_one hA)))) (pss_one (ps_if h2 (pss_cons h9 (pss_cons h10 (pss_one hB))) pss_nil)))
end
end
end L2.AL
namespace L2.AL.SH
open PySem PySem.Spec PyProof.Rows L2 L2.AL
def c_AGAIN : D := (.str "again")
def c_ANSWERS : D := (.cd [("put", (.tup [(.str "done"), (.str "refused"), (.str "again")])), ("drop", (.tup [(.str "done"), (.str "none"), (.str "again")])), ("look", (.tup [(.str "there"), (.str "none"), (.str "again")]))])
def c_BEGIN : D := (.tup [(.tup []), (.bl false)])
def c_LETTERS : D := (.str "abcdefghijklmnopqrstuvwxyz")
def c_LONGEST_NAME : D := (.int 8)
def c_LOOK : D := (.str "look")
def c_MOST_OF_A_KEY : D := (.int 8)
def c_MOST_RECORDS : D := (.int 24)
def c_RECORD : D := (.int 5)
/-- _law_jar: 0 _law_script, 1 _law_k, 2 _law_cell, 3 _law_mine -/
def b__law_jar : List S → Res Fl := (sSeq (sSet1 2 (aIf (aT (aOp2 gLt (aVar 1) (aCall gLen (aCons (aVar 0) aNil)))) (aOp2 gIx (aVar 0) (aVar 1)) (aOp2 gAdd (aOp2 gMul (aK (.int 29)) (aVar 1)) (aK (.int 11)))))
  (sSeq (sSet1 3 (aOp2 gMul (aOp2 gMod (aCall gInt (aCons (aCall gAbs (aCons (aVar 2) aNil)) aNil)) (aOp2 gPow (aOp2 gPow (aK (.int 10)) (aK (.int 60))) (aK (.int 5)))) (aCall gInt (aCons (aOp2 gGe (aCall gAbs (aCons (aVar 2) aNil)) (aOp2 gPow (aK (.int 10)) (aK (.int 18)))) aNil))))
  (sRet (aLst (aCons (aVar 3) (aCons (aOp2 gMod (aCall gInt (aCons (aOp2 gAdd (aOp2 gAdd (aOp2 gMul (aOp2 gMod (aCall gInt (aCons (aVar 2) aNil)) (aK (.int 2305843009213693951))) (aK (.int 70843))) (aOp2 gMul (aOp2 gMul (aK (.int 8521)) (aVar 1)) (aVar 1))) (aK (.int 41))) aNil)) (aK (.int 2305843009213693921))) (aCons (aK (.int 0)) aNil)))))))
def m__law_jar : List S → Res E := runF 2 2 b__law_jar
/-- _law_take: 0 _law_jar_here, 1 _law_many, 2 _law_digit, 3 _law_prime, 4 _law_made -/
def b__law_take : List S → Res Fl := (sSeq (sIf (aT (aOp2 gGt (aOp2 gIx (aVar 0) (aK (.int 0))) (aK (.int 0)))) (sSeq (sSet1 2 (aOp2 gMod (aCall gInt (aCons (aOp2 gIx (aVar 0) (aK (.int 0))) aNil)) (aVar 1)))
  (sSeq (sPut 0 (aK (.int 0)) (aOp2 gDiv (aOp2 gIx (aVar 0) (aK (.int 0))) (aVar 1)))
  (sRet (aVar 2)))) sNx)
  (sSeq (sPut 0 (aK (.int 2)) (aOp2 gAdd (aOp2 gIx (aVar 0) (aK (.int 2))) (aK (.int 1))))
  (sSeq (sSet1 3 (aOp2 gIx (aLst (aCons (aK (.int 2147483647)) (aCons (aK (.int 2147483629)) (aCons (aK (.int 2147483587)) (aCons (aK (.int 2147483579)) (aCons (aK (.int 2147483563)) aNil)))))) (aOp2 gMod (aCall gInt (aCons (aOp2 gIx (aVar 0) (aK (.int 2))) aNil)) (aK (.int 5)))))
  (sSeq (sSet1 4 (aOp2 gMod (aCall gInt (aCons (aOp2 gPow (aOp2 gAdd (aOp2 gAdd (aOp2 gIx (aVar 0) (aK (.int 1))) (aOp2 gMul (aOp2 gMul (aK (.int 99877)) (aOp2 gIx (aVar 0) (aK (.int 2)))) (aOp2 gIx (aVar 0) (aK (.int 2))))) (aK (.int 71))) (aK (.int 3))) aNil)) (aVar 3)))
  (sSeq (sSet1 4 (aOp2 gMod (aCall gInt (aCons (aOp2 gMul (aVar 4) (aOp2 gAdd (aOp2 gMod (aCall gInt (aCons (aVar 4) aNil)) (aK (.int 10007))) (aOp2 gMul (aK (.int 89)) (aOp2 gIx (aVar 0) (aK (.int 2)))))) aNil)) (aK (.int 2305843009213693907))))
  (sRet (aOp2 gMod (aCall gInt (aCons (aOp2 gDiv (aVar 4) (aK (.int 83))) aNil)) (aVar 1))))))))
def m__law_take : List S → Res E := runF 2 3 b__law_take
/-- _law_of: 0 _law_jar_here, 1 _law_some -/
def b__law_of : List S → Res Fl := (sRet (aOp2 gIx (aVar 1) (aFn m__law_take (aCons (aVar 0) (aCons (aCall gLen (aCons (aVar 1) aNil)) aNil)))))
def m__law_of : List S → Res E := runF 2 0 b__law_of
/-- _law_names: 0 _law_jar_here, 1 _law_many, 2 _law_small, 3 _law_stem, 4 _law_turn, 5 _law_spot, 6 _law_first, 7 _law_k -/
def b__law_names : List S → Res Fl := (sSeq (sSet1 2 (aK (.str "abcdefghijklmnopqrstuvwxyz")))
  (sSeq (sSet1 3 (aMeth "str" gJoin (aK (.str "")) (aCons (aLc [4] (aRng1 (aCons (aFn m__law_of (aCons (aVar 0) (aCons (aLst (aCons (aK (.int 0)) (aCons (aK (.int 0)) (aCons (aK (.int 1)) (aCons (aK (.int 3)) (aCons (aK (.int 7)) aNil)))))) aNil))) aNil)) (.nm 4) aYes (aFn m__law_of (aCons (aVar 0) (aCons (aVar 2) aNil)))) aNil)))
  (sSeq (sSet [5, 6] (aCons (aFn m__law_take (aCons (aVar 0) (aCons (aOp2 gAdd (aCall gLen (aCons (aVar 3) aNil)) (aK (.int 1))) aNil))) (aCons (aFn m__law_take (aCons (aVar 0) (aCons (aK (.int 26)) aNil))) aNil)))
  (sRet (aLc [7] (aRng1 (aCons (aVar 1) aNil)) (.nm 7) aYes (aOp2 gAdd (aOp2 gAdd (aSlice (aVar 3) aPartN (aPart (aVar 5))) (aOp2 gIx (aVar 2) (aOp2 gMod (aCall gInt (aCons (aOp2 gAdd (aVar 6) (aOp2 gMul (aK (.int 3)) (aVar 7))) aNil)) (aK (.int 26))))) (aSlice (aVar 3) (aPart (aVar 5)) aPartN)))))))
def m__law_names : List S → Res E := runF 2 6 b__law_names
/-- _law_told: 0 _law_deeds, 1 _law_found, 2 _law_one -/
def b__law_told : List S → Res Fl := (sSeq (sSet1 1 (aLst aNil))
  (sSeq (sFor (aIter (aVar 0)) (.nm 2) (sExpr (aMut "list" 1 uAppend (aCons (aTup (aCons (aOp2 gIx (aVar 2) (aK (.str "begin"))) (aCons (aOp2 gIx (aVar 2) (aK (.str "end"))) (aCons (aOp2 gIx (aVar 2) (aK (.str "key"))) (aCons (aOp2 gIx (aVar 2) (aK (.str "sort"))) (aCons (aIf (aT (aOp2 gIs (aOp2 gIx (aVar 2) (aK (.str "end"))) (aK .non))) (aK .non) (aOp2 gIx (aVar 2) (aK (.str "said")))) aNil)))))) aNil))))
  (sRet (aCall gTuple (aCons (aVar 1) aNil)))))
def m__law_told : List S → Res E := runF 1 2 b__law_told
/-- _law_answer: 0 _law_sort, 1 _law_is_up -/
def b__law_answer : List S → Res Fl := (sRet (aOp2 gIx (aOp2 gIx (aDict [("put", (aTup (aCons (aK (.str "done")) (aCons (aK (.str "refused")) aNil)))), ("drop", (aTup (aCons (aK (.str "none")) (aCons (aK (.str "done")) aNil)))), ("look", (aTup (aCons (aK (.str "none")) (aCons (aK (.str "there")) aNil))))]) (aVar 0)) (aCall gInt (aCons (aVar 1) aNil))))
def m__law_answer : List S → Res E := runF 2 0 b__law_answer
/-- _law_behind: 0 _law_sort, 1 _law_is_up -/
def b__law_behind : List S → Res Fl := (sRet (aOrV (aOp2 gEq (aVar 0) (aK (.str "put"))) (aAndV (aOp2 gEq (aVar 0) (aK (.str "look"))) (aVar 1))))
def m__law_behind : List S → Res E := runF 2 0 b__law_behind
def b__law_story : List S → Res Fl := bStory m__law_take
def m__law_story : List S → Res E := runF 3 9 b__law_story
/-- _law_answers: 0 _law_sort -/
def b__law_answers : List S → Res Fl := (sSeq (sIf (aT (aOp2 gEq (aVar 0) (aK (.str "put")))) (sRet (aTup (aCons (aK (.str "done")) (aCons (aK (.str "refused")) (aCons (aK (.str "again")) aNil))))) sNx)
  (sRet (aIf (aT (aOp2 gEq (aVar 0) (aK (.str "drop")))) (aTup (aCons (aK (.str "done")) (aCons (aK (.str "none")) (aCons (aK (.str "again")) aNil)))) (aTup (aCons (aK (.str "there")) (aCons (aK (.str "none")) (aCons (aK (.str "again")) aNil)))))))
def m__law_answers : List S → Res E := runF 1 0 b__law_answers
/-- _law_keyed: 0 _law_book, 1 _law_sign, 2 _law_number, 3 _law_record -/
def b__law_keyed : List S → Res Fl := (sRet (aLc [2, 3] (aEnumA (aCons (aVar 0) aNil)) (.tp [(.nm 2), (.nm 3)]) (aT (aOp2 gEq (aOp2 gIx (aVar 3) (aK (.int 2))) (aVar 1))) (aVar 2)))
def m__law_keyed : List S → Res E := runF 2 2 b__law_keyed
/-- _law_counts: 0 _law_record -/
def b__law_counts : List S → Res Fl := (sRet (aAndV (aOp2 gIsn (aOp2 gIx (aVar 0) (aK (.int 4))) (aK .non)) (aOp2 gNe (aOp2 gIx (aVar 0) (aK (.int 4))) (aK (.str "again")))))
def m__law_counts : List S → Res E := runF 1 0 b__law_counts
/-- _law_may: 0 _law_record -/
def b__law_may : List S → Res Fl := (sRet (aOrV (aFn m__law_counts (aCons (aVar 0) aNil)) (aAndV (aOp2 gIs (aOp2 gIx (aVar 0) (aK (.int 1))) (aK .non)) (aOp2 gNe (aOp2 gIx (aVar 0) (aK (.int 3))) (aK (.str "look"))))))
def m__law_may : List S → Res E := runF 1 0 b__law_may
/-- _law_next: 0 _law_book, 1 _law_numbers, 2 _law_here, 3 _law_done, 4 _law_is_up, 5 _law_found, 6 _law_number, 7 _law_begin, 8 _law_end, 9 _law_sign, 10 _law_sort, 11 _law_answer_here, 12 _law_left, 13 _law_other, 14 _law_is_next -/
def b__law_next : List S → Res Fl := (sSeq (sSet [3, 4, 5] (aCons (aOp2 gIx (aVar 2) (aK (.int 0))) (aCons (aOp2 gIx (aVar 2) (aK (.int 1))) (aCons (aLst aNil) aNil))))
  (sSeq (sFor (aIter (aVar 1)) (.nm 6) (sSeq (sTg (.tp [(.nm 7), (.nm 8), (.nm 9), (.nm 10), (.nm 11)]) (aOp2 gIx (aVar 0) (aVar 6)))
  (sSeq (sSet1 12 (aLc [13] (aIter (aVar 1)) (.nm 13) (aAndT (aT (aOp2 gNi (aVar 13) (aVar 3))) (aT (aFn m__law_counts (aCons (aOp2 gIx (aVar 0) (aVar 13)) aNil)))) (aVar 13)))
  (sSeq (sSet1 14 (aAndV (aOp2 gNi (aVar 6) (aVar 3)) (aFn m__law_may (aCons (aOp2 gIx (aVar 0) (aVar 6)) aNil))))
  (sIf (aAndT (aTruth (aVar 14)) (aNotT (aT (aCall gAny (aCons (aLc [13] (aIter (aVar 12)) (.nm 13) aYes (aOp2 gLt (aOp2 gIx (aOp2 gIx (aVar 0) (aVar 13)) (aK (.int 1))) (aVar 7))) aNil))))) (sIf (aT (aOp2 gEq (aFn m__law_answer (aCons (aVar 10) (aCons (aVar 4) aNil))) (aIf (aT (aOp2 gIs (aVar 11) (aK .non))) (aK (.str "done")) (aVar 11)))) (sExpr (aMut "list" 5 uAppend (aCons (aTup (aCons (aCall gTuple (aCons (aCall gSorted (aCons (aOp2 gAdd (aVar 3) (aTup (aCons (aVar 6) aNil))) aNil)) aNil)) (aCons (aFn m__law_behind (aCons (aVar 10) (aCons (aVar 4) aNil))) aNil))) aNil))) sNx) sNx)))))
  (sRet (aVar 5))))
def m__law_next : List S → Res E := runF 3 12 b__law_next
/-- _law_states: 0 _law_book, 1 _law_numbers, 2 _law_found, 3 _law_waiting, 4 _law_here -/
def b__law_states : List S → Res Fl := (sSeq (sSet [2, 3] (aCons aDictN0 (aCons (aLst (aCons (aTup (aCons (aTup aNil) (aCons (aK (.bl false)) aNil))) aNil)) aNil)))
  (sSeq (sWhile 100000 (aT (aOp2 gNe (aVar 3) (aLst aNil))) (sSeq (sSet1 4 (aMut0 "list" 3 uPop))
  (sIf (aT (aOp2 gNi (aVar 4) (aVar 2))) (sSeq (sPut 2 (aVar 4) (aFn m__law_next (aCons (aVar 0) (aCons (aVar 1) (aCons (aVar 4) aNil)))))
  (sExpr (aMut "list" 3 uExtend (aCons (aOp2 gIx (aVar 2) (aVar 4)) aNil)))) sNx)))
  (sRet (aVar 2))))
def m__law_states : List S → Res E := runF 2 3 b__law_states
/-- _law_is_full: 0 _law_book, 1 _law_numbers, 2 _law_done, 3 _law_number -/
def b__law_is_full : List S → Res Fl := (sRet (aCall gAll (aCons (aLc [3] (aIter (aVar 1)) (.nm 3) aYes (aOrV (aOp2 gIn (aVar 3) (aVar 2)) (aNotV (aFn m__law_counts (aCons (aOp2 gIx (aVar 0) (aVar 3)) aNil))))) aNil)))
def m__law_is_full : List S → Res E := runF 3 1 b__law_is_full
/-- is_name: 0 value, 1 sign -/
def b_is_name : List S → Res Fl := (sSeq (sIf (aOrT (aNotT (aT (aCall gIsi (aCons (aVar 0) (aCons (aK (.ty "str")) aNil))))) (aNotT (aT (aChain gLe gLe (aK (.int 1)) (aCall gLen (aCons (aVar 0) aNil)) (aK c_LONGEST_NAME))))) (sRet (aK (.bl false))) sNx)
  (sRet (aCall gAll (aCons (aLc [1] (aIter (aVar 0)) (.nm 1) aYes (aOp2 gIn (aVar 1) (aK c_LETTERS))) aNil))))
def m_is_name : List S → Res E := runF 1 1 b_is_name
/-- is_integer: 0 value -/
def b_is_integer : List S → Res Fl := (sRet (aAndV (aCall gIsi (aCons (aVar 0) (aCons (aK (.ty "int")) aNil))) (aNotV (aCall gIsi (aCons (aVar 0) (aCons (aK (.ty "bool")) aNil))))))
def m_is_integer : List S → Res E := runF 1 0 b_is_integer
/-- is_record: 0 value, 1 begin, 2 end, 3 key, 4 sort, 5 answer -/
def b_is_record : List S → Res Fl := (sSeq (sIf (aOrT (aNotT (aT (aCall gIsi (aCons (aVar 0) (aCons (aK (.ty "tuple")) aNil))))) (aT (aOp2 gNe (aCall gLen (aCons (aVar 0) aNil)) (aK c_RECORD)))) (sRet (aK (.bl false))) sNx)
  (sSeq (sTg (.tp [(.nm 1), (.nm 2), (.nm 3), (.nm 4), (.nm 5)]) (aVar 0))
  (sSeq (sIf (aOrT (aNotT (aT (aFn m_is_integer (aCons (aVar 1) aNil)))) (aOrT (aT (aOp2 gLt (aVar 1) (aK (.int 1)))) (aOrT (aNotT (aT (aFn m_is_name (aCons (aVar 3) aNil)))) (aOrT (aNotT (aT (aCall gIsi (aCons (aVar 4) (aCons (aK (.ty "str")) aNil))))) (aT (aOp2 gNi (aVar 4) (aK c_ANSWERS))))))) (sRet (aK (.bl false))) sNx)
  (sSeq (sIf (aT (aOp2 gIs (aVar 2) (aK .non))) (sRet (aOp2 gIs (aVar 5) (aK .non))) sNx)
  (sRet (aAndV (aFn m_is_integer (aCons (aVar 2) aNil)) (aAndV (aOp2 gLt (aVar 1) (aVar 2)) (aAndV (aCall gIsi (aCons (aVar 5) (aCons (aK (.ty "str")) aNil))) (aOp2 gIn (aVar 5) (aOp2 gIx (aK c_ANSWERS) (aVar 4)))))))))))
def m_is_record : List S → Res E := runF 1 5 b_is_record
/-- is_history: 0 value, 1 one, 2 begins, 3 keys, 4 record, 5 times, 6 key -/
def b_is_history : List S → Res Fl := (sSeq (sIf (aOrT (aNotT (aT (aCall gIsi (aCons (aVar 0) (aCons (aK (.ty "tuple")) aNil))))) (aOrT (aT (aOp2 gGt (aCall gLen (aCons (aVar 0) aNil)) (aK c_MOST_RECORDS))) (aNotT (aT (aCall gAll (aCons (aLc [1] (aIter (aVar 0)) (.nm 1) aYes (aFn m_is_record (aCons (aVar 1) aNil))) aNil)))))) (sRet (aK (.bl false))) sNx)
  (sSeq (sSet [2, 3] (aCons (aLc [4] (aIter (aVar 0)) (.nm 4) aYes (aOp2 gIx (aVar 4) (aK (.int 0)))) (aCons (aLc [4] (aIter (aVar 0)) (.nm 4) aYes (aOp2 gIx (aVar 4) (aK (.int 2)))) aNil)))
  (sSeq (sSet1 5 (aOp2 gAdd (aVar 2) (aLc [4] (aIter (aVar 0)) (.nm 4) (aT (aOp2 gIsn (aOp2 gIx (aVar 4) (aK (.int 1))) (aK .non))) (aOp2 gIx (aVar 4) (aK (.int 1))))))
  (sSeq (sIf (aOrT (aT (aOp2 gNe (aVar 2) (aCall gSorted (aCons (aVar 2) aNil)))) (aT (aOp2 gNe (aCall gLenSet (aCons (aVar 5) aNil)) (aCall gLen (aCons (aVar 5) aNil))))) (sRet (aK (.bl false))) sNx)
  (sRet (aCall gAll (aCons (aLc [6] (aIter (aVar 3)) (.nm 6) aYes (aOp2 gLe (aMeth "list" gCount (aVar 3) (aCons (aVar 6) aNil)) (aK c_MOST_OF_A_KEY))) aNil)))))))
def m_is_history : List S → Res E := runF 1 6 b_is_history
/-- check_history: 0 value -/
def b_check_history : List S → Res Fl := (sIf (aNotT (aT (aFn m_is_history (aCons (aVar 0) aNil)))) sNo sNx)
def m_check_history : List S → Res E := runF 1 0 b_check_history
/-- check_key: 0 value -/
def b_check_key : List S → Res Fl := (sIf (aNotT (aT (aFn m_is_name (aCons (aVar 0) aNil)))) sNo sNx)
def m_check_key : List S → Res E := runF 1 0 b_check_key
/-- numbers_of: 0 history, 1 key, 2 number, 3 record -/
def b_numbers_of : List S → Res Fl := (sRet (aLc [2, 3] (aEnumA (aCons (aVar 0) aNil)) (.tp [(.nm 2), (.nm 3)]) (aT (aOp2 gEq (aOp2 gIx (aVar 3) (aK (.int 2))) (aVar 1))) (aVar 2)))
def m_numbers_of : List S → Res E := runF 2 2 b_numbers_of
/-- has_counted: 0 record -/
def b_has_counted : List S → Res Fl := (sRet (aAndV (aOp2 gIsn (aOp2 gIx (aVar 0) (aK (.int 1))) (aK .non)) (aOp2 gNe (aOp2 gIx (aVar 0) (aK (.int 4))) (aK c_AGAIN))))
def m_has_counted : List S → Res E := runF 1 0 b_has_counted
/-- may_stand: 0 record -/
def b_may_stand : List S → Res Fl := (sRet (aOrV (aFn m_has_counted (aCons (aVar 0) aNil)) (aAndV (aOp2 gIs (aOp2 gIx (aVar 0) (aK (.int 1))) (aK .non)) (aOp2 gNe (aOp2 gIx (aVar 0) (aK (.int 3))) (aK c_LOOK)))))
def m_may_stand : List S → Res E := runF 1 0 b_may_stand
/-- row_behind: 0 record, 1 stands, 2 begin, 3 end, 4 key, 5 sort, 6 answer -/
def b_row_behind : List S → Res Fl := (sSeq (sTg (.tp [(.nm 2), (.nm 3), (.nm 4), (.nm 5), (.nm 6)]) (aVar 0))
  (sSeq (sIf (aT (aOp2 gEq (aVar 5) (aK (.str "look")))) (sRet (aIf (aT (aOp2 gEq (aVar 1) (aOp2 gEq (aVar 6) (aK (.str "there"))))) (aVar 1) (aK .non))) sNx)
  (sSeq (sIf (aT (aOp2 gIn (aVar 6) (aTup (aCons (aK (.str "refused")) (aCons (aK (.str "none")) aNil))))) (sRet (aIf (aT (aOp2 gEq (aVar 1) (aOp2 gEq (aVar 5) (aK (.str "put"))))) (aVar 1) (aK .non))) sNx)
  (sRet (aIf (aT (aOp2 gEq (aVar 1) (aOp2 gEq (aVar 5) (aK (.str "drop"))))) (aNotV (aVar 1)) (aK .non))))))
def m_row_behind : List S → Res E := runF 2 5 b_row_behind
/-- led_to: 0 history, 1 numbers, 2 state, 3 done, 4 stands, 5 found, 6 ends, 7 number, 8 record, 9 end, 10 behind -/
def b_led_to : List S → Res Fl := (sSeq (sTg (.tp [(.nm 3), (.nm 4)]) (aVar 2))
  (sSeq (sSet1 5 (aLst aNil))
  (sSeq (sSet1 6 (aLc [7] (aIter (aVar 1)) (.nm 7) (aAndT (aT (aOp2 gNi (aVar 7) (aVar 3))) (aT (aFn m_has_counted (aCons (aOp2 gIx (aVar 0) (aVar 7)) aNil)))) (aOp2 gIx (aOp2 gIx (aVar 0) (aVar 7)) (aK (.int 1)))))
  (sSeq (sFor (aIter (aVar 1)) (.nm 7) (sSeq (sSet1 8 (aOp2 gIx (aVar 0) (aVar 7)))
  (sIf (aAndT (aT (aOp2 gNi (aVar 7) (aVar 3))) (aAndT (aT (aFn m_may_stand (aCons (aVar 8) aNil))) (aT (aCall gAll (aCons (aLc [9] (aIter (aVar 6)) (.nm 9) aYes (aOp2 gLt (aOp2 gIx (aVar 8) (aK (.int 0))) (aVar 9))) aNil))))) (sSeq (sSet1 10 (aFn m_row_behind (aCons (aVar 8) (aCons (aVar 4) aNil))))
  (sIf (aT (aOp2 gIsn (aVar 10) (aK .non))) (sExpr (aMut "list" 5 uAppend (aCons (aTup (aCons (aVar 7) (aCons (aTup (aCons (aCall gTuple (aCons (aCall gSorted (aCons (aLst (aStar (aVar 3) (aCons (aVar 7) aNil))) aNil)) aNil)) (aCons (aVar 10) aNil))) aNil))) aNil))) sNx)) sNx)))
  (sRet (aVar 5))))))
def m_led_to : List S → Res E := runF 3 8 b_led_to
/-- ways_from: 0 history, 1 numbers, 2 state, 3 found, 4 waiting, 5 here, 6 so_far, 7 number, 8 behind -/
def b_ways_from : List S → Res Fl := (sSeq (sSet [3, 4] (aCons (aDictN1 (aVar 2) (aTup aNil)) (aCons (aLst (aCons (aVar 2) aNil)) aNil)))
  (sSeq (sWhile 100000 (aT (aOp2 gNe (aVar 4) (aLst aNil))) (sSeq (sSet1 5 (aMut0 "list" 4 uPop))
  (sSeq (sSet1 6 (aOp2 gIx (aVar 3) (aVar 5)))
  (sFor (aIter (aFn m_led_to (aCons (aVar 0) (aCons (aVar 1) (aCons (aVar 5) aNil))))) (.tp [(.nm 7), (.nm 8)]) (sIf (aT (aOp2 gNi (aVar 8) (aVar 3))) (sSeq (sPut 3 (aVar 8) (aTup (aStar (aVar 6) (aCons (aVar 7) aNil))))
  (sExpr (aMut "list" 4 uAppend (aCons (aVar 8) aNil)))) sNx)))))
  (sRet (aVar 3))))
def m_ways_from : List S → Res E := runF 3 6 b_ways_from
/-- is_whole: 0 history, 1 numbers, 2 done, 3 number -/
def b_is_whole : List S → Res Fl := (sRet (aCall gAll (aCons (aLc [3] (aIter (aVar 1)) (.nm 3) (aT (aFn m_has_counted (aCons (aOp2 gIx (aVar 0) (aVar 3)) aNil))) (aOp2 gIn (aVar 3) (aVar 2))) aNil)))
def m_is_whole : List S → Res E := runF 3 1 b_is_whole
/-- closed: 0 history, 1 key, 2 numbers, 3 found, 4 done, 5 stands -/
def b_closed : List S → Res Fl := (sSeq (sExpr (aFn m_check_history (aCons (aVar 0) aNil)))
  (sSeq (sExpr (aFn m_check_key (aCons (aVar 1) aNil)))
  (sSeq (sSet1 2 (aFn m_numbers_of (aCons (aVar 0) (aCons (aVar 1) aNil))))
  (sSeq (sSet1 3 (aFn m_ways_from (aCons (aVar 0) (aCons (aVar 2) (aCons (aK c_BEGIN) aNil)))))
  (sSeq (sIf (aT (aCall gAny (aCons (aLc [4, 5] (aIter (aVar 3)) (.tp [(.nm 4), (.nm 5)]) aYes (aFn m_is_whole (aCons (aVar 0) (aCons (aVar 2) (aCons (aVar 4) aNil))))) aNil))) (sRet (aK .non)) sNx)
  (sRet (aCall gTuple (aCons (aCall gSorted (aCons (aVar 3) aNil)) aNil))))))))
def m_closed : List S → Res E := runF 2 4 b_closed
end L2.AL.SH
namespace L2.AL.SH
open PySem PySem.Spec PyProof.Rows L2 L2.AL
/-- _law_wild: 0 _law_jar_here, 1 _law_keys, 2 _law_many, 3 _law_found, 4 _law_turn, 5 _law_at, 6 _law_begin, 7 _law_end, 8 _law_sign, 9 _law_sort, 10 _law_answer_here, 11 _law_row -/
def b__law_wild : List S → Res Fl := (sSeq (sSet1 3 (aCall (gAlt gList gListN) (aCons (aFn m__law_told (aCons (aFn m__law_story (aCons (aVar 0) (aCons (aVar 1) (aCons (aVar 2) aNil)))) aNil)) aNil)))
  (sSeq (sFor (aRng1 (aCons (aFn m__law_of (aCons (aVar 0) (aCons (aLst (aCons (aK (.int 0)) (aCons (aK (.int 1)) (aCons (aK (.int 1)) (aCons (aK (.int 2)) aNil))))) aNil))) aNil)) (.nm 4) (sSeq (sSet1 5 (aFn m__law_take (aCons (aVar 0) (aCons (aCall gLen (aCons (aVar 3) aNil)) aNil))))
  (sSeq (sTg (.tp [(.nm 6), (.nm 7), (.nm 8), (.nm 9), (.nm 10)]) (aOp2 gIx (aVar 3) (aVar 5)))
  (sIf (aT (aOp2 gIs (aVar 7) (aK .non))) (sSeq (sSet1 7 (aOp2 gAdd (aK (.int 1)) (aCall (gAlt gMax gMaxL) (aCons (aOp2 gAdd (aLcO 3 [11] (.nm 11) aYes (aOp2 gIx (aVar 11) (aK (.int 0)))) (aLcO 3 [11] (.nm 11) (aT (aOp2 gIsn (aOp2 gIx (aVar 11) (aK (.int 1))) (aK .non))) (aOp2 gIx (aVar 11) (aK (.int 1))))) aNil))))
  (sPut 3 (aVar 5) (aTup (aCons (aVar 6) (aCons (aVar 7) (aCons (aVar 8) (aCons (aVar 9) (aCons (aFn m__law_of (aCons (aVar 0) (aCons (aFn m__law_answers (aCons (aVar 9) aNil)) aNil))) aNil)))))))) (sIf (aT (aOp2 gEq (aFn m__law_take (aCons (aVar 0) (aCons (aK (.int 8)) aNil))) (aK (.int 0)))) (sPut 3 (aVar 5) (aTup (aCons (aVar 6) (aCons (aK .non) (aCons (aVar 8) (aCons (aVar 9) (aCons (aK .non) aNil))))))) (sPut 3 (aVar 5) (aTup (aCons (aVar 6) (aCons (aVar 7) (aCons (aVar 8) (aCons (aVar 9) (aCons (aFn m__law_of (aCons (aVar 0) (aCons (aFn m__law_answers (aCons (aVar 9) aNil)) aNil))) aNil))))))))))))
  (sRet (aCall gTuple (aCons (aVar 3) aNil)))))
def m__law_wild : List S → Res E := runF 3 9 b__law_wild
end L2.AL.SH
namespace L2.AL.K73
open PySem PySem.Spec PyProof.Rows L2 L2.AL L2.AL.SH
/-- _law_right: 0 _law_jar_here, 1 _law_names_here, 2 _law_book, 3 _law_sign, 4 _law_numbers, 5 _law_states_here, 6 _law_due, 7 _law_here -/
def b__law_right : List S → Res Fl := (sSeq (sSet1 1 (aFn m__law_names (aCons (aVar 0) (aCons (aK (.int 3)) aNil))))
  (sSeq (sSet1 2 (aFn m__law_wild (aCons (aVar 0) (aCons (aSlice (aVar 1) aPartN (aPart (aOp2 gAdd (aK (.int 1)) (aFn m__law_take (aCons (aVar 0) (aCons (aK (.int 2)) aNil)))))) (aCons (aOp2 gAdd (aK (.int 1)) (aFn m__law_take (aCons (aVar 0) (aCons (aK (.int 8)) aNil)))) aNil)))))
  (sSeq (sFor (aIter (aVar 1)) (.nm 3) (sSeq (sSet1 4 (aFn m__law_keyed (aCons (aVar 2) (aCons (aVar 3) aNil))))
  (sSeq (sSet1 5 (aFn m__law_states (aCons (aVar 2) (aCons (aVar 4) aNil))))
  (sSeq (sSet1 6 (aCall gTuple (aCons (aCall gSorted (aCons (aCall (gAlt gList gListN) (aCons (aVar 5) aNil)) aNil)) aNil)))
  (sSeq (sIf (aT (aCall gAny (aCons (aLc [7] (aIter (aVar 5)) (.nm 7) aYes (aFn m__law_is_full (aCons (aVar 2) (aCons (aVar 4) (aCons (aOp2 gIx (aVar 7) (aK (.int 0))) aNil))))) aNil))) (sSet1 6 (aK .non)) sNx)
  (sIf (aOrT (aT (aOp2 gNe (aCall gRepr (aCons (aFn m_closed (aCons (aVar 2) (aCons (aVar 3) aNil))) aNil)) (aCall gRepr (aCons (aVar 6) aNil)))) (aT (aOp2 gNe (aCall gRepr (aCons (aFnP [1, 0] m_closed (aCons (aVar 3) (aCons (aVar 2) aNil))) aNil)) (aCall gRepr (aCons (aVar 6) aNil))))) (sRet (aK (.bl false))) sNx))))))
  (sRet (aOp2 gIs (aFn m_closed (aCons (aTup aNil) (aCons (aOp2 gIx (aVar 1) (aK (.int 0))) aNil))) (aK .non))))))
def m__law_right : List S → Res E := runF 1 7 b__law_right
/-- law: 0 _law_script, 1 _law_k, 2 _law_jar_here, 3 _law_turn -/
def b_law : List S → Res Fl := (sSeq (sFor (aRng1 (aCons (aCall (gAlt gMax gMaxL) (aCons (aK (.int 1)) (aCons (aCall (gAlt gMin gMinL) (aCons (aK (.int 3)) (aCons (aCall gLen (aCons (aVar 0) aNil)) aNil))) aNil))) aNil)) (.nm 1) (sSeq (sSet1 2 (aFn m__law_jar (aCons (aVar 0) (aCons (aVar 1) aNil))))
  (sIf (aNotT (aT (aCall gAll (aCons (aLc [3] (aRng1 (aCons (aK (.int 3)) aNil)) (.nm 3) aYes (aFn m__law_right (aCons (aVar 2) aNil))) aNil)))) (sRet (aK (.bl false))) sNx)))
  (sRet (aK (.bl true))))
def m_law : List S → Res E := runF 1 3 b_law
end L2.AL.K73
namespace L2.AL.K73
open PySem PySem.Spec PyProof.Rows L2 L2.AL L2.AL.SH
def top (i : Nat) : Stmt := PySem.Challenge.pw_unlikekeys_k73_rows_that_can_be_come_to.main.body.getD i (.Pass ⟨0, 0, 0, 0⟩)
structure Tops (K : PySem.W.Frag) (mg : Str → Option Value) (w : World) : Prop where
  z_abs : mg "abs" = none
  z_all : mg "all" = none
  z_any : mg "any" = none
  z_bool : mg "bool" = none
  z_enumerate : mg "enumerate" = none
  z_int : mg "int" = none
  z_isinstance : mg "isinstance" = none
  z_len : mg "len" = none
  z_list : mg "list" = none
  z_max : mg "max" = none
  z_min : mg "min" = none
  z_range : mg "range" = none
  z_repr : mg "repr" = none
  z_set : mg "set" = none
  z_sorted : mg "sorted" = none
  z_str : mg "str" = none
  z_tuple : mg "tuple" = none
  c_AGAIN : GC ⟨K, mg, w⟩ "AGAIN" c_AGAIN
  c_ANSWERS : GC ⟨K, mg, w⟩ "ANSWERS" c_ANSWERS
  c_BEGIN : GC ⟨K, mg, w⟩ "BEGIN" c_BEGIN
  c_LETTERS : GC ⟨K, mg, w⟩ "LETTERS" c_LETTERS
  c_LONGEST_NAME : GC ⟨K, mg, w⟩ "LONGEST_NAME" c_LONGEST_NAME
  c_LOOK : GC ⟨K, mg, w⟩ "LOOK" c_LOOK
  c_MOST_OF_A_KEY : GC ⟨K, mg, w⟩ "MOST_OF_A_KEY" c_MOST_OF_A_KEY
  c_MOST_RECORDS : GC ⟨K, mg, w⟩ "MOST_RECORDS" c_MOST_RECORDS
  c_RECORD : GC ⟨K, mg, w⟩ "RECORD" c_RECORD
section
variable {P : Program} {w : World} {K : PySem.W.Frag} {mg : Str → Option Value} {base : Heap}
theorem sc__law_jar : FnScope ["_law_script", "_law_k", "_law_cell", "_law_mine"] ["_law_script", "_law_k"] (defScope (top 31)) := ⟨rfl, rfl, rfl, by decide +kernel, rfl, by decide +kernel, by decide +kernel⟩
theorem fg__law_jar (T : Tops K mg w) {a : Addr} {fd : FuncData} (F : Fun K "_law_jar" "_law_jar" (top 31) a fd) : FnG P w K mg base CX0 1 a fd ["_law_script", "_law_k"] m__law_jar := by
  refine FnG.ofN F sc__law_jar 2 2 rfl rfl ?_
  intro cd A up s0 H Ex hg hr
  have sc := sc__law_jar
  have r : Rm _ 0 := ⟨hg, hr⟩
  exact (s_cons (s_set (i := 2) sc.nd rfl (a_ifx (a_tcmp op_ltA lt_snd (a_var 1 rfl) (a_callB call_lenA len_snd T.z_len PySem.boot_len (a_cons (a_var 0 rfl) a_nil))) (a_ix (ix_any r.u) ix_snd (a_var 0 rfl) (a_var 1 rfl)) (a_bin op_addA add_snd (a_bin op_mulW mul_snd a_int (a_var 1 rfl)) a_int)))
    (s_cons (s_set (i := 3) sc.nd rfl (a_bin op_mulW mul_snd (a_bin op_mod mod_snd (a_callT call_intA int_snd T.z_int PyProof.Rows.boot_int (a_cons (a_callB call_abs abs_snd T.z_abs PyProof.Rows.boot_abs (a_cons (a_var 2 rfl) a_nil)) a_nil)) (a_bin op_powB pow_snd (a_bin op_powB pow_snd a_int a_int) a_int)) (a_callT call_intA int_snd T.z_int PyProof.Rows.boot_int (a_cons (a_cmp op_ge ge_snd (a_callB call_abs abs_snd T.z_abs PyProof.Rows.boot_abs (a_cons (a_var 2 rfl) a_nil)) (a_bin op_powB pow_snd a_int a_int)) a_nil))))
    (s_one (s_ret (a_lst (a_cons (a_var 3 rfl) (a_cons (a_bin op_mod mod_snd (a_callT call_intA int_snd T.z_int PyProof.Rows.boot_int (a_cons (a_bin op_addA add_snd (a_bin op_addA add_snd (a_bin op_mulW mul_snd (a_bin op_mod mod_snd (a_callT call_intA int_snd T.z_int PyProof.Rows.boot_int (a_cons (a_var 2 rfl) a_nil)) a_int) a_int) (a_bin op_mulW mul_snd (a_bin op_mulW mul_snd a_int (a_var 1 rfl)) (a_var 1 rfl))) a_int) a_nil)) a_int) (a_cons a_int a_nil))))))))
theorem w__law_jar (T : Tops K mg w) {a : Addr} {fd : FuncData} (F : Fun K "_law_jar" "_law_jar" (top 31) a fd) (hm : mg "_law_jar" = some (.ref a)) : DefOk P w K mg base "_law_jar" ["_law_script", "_law_k"] 1 m__law_jar :=
  ⟨⟨a, fd, hm, F.kp, F.binds fun _ _ _ _ _ _ us hl => (match us, hl with | [_, _], _ => rfl), kwB_of F fun _ _ _ _ _ _ us hl => (match us, hl with | [_, _], _ => rfl), fg__law_jar T F⟩, len_runF⟩
theorem sc__law_take : FnScope ["_law_jar_here", "_law_many", "_law_digit", "_law_prime", "_law_made"] ["_law_jar_here", "_law_many"] (defScope (top 32)) := ⟨rfl, rfl, rfl, by decide +kernel, rfl, by decide +kernel, by decide +kernel⟩
theorem fg__law_take (T : Tops K mg w) {a : Addr} {fd : FuncData} (F : Fun K "_law_take" "_law_take" (top 32) a fd) : FnG P w K mg base CX0 1 a fd ["_law_jar_here", "_law_many"] m__law_take := by
  refine FnG.ofN F sc__law_take 2 3 rfl rfl ?_
  intro cd A up s0 H Ex hg hr
  have sc := sc__law_take
  have r : Rm _ 0 := ⟨hg, hr⟩
  exact (s_cons (s_if (a_tcmp op_gt gt_snd (a_ix (ix_any r.u) ix_snd (a_var 0 rfl) a_int) a_int) (s_cons (s_set (i := 2) sc.nd rfl (a_bin op_mod mod_snd (a_callT call_intA int_snd T.z_int PyProof.Rows.boot_int (a_cons (a_ix (ix_any r.u) ix_snd (a_var 0 rfl) a_int) a_nil)) (a_var 1 rfl)))
    (s_cons (s_put (i := 0) r.u rfl a_int (a_bin op_fdivW div_snd (a_ix (ix_any r.u) ix_snd (a_var 0 rfl) a_int) (a_var 1 rfl)))
    (s_one (s_ret (a_var 2 rfl))))) s_nil)
    (s_cons (s_put (i := 0) r.u rfl a_int (a_bin op_addA add_snd (a_ix (ix_any r.u) ix_snd (a_var 0 rfl) a_int) a_int))
    (s_cons (s_set (i := 3) sc.nd rfl (a_ix (ix_any r.u) ix_snd (a_lst (a_cons a_int (a_cons a_int (a_cons a_int (a_cons a_int (a_cons a_int a_nil)))))) (a_bin op_mod mod_snd (a_callT call_intA int_snd T.z_int PyProof.Rows.boot_int (a_cons (a_ix (ix_any r.u) ix_snd (a_var 0 rfl) a_int) a_nil)) a_int)))
    (s_cons (s_set (i := 4) sc.nd rfl (a_bin op_mod mod_snd (a_callT call_intA int_snd T.z_int PyProof.Rows.boot_int (a_cons (a_bin op_powB pow_snd (a_bin op_addA add_snd (a_bin op_addA add_snd (a_ix (ix_any r.u) ix_snd (a_var 0 rfl) a_int) (a_bin op_mulW mul_snd (a_bin op_mulW mul_snd a_int (a_ix (ix_any r.u) ix_snd (a_var 0 rfl) a_int)) (a_ix (ix_any r.u) ix_snd (a_var 0 rfl) a_int))) a_int) a_int) a_nil)) (a_var 3 rfl)))
    (s_cons (s_set (i := 4) sc.nd rfl (a_bin op_mod mod_snd (a_callT call_intA int_snd T.z_int PyProof.Rows.boot_int (a_cons (a_bin op_mulW mul_snd (a_var 4 rfl) (a_bin op_addA add_snd (a_bin op_mod mod_snd (a_callT call_intA int_snd T.z_int PyProof.Rows.boot_int (a_cons (a_var 4 rfl) a_nil)) a_int) (a_bin op_mulW mul_snd a_int (a_ix (ix_any r.u) ix_snd (a_var 0 rfl) a_int)))) a_nil)) a_int))
    (s_one (s_ret (a_bin op_mod mod_snd (a_callT call_intA int_snd T.z_int PyProof.Rows.boot_int (a_cons (a_bin op_fdivW div_snd (a_var 4 rfl) a_int) a_nil)) (a_var 1 rfl)))))))))
theorem w__law_take (T : Tops K mg w) {a : Addr} {fd : FuncData} (F : Fun K "_law_take" "_law_take" (top 32) a fd) (hm : mg "_law_take" = some (.ref a)) : DefOk P w K mg base "_law_take" ["_law_jar_here", "_law_many"] 1 m__law_take :=
  ⟨⟨a, fd, hm, F.kp, F.binds fun _ _ _ _ _ _ us hl => (match us, hl with | [_, _], _ => rfl), kwB_of F fun _ _ _ _ _ _ us hl => (match us, hl with | [_, _], _ => rfl), fg__law_take T F⟩, len_runF⟩
theorem sc__law_of : FnScope ["_law_jar_here", "_law_some"] ["_law_jar_here", "_law_some"] (defScope (top 33)) := ⟨rfl, rfl, rfl, by decide +kernel, rfl, by decide +kernel, by decide +kernel⟩
theorem fg__law_of (T : Tops K mg w) (d__law_take : DefOk P w K mg base "_law_take" ["_law_jar_here", "_law_many"] 1 m__law_take) {a : Addr} {fd : FuncData} (F : Fun K "_law_of" "_law_of" (top 33) a fd) : FnG P w K mg base CX0 2 a fd ["_law_jar_here", "_law_some"] m__law_of := by
  refine FnG.ofN F sc__law_of 2 0 rfl rfl ?_
  intro cd A up s0 H Ex hg hr
  have sc := sc__law_of
  have r : Rm _ 1 := ⟨hg, hr⟩
  exact (s_one (s_ret (a_ix (ix_any r.u) ix_snd (a_var 1 rfl) (c_fn d__law_take r (by first | decide | omega) (a_cons (a_var 0 rfl) (a_cons (a_callB call_lenA len_snd T.z_len PySem.boot_len (a_cons (a_var 1 rfl) a_nil)) a_nil))))))
theorem w__law_of (T : Tops K mg w) (d__law_take : DefOk P w K mg base "_law_take" ["_law_jar_here", "_law_many"] 1 m__law_take) {a : Addr} {fd : FuncData} (F : Fun K "_law_of" "_law_of" (top 33) a fd) (hm : mg "_law_of" = some (.ref a)) : DefOk P w K mg base "_law_of" ["_law_jar_here", "_law_some"] 2 m__law_of :=
  ⟨⟨a, fd, hm, F.kp, F.binds fun _ _ _ _ _ _ us hl => (match us, hl with | [_, _], _ => rfl), kwB_of F fun _ _ _ _ _ _ us hl => (match us, hl with | [_, _], _ => rfl), fg__law_of T d__law_take F⟩, len_runF⟩
theorem sc__law_names : FnScope ["_law_jar_here", "_law_many", "_law_small", "_law_stem", "_law_turn", "_law_spot", "_law_first", "_law_k"] ["_law_jar_here", "_law_many"] (defScope (top 34)) := ⟨rfl, rfl, rfl, by decide +kernel, rfl, by decide +kernel, by decide +kernel⟩
theorem fg__law_names (T : Tops K mg w) (d__law_of : DefOk P w K mg base "_law_of" ["_law_jar_here", "_law_some"] 2 m__law_of) (d__law_take : DefOk P w K mg base "_law_take" ["_law_jar_here", "_law_many"] 1 m__law_take) {a : Addr} {fd : FuncData} (F : Fun K "_law_names" "_law_names" (top 34) a fd) : FnG P w K mg base CX0 3 a fd ["_law_jar_here", "_law_many"] m__law_names := by
  refine FnG.ofN F sc__law_names 2 6 rfl rfl ?_
  intro cd A up s0 H Ex hg hr
  have sc := sc__law_names
  have r : Rm _ 2 := ⟨hg, hr⟩
  exact (s_cons (s_set (i := 2) sc.nd rfl a_str)
    (s_cons (s_set (i := 3) sc.nd rfl (a_meth (by decide) PySem.F.plainAttrs_str PySem.F.slot_str_join PySem.F.type_str_join mt_join join_snd a_str (a_cons (a_lc (own := [("_law_turn", 4)]) (vs := [4]) rfl sc.nd (blkOk_by (by rfl)) rfl (okT_of (by rfl)) (i_rng1 rfl T.z_range (a_cons (c_fn d__law_of r (by first | decide | omega) (a_cons (a_var 0 rfl) (a_cons (a_lst (a_cons a_int (a_cons a_int (a_cons a_int (a_cons a_int (a_cons a_int a_nil)))))) a_nil))) a_nil)) (fun _ _ _ _ _ => (g_nm sc.nd rfl (by first | exact Or.inl rfl | exact Or.inr rfl))) (fun _ _ _ _ _ => c_yes) (fun _ _ _ _ _ => (c_fn d__law_of r (by first | decide | omega) (a_cons (a_var 0 rfl) (a_cons (a_var 2 rfl) a_nil))))) a_nil)))
    (s_cons (s_parN (is := [5, 6]) rfl (pgs_cons (pg_name (i := 5) sc.nd rfl (by first | exact Or.inl rfl | exact Or.inr rfl)) (pgs_cons (pg_name (i := 6) sc.nd rfl (by first | exact Or.inl rfl | exact Or.inr rfl)) pgs_nil)) (a_cons (c_fn d__law_take r (by first | decide | omega) (a_cons (a_var 0 rfl) (a_cons (a_bin op_addA add_snd (a_callB call_lenA len_snd T.z_len PySem.boot_len (a_cons (a_var 3 rfl) a_nil)) a_int) a_nil))) (a_cons (c_fn d__law_take r (by first | decide | omega) (a_cons (a_var 0 rfl) (a_cons a_int a_nil))) a_nil)) (by decide))
    (s_one (s_ret (a_lc (own := [("_law_k", 7)]) (vs := [7]) rfl sc.nd (blkOk_by (by rfl)) rfl (okT_of (by rfl)) (i_rng1 rfl T.z_range (a_cons (a_var 1 rfl) a_nil)) (fun _ _ _ _ _ => (g_nm sc.nd rfl (by first | exact Or.inl rfl | exact Or.inr rfl))) (fun _ _ _ _ _ => c_yes) (fun _ _ _ _ _ => (a_bin op_addA add_snd (a_bin op_addA add_snd (a_slice (a_var 3 rfl) a_partN (a_part (a_var 5 rfl))) (a_ix (ix_any r.u) ix_snd (a_var 2 rfl) (a_bin op_mod mod_snd (a_callT call_intA int_snd T.z_int PyProof.Rows.boot_int (a_cons (a_bin op_addA add_snd (a_var 6 rfl) (a_bin op_mulW mul_snd a_int (a_var 7 rfl))) a_nil)) a_int))) (a_slice (a_var 3 rfl) (a_part (a_var 5 rfl)) a_partN)))))))))
theorem w__law_names (T : Tops K mg w) (d__law_of : DefOk P w K mg base "_law_of" ["_law_jar_here", "_law_some"] 2 m__law_of) (d__law_take : DefOk P w K mg base "_law_take" ["_law_jar_here", "_law_many"] 1 m__law_take) {a : Addr} {fd : FuncData} (F : Fun K "_law_names" "_law_names" (top 34) a fd) (hm : mg "_law_names" = some (.ref a)) : DefOk P w K mg base "_law_names" ["_law_jar_here", "_law_many"] 3 m__law_names :=
  ⟨⟨a, fd, hm, F.kp, F.binds fun _ _ _ _ _ _ us hl => (match us, hl with | [_, _], _ => rfl), kwB_of F fun _ _ _ _ _ _ us hl => (match us, hl with | [_, _], _ => rfl), fg__law_names T d__law_of d__law_take F⟩, len_runF⟩
theorem sc__law_told : FnScope ["_law_deeds", "_law_found", "_law_one"] ["_law_deeds"] (defScope (top 39)) := ⟨rfl, rfl, rfl, by decide +kernel, rfl, by decide +kernel, by decide +kernel⟩
theorem fg__law_told (T : Tops K mg w) {a : Addr} {fd : FuncData} (F : Fun K "_law_told" "_law_told" (top 39) a fd) : FnG P w K mg base CX0 1 a fd ["_law_deeds"] m__law_told := by
  refine FnG.ofN F sc__law_told 1 2 rfl rfl ?_
  intro cd A up s0 H Ex hg hr
  have sc := sc__law_told
  have r : Rm _ 0 := ⟨hg, hr⟩
  exact (s_cons (s_set (i := 1) sc.nd rfl (a_lst a_nil))
    (s_cons (s_for PassesOwn.never rfl (i_seq (a_var 0 rfl)) (g_nm sc.nd rfl (by first | exact Or.inl rfl | exact Or.inr rfl)) (s_one (s_expr (a_mut PySem.F.plainAttrs_list PySem.F.slot_list_append PySem.F.type_list_append mt_append append_snd rfl (a_cons (a_tup (a_cons (a_ix (ix_any r.u) ix_snd (a_var 2 rfl) a_str) (a_cons (a_ix (ix_any r.u) ix_snd (a_var 2 rfl) a_str) (a_cons (a_ix (ix_any r.u) ix_snd (a_var 2 rfl) a_str) (a_cons (a_ix (ix_any r.u) ix_snd (a_var 2 rfl) a_str) (a_cons (a_ifx (a_tcmp op_isA is_snd (a_ix (ix_any r.u) ix_snd (a_var 2 rfl) a_str) a_non) a_non (a_ix (ix_any r.u) ix_snd (a_var 2 rfl) a_str)) a_nil)))))) a_nil)))) (offT_of (by rfl)))
    (s_one (s_ret (a_callT call_tuple_of tuple_snd T.z_tuple PyProof.Rows.boot_tuple (a_cons (a_var 1 rfl) a_nil))))))
theorem w__law_told (T : Tops K mg w) {a : Addr} {fd : FuncData} (F : Fun K "_law_told" "_law_told" (top 39) a fd) (hm : mg "_law_told" = some (.ref a)) : DefOk P w K mg base "_law_told" ["_law_deeds"] 1 m__law_told :=
  ⟨⟨a, fd, hm, F.kp, F.binds fun _ _ _ _ _ _ us hl => (match us, hl with | [_], _ => rfl), kwB_of F fun _ _ _ _ _ _ us hl => (match us, hl with | [_], _ => rfl), fg__law_told T F⟩, len_runF⟩
theorem sc__law_answer : FnScope ["_law_sort", "_law_is_up"] ["_law_sort", "_law_is_up"] (defScope (top 36)) := ⟨rfl, rfl, rfl, by decide +kernel, rfl, by decide +kernel, by decide +kernel⟩
theorem fg__law_answer (T : Tops K mg w) {a : Addr} {fd : FuncData} (F : Fun K "_law_answer" "_law_answer" (top 36) a fd) : FnG P w K mg base CX0 1 a fd ["_law_sort", "_law_is_up"] m__law_answer := by
  refine FnG.ofN F sc__law_answer 2 0 rfl rfl ?_
  intro cd A up s0 H Ex hg hr
  have sc := sc__law_answer
  have r : Rm _ 0 := ⟨hg, hr⟩
  exact (s_one (s_ret (a_ix (ix_any r.u) ix_snd (a_ix (ix_any r.u) ix_snd (a_dict (pps_cons a_str (a_tup (a_cons a_str (a_cons a_str a_nil))) (pps_cons a_str (a_tup (a_cons a_str (a_cons a_str a_nil))) (pps_cons a_str (a_tup (a_cons a_str (a_cons a_str a_nil))) pps_nil)))) (a_var 0 rfl)) (a_callT call_intA int_snd T.z_int PyProof.Rows.boot_int (a_cons (a_var 1 rfl) a_nil)))))
theorem w__law_answer (T : Tops K mg w) {a : Addr} {fd : FuncData} (F : Fun K "_law_answer" "_law_answer" (top 36) a fd) (hm : mg "_law_answer" = some (.ref a)) : DefOk P w K mg base "_law_answer" ["_law_sort", "_law_is_up"] 1 m__law_answer :=
  ⟨⟨a, fd, hm, F.kp, F.binds fun _ _ _ _ _ _ us hl => (match us, hl with | [_, _], _ => rfl), kwB_of F fun _ _ _ _ _ _ us hl => (match us, hl with | [_, _], _ => rfl), fg__law_answer T F⟩, len_runF⟩
theorem sc__law_behind : FnScope ["_law_sort", "_law_is_up"] ["_law_sort", "_law_is_up"] (defScope (top 37)) := ⟨rfl, rfl, rfl, by decide +kernel, rfl, by decide +kernel, by decide +kernel⟩
theorem fg__law_behind (T : Tops K mg w) {a : Addr} {fd : FuncData} (F : Fun K "_law_behind" "_law_behind" (top 37) a fd) : FnG P w K mg base CX0 1 a fd ["_law_sort", "_law_is_up"] m__law_behind := by
  refine FnG.ofN F sc__law_behind 2 0 rfl rfl ?_
  intro cd A up s0 H Ex hg hr
  have sc := sc__law_behind
  have r : Rm _ 0 := ⟨hg, hr⟩
  exact (s_one (s_ret (a_orV (a_cmp (op_eqA r.u) eq_snd (a_var 0 rfl) a_str) (a_one (a_andV (a_cmp (op_eqA r.u) eq_snd (a_var 0 rfl) a_str) (a_one (a_var 1 rfl)))))))
theorem w__law_behind (T : Tops K mg w) {a : Addr} {fd : FuncData} (F : Fun K "_law_behind" "_law_behind" (top 37) a fd) (hm : mg "_law_behind" = some (.ref a)) : DefOk P w K mg base "_law_behind" ["_law_sort", "_law_is_up"] 1 m__law_behind :=
  ⟨⟨a, fd, hm, F.kp, F.binds fun _ _ _ _ _ _ us hl => (match us, hl with | [_, _], _ => rfl), kwB_of F fun _ _ _ _ _ _ us hl => (match us, hl with | [_, _], _ => rfl), fg__law_behind T F⟩, len_runF⟩
theorem sc__law_story : FnScope ["_law_jar_here", "_law_keys", "_law_many", "_law_deeds", "_law_going", "_law_table", "_law_clock", "_law_turn", "_law_sort", "_law_number", "_law_one", "_law_is_up"] ["_law_jar_here", "_law_keys", "_law_many"] (defScope (top 38)) := ⟨rfl, rfl, rfl, by decide +kernel, rfl, by decide +kernel, by decide +kernel⟩
theorem story_of : m__law_of = runF 2 0 (sRet (aOp2 gIx (aVar 1) (aFn m__law_take (aCons (aVar 0) (aCons (aCall gLen (aCons (aVar 1) aNil)) aNil))))) := rfl
theorem story_answer (so : Srt) (u : Bool) : m__law_answer [.d (.str (Srt.str so)), .d (.bl u)] = .ok (.d (.str (answerT so u))) [.d (.str (Srt.str so)), .d (.bl u)] := by
  cases so <;> cases u <;> simp [runF, outF, sSeq, sIf, sRet, sRetN, sSet1, sSet, sTg, sExpr, sNx, aVar, aK, aCons, aNil, aOp2, app2, aCall, valL, E.val, aT, aNotT, aAndT, aOrT, aAndV, aOrV, aNotV, aIf, aChain, aTup, aLst, keepL, keep1, freeze, toSL, toS, setL, aFn, appFn, argS, slIx, wb, aIter, D.items?, aMeth, D.tyn, aSlice, aPart, aPartN, gIsi, D.isi, gIs, gIsn, D.is?, D.seq?, aStar, O.toD, eBl, eInt, eStr, tset, tsetL, wipeS, backS, nOwn, D.imm, m__law_answer, b__law_answer, aDict, aPairs, kmerge, kput, kget, gIx, D.key?, Srt.str, answerT, ofString_eq, gInt, atI, ixN, le2]
theorem story_behind (so : Srt) (u : Bool) : m__law_behind [.d (.str (Srt.str so)), .d (.bl u)] = .ok (.d (.bl (behindT so u))) [.d (.str (Srt.str so)), .d (.bl u)] := by
  cases so <;> cases u <;> simp [runF, outF, sSeq, sIf, sRet, sRetN, sSet1, sSet, sTg, sExpr, sNx, aVar, aK, aCons, aNil, aOp2, app2, aCall, valL, E.val, aT, aNotT, aAndT, aOrT, aAndV, aOrV, aNotV, aIf, aChain, aTup, aLst, keepL, keep1, freeze, toSL, toS, setL, aFn, appFn, argS, slIx, wb, aIter, D.items?, aMeth, D.tyn, aSlice, aPart, aPartN, gIsi, D.isi, gIs, gIsn, D.is?, D.seq?, aStar, O.toD, eBl, eInt, eStr, tset, tsetL, wipeS, backS, nOwn, D.imm, m__law_behind, b__law_behind, Srt.str, behindT, ofString_eq, gEq, D.eq?]
theorem fg__law_story (T : Tops K mg w) (d__law_take : DefOk P w K mg base "_law_take" ["_law_jar_here", "_law_many"] 1 m__law_take) (d__law_of : DefOk P w K mg base "_law_of" ["_law_jar_here", "_law_some"] 2 m__law_of) (d__law_answer : DefOk P w K mg base "_law_answer" ["_law_sort", "_law_is_up"] 1 m__law_answer) (d__law_behind : DefOk P w K mg base "_law_behind" ["_law_sort", "_law_is_up"] 1 m__law_behind) {a : Addr} {fd : FuncData} (F : Fun K "_law_story" "_law_story" (top 38) a fd) : FnG P w K mg base CX0 3 a fd ["_law_jar_here", "_law_keys", "_law_many"] m__law_story := by
  refine FnG.ofN F sc__law_story 3 9 rfl rfl ?_
  intro cd A up s0 H Ex hg hr
  have sc := sc__law_story
  have r : Rm _ 2 := ⟨hg, hr⟩
  exact story_walk story_of story_answer story_behind
    (s_parN (is := [3, 4, 5, 6]) rfl (pgs_cons (pg_name (i := 3) sc.nd rfl (by first | exact Or.inl rfl | exact Or.inr rfl)) (pgs_cons (pg_name (i := 4) sc.nd rfl (by first | exact Or.inl rfl | exact Or.inr rfl)) (pgs_cons (pg_name (i := 5) sc.nd rfl (by first | exact Or.inl rfl | exact Or.inr rfl)) (pgs_cons (pg_name (i := 6) sc.nd rfl (by first | exact Or.inl rfl | exact Or.inr rfl)) pgs_nil)))) (a_cons (a_lst a_nil) (a_cons (a_lst a_nil) (a_cons a_dict0 (a_cons a_int a_nil)))) (by decide))
    PassesOwn.never rfl (i_rng1 rfl T.z_range (a_cons (a_bin op_mulW mul_snd a_int (a_var 2 rfl)) a_nil)) (g_nm sc.nd rfl (by first | exact Or.inl rfl | exact Or.inr rfl))
    (story_body
      (PW.pt (a_andT (a_tcmp op_ltA lt_snd (a_callB call_lenA len_snd T.z_len PySem.boot_len (a_cons (a_var 3 rfl) a_nil)) (a_var 2 rfl)) (a_and1 (PW.pt (a_orT (a_tcmp (op_eqA r.u) eq_snd (a_var 4 rfl) (a_lst a_nil)) (a_or1 (a_tcmp (op_eqA r.u) eq_snd (c_fn d__law_take r (by first | decide | omega) (a_cons (a_var 0 rfl) (a_cons a_int a_nil))) a_int)))))))
      (s_set (i := 6) sc.nd rfl (a_bin op_addA add_snd (a_bin op_addA add_snd (a_var 6 rfl) a_int) (c_fn d__law_of r (by first | decide | omega) (a_cons (a_var 0 rfl) (a_cons (a_lst (a_cons a_int (a_cons a_int (a_cons a_int (a_cons a_int (a_cons a_int a_nil)))))) a_nil)))))
      (s_expr (a_mut PySem.F.plainAttrs_list PySem.F.slot_list_append PySem.F.type_list_append mt_append append_snd rfl (a_cons (a_callB call_lenA len_snd T.z_len PySem.boot_len (a_cons (a_var 3 rfl) a_nil)) a_nil)))
      (s_set (i := 8) sc.nd rfl (c_fn d__law_of r (by first | decide | omega) (a_cons (a_var 0 rfl) (a_cons (a_lst (a_cons a_str (a_cons a_str (a_cons a_str (a_cons a_str a_nil))))) a_nil))))
      (s_appCell (W := fun cls d _ H => Ex cls d H) rfl (a_cons (a_dict (pps_cons a_str (a_var 6 rfl) (pps_cons a_str a_non (pps_cons a_str (c_fn d__law_of r (by first | decide | omega) (a_cons (a_var 0 rfl) (a_cons (a_var 1 rfl) a_nil))) (pps_cons a_str (a_var 8 rfl) (pps_cons a_str a_non pps_nil)))))) a_nil))
      (a_tcmp (op_neA r.u) ne_snd (a_var 4 rfl) (a_lst a_nil))
      (s_set (i := 9) sc.nd rfl (c_fn d__law_of r (by first | decide | omega) (a_cons (a_var 0 rfl) (a_cons (a_var 4 rfl) a_nil))))
      (s_set (i := 10) sc.nd rfl (a_ix (ix_any r.u) ix_snd (a_var 3 rfl) (a_var 9 rfl)))
      (s_if (a_tcmp op_isnA isn_snd (a_ix (ix_any r.u) ix_snd (a_var 10 rfl) a_str) a_non)
        (s_cons (s_set (i := 6) sc.nd rfl (a_bin op_addA add_snd (a_bin op_addA add_snd (a_var 6 rfl) a_int) (c_fn d__law_of r (by first | decide | omega) (a_cons (a_var 0 rfl) (a_cons (a_lst (a_cons a_int (a_cons a_int (a_cons a_int (a_cons a_int (a_cons a_int a_nil)))))) a_nil)))))
          (s_cons (s_put (i := 10) r.u rfl a_str (a_var 6 rfl))
          (s_one (s_expr (a_mut PySem.F.plainAttrs_list PySem.F.slot_list_remove PySem.F.type_list_remove mt_remove remove_snd rfl (a_cons (a_var 9 rfl) a_nil))))))
        (s_cons (s_set (i := 11) sc.nd rfl (a_meth (by decide) PySem.F.plainAttrs_dict PySem.F.slot_dict_get PySem.F.type_dict_get (mt_getB r.u) get_snd (a_var 5 rfl) (a_cons (a_ix (ix_any r.u) ix_snd (a_var 10 rfl) a_str) (a_cons a_bl a_nil))))
          (s_cons (s_put2 (i := 10) r.u rfl rfl (a_cons (a_var 6 rfl) (a_cons (a_var 7 rfl) a_nil)))
          (s_cons (s_put2 (i := 10) r.u rfl rfl (a_cons a_str (a_cons (a_var 11 rfl) a_nil)))
          (s_cons (s_if (a_tcmp op_gt gt_snd (c_fn d__law_take r (by first | decide | omega) (a_cons (a_var 0 rfl) (a_cons a_int a_nil))) a_int)
              (s_cons (s_put (i := 10) r.u rfl a_str (c_fn d__law_answer r (by first | decide | omega) (a_cons (a_ix (ix_any r.u) ix_snd (a_var 10 rfl) a_str) (a_cons (a_var 11 rfl) a_nil))))
              (s_one (s_put (i := 10) r.u rfl a_str (c_fn d__law_behind r (by first | decide | omega) (a_cons (a_ix (ix_any r.u) ix_snd (a_var 10 rfl) a_str) (a_cons (a_var 11 rfl) a_nil)))))) s_nil)
          (s_one (s_put (i := 5) r.u rfl (a_ix (ix_any r.u) ix_snd (a_var 10 rfl) a_str) (a_ix (ix_any r.u) ix_snd (a_var 10 rfl) a_str)))))))))
    (s_ret (a_var 3 rfl))
theorem w__law_story (T : Tops K mg w) (d__law_take : DefOk P w K mg base "_law_take" ["_law_jar_here", "_law_many"] 1 m__law_take) (d__law_of : DefOk P w K mg base "_law_of" ["_law_jar_here", "_law_some"] 2 m__law_of) (d__law_answer : DefOk P w K mg base "_law_answer" ["_law_sort", "_law_is_up"] 1 m__law_answer) (d__law_behind : DefOk P w K mg base "_law_behind" ["_law_sort", "_law_is_up"] 1 m__law_behind) {a : Addr} {fd : FuncData} (F : Fun K "_law_story" "_law_story" (top 38) a fd) (hm : mg "_law_story" = some (.ref a)) : DefOk P w K mg base "_law_story" ["_law_jar_here", "_law_keys", "_law_many"] 3 m__law_story :=
  ⟨⟨a, fd, hm, F.kp, F.binds fun _ _ _ _ _ _ us hl => (match us, hl with | [_, _, _], _ => rfl), kwB_of F fun _ _ _ _ _ _ us hl => (match us, hl with | [_, _, _], _ => rfl), fg__law_story T d__law_take d__law_of d__law_answer d__law_behind F⟩, len_runF⟩
theorem sc__law_answers : FnScope ["_law_sort"] ["_law_sort"] (defScope (top 35)) := ⟨rfl, rfl, rfl, by decide +kernel, rfl, by decide +kernel, by decide +kernel⟩
theorem fg__law_answers (T : Tops K mg w) {a : Addr} {fd : FuncData} (F : Fun K "_law_answers" "_law_answers" (top 35) a fd) : FnG P w K mg base CX0 1 a fd ["_law_sort"] m__law_answers := by
  refine FnG.ofN F sc__law_answers 1 0 rfl rfl ?_
  intro cd A up s0 H Ex hg hr
  have sc := sc__law_answers
  have r : Rm _ 0 := ⟨hg, hr⟩
  exact (s_cons (s_if (a_tcmp (op_eqA r.u) eq_snd (a_var 0 rfl) a_str) (s_one (s_ret (a_tup (a_cons a_str (a_cons a_str (a_cons a_str a_nil)))))) s_nil)
    (s_one (s_ret (a_ifx (a_tcmp (op_eqA r.u) eq_snd (a_var 0 rfl) a_str) (a_tup (a_cons a_str (a_cons a_str (a_cons a_str a_nil)))) (a_tup (a_cons a_str (a_cons a_str (a_cons a_str a_nil))))))))
theorem w__law_answers (T : Tops K mg w) {a : Addr} {fd : FuncData} (F : Fun K "_law_answers" "_law_answers" (top 35) a fd) (hm : mg "_law_answers" = some (.ref a)) : DefOk P w K mg base "_law_answers" ["_law_sort"] 1 m__law_answers :=
  ⟨⟨a, fd, hm, F.kp, F.binds fun _ _ _ _ _ _ us hl => (match us, hl with | [_], _ => rfl), kwB_of F fun _ _ _ _ _ _ us hl => (match us, hl with | [_], _ => rfl), fg__law_answers T F⟩, len_runF⟩
theorem sc__law_wild : FnScope ["_law_jar_here", "_law_keys", "_law_many", "_law_found", "_law_turn", "_law_at", "_law_begin", "_law_end", "_law_sign", "_law_sort", "_law_answer_here", "_law_row"] ["_law_jar_here", "_law_keys", "_law_many"] (defScope (top 40)) := ⟨rfl, rfl, rfl, by decide +kernel, rfl, by decide +kernel, by decide +kernel⟩
theorem fg__law_wild (T : Tops K mg w) (d__law_told : DefOk P w K mg base "_law_told" ["_law_deeds"] 1 m__law_told) (d__law_story : DefOk P w K mg base "_law_story" ["_law_jar_here", "_law_keys", "_law_many"] 3 m__law_story) (d__law_of : DefOk P w K mg base "_law_of" ["_law_jar_here", "_law_some"] 2 m__law_of) (d__law_take : DefOk P w K mg base "_law_take" ["_law_jar_here", "_law_many"] 1 m__law_take) (d__law_answers : DefOk P w K mg base "_law_answers" ["_law_sort"] 1 m__law_answers) {a : Addr} {fd : FuncData} (F : Fun K "_law_wild" "_law_wild" (top 40) a fd) : FnG P w K mg base CX0 4 a fd ["_law_jar_here", "_law_keys", "_law_many"] m__law_wild := by
  refine FnG.ofN F sc__law_wild 3 9 rfl rfl ?_
  intro cd A up s0 H Ex hg hr
  have sc := sc__law_wild
  have r : Rm _ 3 := ⟨hg, hr⟩
  exact (s_cons (s_set (i := 3) sc.nd rfl (a_callT (call_listA rfl) listA_snd T.z_list PyProof.Rows.boot_list (a_cons (c_fn d__law_told r (by first | decide | omega) (a_cons (c_fn d__law_story r (by first | decide | omega) (a_cons (a_var 0 rfl) (a_cons (a_var 1 rfl) (a_cons (a_var 2 rfl) a_nil)))) a_nil)) a_nil)))
    (s_cons (s_for PassesOwn.never rfl (i_rng1 rfl T.z_range (a_cons (c_fn d__law_of r (by first | decide | omega) (a_cons (a_var 0 rfl) (a_cons (a_lst (a_cons a_int (a_cons a_int (a_cons a_int (a_cons a_int a_nil))))) a_nil))) a_nil)) (g_nm sc.nd rfl (by first | exact Or.inl rfl | exact Or.inr rfl)) (s_cons (s_set (i := 5) sc.nd rfl (c_fn d__law_take r (by first | decide | omega) (a_cons (a_var 0 rfl) (a_cons (a_callB call_lenA len_snd T.z_len PySem.boot_len (a_cons (a_var 3 rfl) a_nil)) a_nil))))
    (s_cons (s_tg (a_ix (ix_any r.u) ix_snd (a_var 3 rfl) (a_var 5 rfl)) (g_tp rfl (g_cons (g_nm sc.nd rfl (by first | exact Or.inl rfl | exact Or.inr rfl)) (g_cons (g_nm sc.nd rfl (by first | exact Or.inl rfl | exact Or.inr rfl)) (g_cons (g_nm sc.nd rfl (by first | exact Or.inl rfl | exact Or.inr rfl)) (g_cons (g_nm sc.nd rfl (by first | exact Or.inl rfl | exact Or.inr rfl)) (g_cons (g_nm sc.nd rfl (by first | exact Or.inl rfl | exact Or.inr rfl)) g_nil)))))) (offT_of (by rfl)))
    (s_one (s_if (a_tcmp op_isA is_snd (a_var 7 rfl) a_non) (s_cons (s_set (i := 7) sc.nd rfl (a_bin op_addA add_snd a_int (a_callB (call_maxA rfl) maxA_snd T.z_max PyProof.Rows.boot_max (a_cons (a_bin op_addA add_snd (a_lcO (own := [("_law_row", 11)]) (vs := [11]) rfl sc.nd (blkOk_by (by rfl)) rfl (okT_of (by rfl)) rfl (fun _ _ _ _ _ => (g_nm sc.nd rfl (by first | exact Or.inl rfl | exact Or.inr rfl))) (fun _ _ _ _ _ => c_yes) (fun _ _ _ _ _ => (a_ix (ix_any r.u) ix_snd (a_var 11 rfl) a_int))) (a_lcO (own := [("_law_row", 11)]) (vs := [11]) rfl sc.nd (blkOk_by (by rfl)) rfl (okT_of (by rfl)) rfl (fun _ _ _ _ _ => (g_nm sc.nd rfl (by first | exact Or.inl rfl | exact Or.inr rfl))) (fun _ _ _ _ _ => c_one (a_tcmp op_isnA isn_snd (a_ix (ix_any r.u) ix_snd (a_var 11 rfl) a_int) a_non)) (fun _ _ _ _ _ => (a_ix (ix_any r.u) ix_snd (a_var 11 rfl) a_int)))) a_nil))))
    (s_one (s_put (i := 3) r.u rfl (a_var 5 rfl) (a_tup (a_cons (a_var 6 rfl) (a_cons (a_var 7 rfl) (a_cons (a_var 8 rfl) (a_cons (a_var 9 rfl) (a_cons (c_fn d__law_of r (by first | decide | omega) (a_cons (a_var 0 rfl) (a_cons (c_fn d__law_answers r (by first | decide | omega) (a_cons (a_var 9 rfl) a_nil)) a_nil))) a_nil))))))))) (s_one (s_if (a_tcmp (op_eqA r.u) eq_snd (c_fn d__law_take r (by first | decide | omega) (a_cons (a_var 0 rfl) (a_cons a_int a_nil))) a_int) (s_one (s_put (i := 3) r.u rfl (a_var 5 rfl) (a_tup (a_cons (a_var 6 rfl) (a_cons a_non (a_cons (a_var 8 rfl) (a_cons (a_var 9 rfl) (a_cons a_non a_nil)))))))) (s_one (s_put (i := 3) r.u rfl (a_var 5 rfl) (a_tup (a_cons (a_var 6 rfl) (a_cons (a_var 7 rfl) (a_cons (a_var 8 rfl) (a_cons (a_var 9 rfl) (a_cons (c_fn d__law_of r (by first | decide | omega) (a_cons (a_var 0 rfl) (a_cons (c_fn d__law_answers r (by first | decide | omega) (a_cons (a_var 9 rfl) a_nil)) a_nil))) a_nil)))))))))))))) (offT_of (by rfl)))
    (s_one (s_ret (a_callT call_tuple_of tuple_snd T.z_tuple PyProof.Rows.boot_tuple (a_cons (a_var 3 rfl) a_nil))))))
theorem w__law_wild (T : Tops K mg w) (d__law_told : DefOk P w K mg base "_law_told" ["_law_deeds"] 1 m__law_told) (d__law_story : DefOk P w K mg base "_law_story" ["_law_jar_here", "_law_keys", "_law_many"] 3 m__law_story) (d__law_of : DefOk P w K mg base "_law_of" ["_law_jar_here", "_law_some"] 2 m__law_of) (d__law_take : DefOk P w K mg base "_law_take" ["_law_jar_here", "_law_many"] 1 m__law_take) (d__law_answers : DefOk P w K mg base "_law_answers" ["_law_sort"] 1 m__law_answers) {a : Addr} {fd : FuncData} (F : Fun K "_law_wild" "_law_wild" (top 40) a fd) (hm : mg "_law_wild" = some (.ref a)) : DefOk P w K mg base "_law_wild" ["_law_jar_here", "_law_keys", "_law_many"] 4 m__law_wild :=
  ⟨⟨a, fd, hm, F.kp, F.binds fun _ _ _ _ _ _ us hl => (match us, hl with | [_, _, _], _ => rfl), kwB_of F fun _ _ _ _ _ _ us hl => (match us, hl with | [_, _, _], _ => rfl), fg__law_wild T d__law_told d__law_story d__law_of d__law_take d__law_answers F⟩, len_runF⟩
theorem sc__law_keyed : FnScope ["_law_book", "_law_sign", "_law_number", "_law_record"] ["_law_book", "_law_sign"] (defScope (top 46)) := ⟨rfl, rfl, rfl, by decide +kernel, rfl, by decide +kernel, by decide +kernel⟩
theorem fg__law_keyed (T : Tops K mg w) {a : Addr} {fd : FuncData} (F : Fun K "_law_keyed" "_law_keyed" (top 46) a fd) : FnG P w K mg base CX0 1 a fd ["_law_book", "_law_sign"] m__law_keyed := by
  refine FnG.ofN F sc__law_keyed 2 2 rfl rfl ?_
  intro cd A up s0 H Ex hg hr
  have sc := sc__law_keyed
  have r : Rm _ 0 := ⟨hg, hr⟩
  exact (s_one (s_ret (a_lc (own := [("_law_number", 2), ("_law_record", 3)]) (vs := [2, 3]) rfl sc.nd (blkOk_by (by rfl)) rfl (okT_of (by rfl)) (i_enumA rfl T.z_enumerate (a_cons (a_var 0 rfl) a_nil)) (fun _ _ _ _ _ => (g_tp rfl (g_cons (g_nm sc.nd rfl (by first | exact Or.inl rfl | exact Or.inr rfl)) (g_cons (g_nm sc.nd rfl (by first | exact Or.inl rfl | exact Or.inr rfl)) g_nil)))) (fun _ _ _ _ _ => c_one (a_tcmp (op_eqA r.u) eq_snd (a_ix (ix_any r.u) ix_snd (a_var 3 rfl) a_int) (a_var 1 rfl))) (fun _ _ _ _ _ => (a_var 2 rfl)))))
theorem w__law_keyed (T : Tops K mg w) {a : Addr} {fd : FuncData} (F : Fun K "_law_keyed" "_law_keyed" (top 46) a fd) (hm : mg "_law_keyed" = some (.ref a)) : DefOk P w K mg base "_law_keyed" ["_law_book", "_law_sign"] 1 m__law_keyed :=
  ⟨⟨a, fd, hm, F.kp, F.binds fun _ _ _ _ _ _ us hl => (match us, hl with | [_, _], _ => rfl), kwB_of F fun _ _ _ _ _ _ us hl => (match us, hl with | [_, _], _ => rfl), fg__law_keyed T F⟩, len_runF⟩
theorem sc__law_counts : FnScope ["_law_record"] ["_law_record"] (defScope (top 41)) := ⟨rfl, rfl, rfl, by decide +kernel, rfl, by decide +kernel, by decide +kernel⟩
theorem fg__law_counts (T : Tops K mg w) {a : Addr} {fd : FuncData} (F : Fun K "_law_counts" "_law_counts" (top 41) a fd) : FnG P w K mg base CX0 1 a fd ["_law_record"] m__law_counts := by
  refine FnG.ofN F sc__law_counts 1 0 rfl rfl ?_
  intro cd A up s0 H Ex hg hr
  have sc := sc__law_counts
  have r : Rm _ 0 := ⟨hg, hr⟩
  exact (s_one (s_ret (a_andV (a_cmp op_isnA isn_snd (a_ix (ix_any r.u) ix_snd (a_var 0 rfl) a_int) a_non) (a_one (a_cmp (op_neA r.u) ne_snd (a_ix (ix_any r.u) ix_snd (a_var 0 rfl) a_int) a_str)))))
theorem w__law_counts (T : Tops K mg w) {a : Addr} {fd : FuncData} (F : Fun K "_law_counts" "_law_counts" (top 41) a fd) (hm : mg "_law_counts" = some (.ref a)) : DefOk P w K mg base "_law_counts" ["_law_record"] 1 m__law_counts :=
  ⟨⟨a, fd, hm, F.kp, F.binds fun _ _ _ _ _ _ us hl => (match us, hl with | [_], _ => rfl), kwB_of F fun _ _ _ _ _ _ us hl => (match us, hl with | [_], _ => rfl), fg__law_counts T F⟩, len_runF⟩
theorem sc__law_may : FnScope ["_law_record"] ["_law_record"] (defScope (top 42)) := ⟨rfl, rfl, rfl, by decide +kernel, rfl, by decide +kernel, by decide +kernel⟩
theorem fg__law_may (T : Tops K mg w) (d__law_counts : DefOk P w K mg base "_law_counts" ["_law_record"] 1 m__law_counts) {a : Addr} {fd : FuncData} (F : Fun K "_law_may" "_law_may" (top 42) a fd) : FnG P w K mg base CX0 2 a fd ["_law_record"] m__law_may := by
  refine FnG.ofN F sc__law_may 1 0 rfl rfl ?_
  intro cd A up s0 H Ex hg hr
  have sc := sc__law_may
  have r : Rm _ 1 := ⟨hg, hr⟩
  exact (s_one (s_ret (a_orV (c_fn d__law_counts r (by first | decide | omega) (a_cons (a_var 0 rfl) a_nil)) (a_one (a_andV (a_cmp op_isA is_snd (a_ix (ix_any r.u) ix_snd (a_var 0 rfl) a_int) a_non) (a_one (a_cmp (op_neA r.u) ne_snd (a_ix (ix_any r.u) ix_snd (a_var 0 rfl) a_int) a_str)))))))
theorem w__law_may (T : Tops K mg w) (d__law_counts : DefOk P w K mg base "_law_counts" ["_law_record"] 1 m__law_counts) {a : Addr} {fd : FuncData} (F : Fun K "_law_may" "_law_may" (top 42) a fd) (hm : mg "_law_may" = some (.ref a)) : DefOk P w K mg base "_law_may" ["_law_record"] 2 m__law_may :=
  ⟨⟨a, fd, hm, F.kp, F.binds fun _ _ _ _ _ _ us hl => (match us, hl with | [_], _ => rfl), kwB_of F fun _ _ _ _ _ _ us hl => (match us, hl with | [_], _ => rfl), fg__law_may T d__law_counts F⟩, len_runF⟩
theorem sc__law_next : FnScope ["_law_book", "_law_numbers", "_law_here", "_law_done", "_law_is_up", "_law_found", "_law_number", "_law_begin", "_law_end", "_law_sign", "_law_sort", "_law_answer_here", "_law_left", "_law_other", "_law_is_next"] ["_law_book", "_law_numbers", "_law_here"] (defScope (top 43)) := ⟨rfl, rfl, rfl, by decide +kernel, rfl, by decide +kernel, by decide +kernel⟩
theorem fg__law_next (T : Tops K mg w) (d__law_counts : DefOk P w K mg base "_law_counts" ["_law_record"] 1 m__law_counts) (d__law_may : DefOk P w K mg base "_law_may" ["_law_record"] 2 m__law_may) (d__law_answer : DefOk P w K mg base "_law_answer" ["_law_sort", "_law_is_up"] 1 m__law_answer) (d__law_behind : DefOk P w K mg base "_law_behind" ["_law_sort", "_law_is_up"] 1 m__law_behind) {a : Addr} {fd : FuncData} (F : Fun K "_law_next" "_law_next" (top 43) a fd) : FnG P w K mg base CX0 3 a fd ["_law_book", "_law_numbers", "_law_here"] m__law_next := by
  refine FnG.ofN F sc__law_next 3 12 rfl rfl ?_
  intro cd A up s0 H Ex hg hr
  have sc := sc__law_next
  have r : Rm _ 2 := ⟨hg, hr⟩
  exact (s_cons (s_parN (is := [3, 4, 5]) rfl (pgs_cons (pg_name (i := 3) sc.nd rfl (by first | exact Or.inl rfl | exact Or.inr rfl)) (pgs_cons (pg_name (i := 4) sc.nd rfl (by first | exact Or.inl rfl | exact Or.inr rfl)) (pgs_cons (pg_name (i := 5) sc.nd rfl (by first | exact Or.inl rfl | exact Or.inr rfl)) pgs_nil))) (a_cons (a_ix (ix_any r.u) ix_snd (a_var 2 rfl) a_int) (a_cons (a_ix (ix_any r.u) ix_snd (a_var 2 rfl) a_int) (a_cons (a_lst a_nil) a_nil))) (by decide))
    (s_cons (s_for PassesOwn.never rfl (i_seq (a_var 1 rfl)) (g_nm sc.nd rfl (by first | exact Or.inl rfl | exact Or.inr rfl)) (s_cons (s_tg (a_ix (ix_any r.u) ix_snd (a_var 0 rfl) (a_var 6 rfl)) (g_tp rfl (g_cons (g_nm sc.nd rfl (by first | exact Or.inl rfl | exact Or.inr rfl)) (g_cons (g_nm sc.nd rfl (by first | exact Or.inl rfl | exact Or.inr rfl)) (g_cons (g_nm sc.nd rfl (by first | exact Or.inl rfl | exact Or.inr rfl)) (g_cons (g_nm sc.nd rfl (by first | exact Or.inl rfl | exact Or.inr rfl)) (g_cons (g_nm sc.nd rfl (by first | exact Or.inl rfl | exact Or.inr rfl)) g_nil)))))) (offT_of (by rfl)))
    (s_cons (s_setLc (own := [("_law_other", 13)]) (vs := [13]) rfl sc.nd rfl (sw_true rfl rfl rfl rfl) (blkOk_by (by rfl)) rfl (okT_of (by rfl)) (i_seq (a_var 1 rfl)) (fun _ _ _ _ _ => (g_nm sc.nd rfl (by first | exact Or.inl rfl | exact Or.inr rfl))) (fun _ _ _ _ _ => c_one (PW.pt (a_andT (a_tcmp (op_niA r.u) ni_snd (a_var 13 rfl) (a_var 3 rfl)) (a_and1 (a_tval (c_fn d__law_counts r (by first | decide | omega) (a_cons (a_ix (ix_any r.u) ix_snd (a_var 0 rfl) (a_var 13 rfl)) a_nil))))))) (fun _ _ _ _ _ => (a_var 13 rfl)))
    (s_cons (s_set (i := 14) sc.nd rfl (a_andV (a_cmp (op_niA r.u) ni_snd (a_var 6 rfl) (a_var 3 rfl)) (a_one (c_fn d__law_may r (by first | decide | omega) (a_cons (a_ix (ix_any r.u) ix_snd (a_var 0 rfl) (a_var 6 rfl)) a_nil)))))
    (s_one (s_if (PW.pt (a_andT (a_truth (a_var 14 rfl)) (a_and1 (a_notT (a_tval (a_callB (cr_any rfl) any_snd T.z_any PyProof.Rows.boot_any (a_cons (a_lc (own := [("_law_other", 13)]) (vs := [13]) rfl sc.nd (blkOk_by (by rfl)) rfl (okT_of (by rfl)) (i_seq (a_var 12 rfl)) (fun _ _ _ _ _ => (g_nm sc.nd rfl (by first | exact Or.inl rfl | exact Or.inr rfl))) (fun _ _ _ _ _ => c_yes) (fun _ _ _ _ _ => (a_cmp op_ltA lt_snd (a_ix (ix_any r.u) ix_snd (a_ix (ix_any r.u) ix_snd (a_var 0 rfl) (a_var 13 rfl)) a_int) (a_var 7 rfl)))) a_nil))))))) (s_one (s_if (a_tcmp (op_eqA r.u) eq_snd (c_fn d__law_answer r (by first | decide | omega) (a_cons (a_var 10 rfl) (a_cons (a_var 4 rfl) a_nil))) (a_ifx (a_tcmp op_isA is_snd (a_var 11 rfl) a_non) a_str (a_var 11 rfl))) (s_one (s_expr (a_mut PySem.F.plainAttrs_list PySem.F.slot_list_append PySem.F.type_list_append mt_append append_snd rfl (a_cons (a_tup (a_cons (a_callT call_tuple_of tuple_snd T.z_tuple PyProof.Rows.boot_tuple (a_cons (a_callB (cr_sortedA rfl r.u) sorted_snd T.z_sorted PyProof.Rows.boot_sorted (a_cons (a_bin op_addA add_snd (a_var 3 rfl) (a_tup (a_cons (a_var 6 rfl) a_nil))) a_nil)) a_nil)) (a_cons (c_fn d__law_behind r (by first | decide | omega) (a_cons (a_var 10 rfl) (a_cons (a_var 4 rfl) a_nil))) a_nil))) a_nil)))) s_nil)) s_nil))))) (offT_of (by rfl)))
    (s_one (s_ret (a_var 5 rfl)))))
theorem w__law_next (T : Tops K mg w) (d__law_counts : DefOk P w K mg base "_law_counts" ["_law_record"] 1 m__law_counts) (d__law_may : DefOk P w K mg base "_law_may" ["_law_record"] 2 m__law_may) (d__law_answer : DefOk P w K mg base "_law_answer" ["_law_sort", "_law_is_up"] 1 m__law_answer) (d__law_behind : DefOk P w K mg base "_law_behind" ["_law_sort", "_law_is_up"] 1 m__law_behind) {a : Addr} {fd : FuncData} (F : Fun K "_law_next" "_law_next" (top 43) a fd) (hm : mg "_law_next" = some (.ref a)) : DefOk P w K mg base "_law_next" ["_law_book", "_law_numbers", "_law_here"] 3 m__law_next :=
  ⟨⟨a, fd, hm, F.kp, F.binds fun _ _ _ _ _ _ us hl => (match us, hl with | [_, _, _], _ => rfl), kwB_of F fun _ _ _ _ _ _ us hl => (match us, hl with | [_, _, _], _ => rfl), fg__law_next T d__law_counts d__law_may d__law_answer d__law_behind F⟩, len_runF⟩
theorem sc__law_states : FnScope ["_law_book", "_law_numbers", "_law_found", "_law_waiting", "_law_here"] ["_law_book", "_law_numbers"] (defScope (top 44)) := ⟨rfl, rfl, rfl, by decide +kernel, rfl, by decide +kernel, by decide +kernel⟩
theorem fg__law_states (T : Tops K mg w) (d__law_next : DefOk P w K mg base "_law_next" ["_law_book", "_law_numbers", "_law_here"] 3 m__law_next) {a : Addr} {fd : FuncData} (F : Fun K "_law_states" "_law_states" (top 44) a fd) : FnG P w K mg base CX0 4 a fd ["_law_book", "_law_numbers"] m__law_states := by
  refine FnG.ofN F sc__law_states 2 3 rfl rfl ?_
  intro cd A up s0 H Ex hg hr
  have sc := sc__law_states
  have r : Rm _ 3 := ⟨hg, hr⟩
  exact (s_cons (s_par2 (i := 2) (j := 3) rfl sc.nd rfl rfl (a_cons a_dictN0 (a_cons (a_lst (a_cons (a_tup (a_cons (a_tup a_nil) (a_cons a_bl a_nil))) a_nil)) a_nil)) (by rfl))
    (s_cons (s_while 100000 PassesOwn.never (a_tcmp (op_neA r.u) ne_snd (a_var 3 rfl) (a_lst a_nil)) (s_cons (s_set (i := 4) sc.nd rfl (a_mut0 PySem.F.plainAttrs_list PySem.F.slot_list_pop PySem.F.type_list_pop mt_pop pop_snd rfl))
    (s_one (s_if (a_tcmp (op_niA r.u) ni_snd (a_var 4 rfl) (a_var 2 rfl)) (s_cons (s_put (i := 2) r.u rfl (a_var 4 rfl) (c_fn d__law_next r (by first | decide | omega) (a_cons (a_var 0 rfl) (a_cons (a_var 1 rfl) (a_cons (a_var 4 rfl) a_nil)))))
    (s_one (s_expr (a_mut PySem.F.plainAttrs_list PySem.F.slot_list_extend PySem.F.type_list_extend mt_extend extend_snd rfl (a_cons (a_ix (ix_any r.u) ix_snd (a_var 2 rfl) (a_var 4 rfl)) a_nil))))) s_nil))))
    (s_one (s_ret (a_var 2 rfl)))))
theorem w__law_states (T : Tops K mg w) (d__law_next : DefOk P w K mg base "_law_next" ["_law_book", "_law_numbers", "_law_here"] 3 m__law_next) {a : Addr} {fd : FuncData} (F : Fun K "_law_states" "_law_states" (top 44) a fd) (hm : mg "_law_states" = some (.ref a)) : DefOk P w K mg base "_law_states" ["_law_book", "_law_numbers"] 4 m__law_states :=
  ⟨⟨a, fd, hm, F.kp, F.binds fun _ _ _ _ _ _ us hl => (match us, hl with | [_, _], _ => rfl), kwB_of F fun _ _ _ _ _ _ us hl => (match us, hl with | [_, _], _ => rfl), fg__law_states T d__law_next F⟩, len_runF⟩
theorem sc__law_is_full : FnScope ["_law_book", "_law_numbers", "_law_done", "_law_number"] ["_law_book", "_law_numbers", "_law_done"] (defScope (top 45)) := ⟨rfl, rfl, rfl, by decide +kernel, rfl, by decide +kernel, by decide +kernel⟩
theorem fg__law_is_full (T : Tops K mg w) (d__law_counts : DefOk P w K mg base "_law_counts" ["_law_record"] 1 m__law_counts) {a : Addr} {fd : FuncData} (F : Fun K "_law_is_full" "_law_is_full" (top 45) a fd) : FnG P w K mg base CX0 2 a fd ["_law_book", "_law_numbers", "_law_done"] m__law_is_full := by
  refine FnG.ofN F sc__law_is_full 3 1 rfl rfl ?_
  intro cd A up s0 H Ex hg hr
  have sc := sc__law_is_full
  have r : Rm _ 1 := ⟨hg, hr⟩
  exact (s_one (s_ret (a_callB (cr_all rfl) all_snd T.z_all PyProof.Rows.boot_all (a_cons (a_lc (own := [("_law_number", 3)]) (vs := [3]) rfl sc.nd (blkOk_by (by rfl)) rfl (okT_of (by rfl)) (i_seq (a_var 1 rfl)) (fun _ _ _ _ _ => (g_nm sc.nd rfl (by first | exact Or.inl rfl | exact Or.inr rfl))) (fun _ _ _ _ _ => c_yes) (fun _ _ _ _ _ => (a_orV (a_cmp (op_inA r.u) in_snd (a_var 3 rfl) (a_var 2 rfl)) (a_one (a_notV (c_fn d__law_counts r (by first | decide | omega) (a_cons (a_ix (ix_any r.u) ix_snd (a_var 0 rfl) (a_var 3 rfl)) a_nil))))))) a_nil))))
theorem w__law_is_full (T : Tops K mg w) (d__law_counts : DefOk P w K mg base "_law_counts" ["_law_record"] 1 m__law_counts) {a : Addr} {fd : FuncData} (F : Fun K "_law_is_full" "_law_is_full" (top 45) a fd) (hm : mg "_law_is_full" = some (.ref a)) : DefOk P w K mg base "_law_is_full" ["_law_book", "_law_numbers", "_law_done"] 2 m__law_is_full :=
  ⟨⟨a, fd, hm, F.kp, F.binds fun _ _ _ _ _ _ us hl => (match us, hl with | [_, _, _], _ => rfl), kwB_of F fun _ _ _ _ _ _ us hl => (match us, hl with | [_, _, _], _ => rfl), fg__law_is_full T d__law_counts F⟩, len_runF⟩
theorem sc_is_name : FnScope ["value", "sign"] ["value"] (defScope (top 4)) := ⟨rfl, rfl, rfl, by decide +kernel, rfl, by decide +kernel, by decide +kernel⟩
theorem fg_is_name (T : Tops K mg w) {a : Addr} {fd : FuncData} (F : Fun K "is_name" "is_name" (top 4) a fd) : FnG P w K mg base CX0 1 a fd ["value"] m_is_name := by
  refine FnG.ofN F sc_is_name 1 1 rfl rfl ?_
  intro cd A up s0 H Ex hg hr
  have sc := sc_is_name
  have r : Rm _ 0 := ⟨hg, hr⟩
  exact (s_cons (s_if (PW.pt (a_orT (a_notT (a_tval (a_callB call_isi isi_snd T.z_isinstance PyProof.Rows.boot_isinstance (a_cons (a_var 0 rfl) (a_cons (a_ty T.z_str PyProof.Rows.boot_str) a_nil))))) (a_or1 (a_notT (a_tchain op_leA op_leA le_snd le_snd le_bl a_int (a_callB call_lenA len_snd T.z_len PySem.boot_len (a_cons (a_var 0 rfl) a_nil)) (a_glob T.c_LONGEST_NAME)))))) (s_one (s_ret a_bl)) s_nil)
    (s_one (s_ret (a_callB (cr_all rfl) all_snd T.z_all PyProof.Rows.boot_all (a_cons (a_lc (own := [("sign", 1)]) (vs := [1]) rfl sc.nd (blkOk_by (by rfl)) rfl (okT_of (by rfl)) (i_seq (a_var 0 rfl)) (fun _ _ _ _ _ => (g_nm sc.nd rfl (by first | exact Or.inl rfl | exact Or.inr rfl))) (fun _ _ _ _ _ => c_yes) (fun _ _ _ _ _ => (a_cmp (op_inA r.u) in_snd (a_var 1 rfl) (a_glob T.c_LETTERS)))) a_nil)))))
theorem w_is_name (T : Tops K mg w) {a : Addr} {fd : FuncData} (F : Fun K "is_name" "is_name" (top 4) a fd) (hm : mg "is_name" = some (.ref a)) : DefOk P w K mg base "is_name" ["value"] 1 m_is_name :=
  ⟨⟨a, fd, hm, F.kp, F.binds fun _ _ _ _ _ _ us hl => (match us, hl with | [_], _ => rfl), kwB_of F fun _ _ _ _ _ _ us hl => (match us, hl with | [_], _ => rfl), fg_is_name T F⟩, len_runF⟩
theorem sc_is_integer : FnScope ["value"] ["value"] (defScope (top 3)) := ⟨rfl, rfl, rfl, by decide +kernel, rfl, by decide +kernel, by decide +kernel⟩
theorem fg_is_integer (T : Tops K mg w) {a : Addr} {fd : FuncData} (F : Fun K "is_integer" "is_integer" (top 3) a fd) : FnG P w K mg base CX0 1 a fd ["value"] m_is_integer := by
  refine FnG.ofN F sc_is_integer 1 0 rfl rfl ?_
  intro cd A up s0 H Ex hg hr
  have sc := sc_is_integer
  have r : Rm _ 0 := ⟨hg, hr⟩
  exact (s_one (s_ret (a_andV (a_callB call_isi isi_snd T.z_isinstance PyProof.Rows.boot_isinstance (a_cons (a_var 0 rfl) (a_cons (a_ty T.z_int PyProof.Rows.boot_int) a_nil))) (a_one (a_notV (a_callB call_isi isi_snd T.z_isinstance PyProof.Rows.boot_isinstance (a_cons (a_var 0 rfl) (a_cons (a_ty T.z_bool PyProof.Rows.boot_bool) a_nil))))))))
theorem w_is_integer (T : Tops K mg w) {a : Addr} {fd : FuncData} (F : Fun K "is_integer" "is_integer" (top 3) a fd) (hm : mg "is_integer" = some (.ref a)) : DefOk P w K mg base "is_integer" ["value"] 1 m_is_integer :=
  ⟨⟨a, fd, hm, F.kp, F.binds fun _ _ _ _ _ _ us hl => (match us, hl with | [_], _ => rfl), kwB_of F fun _ _ _ _ _ _ us hl => (match us, hl with | [_], _ => rfl), fg_is_integer T F⟩, len_runF⟩
theorem sc_is_record : FnScope ["value", "begin", "end", "key", "sort", "answer"] ["value"] (defScope (top 16)) := ⟨rfl, rfl, rfl, by decide +kernel, rfl, by decide +kernel, by decide +kernel⟩
theorem fg_is_record (T : Tops K mg w) (d_is_name : DefOk P w K mg base "is_name" ["value"] 1 m_is_name) (d_is_integer : DefOk P w K mg base "is_integer" ["value"] 1 m_is_integer) {a : Addr} {fd : FuncData} (F : Fun K "is_record" "is_record" (top 16) a fd) : FnG P w K mg base CX0 2 a fd ["value"] m_is_record := by
  refine FnG.ofN F sc_is_record 1 5 rfl rfl ?_
  intro cd A up s0 H Ex hg hr
  have sc := sc_is_record
  have r : Rm _ 1 := ⟨hg, hr⟩
  exact (s_cons (s_if (PW.pt (a_orT (a_notT (a_tval (a_callB call_isi isi_snd T.z_isinstance PyProof.Rows.boot_isinstance (a_cons (a_var 0 rfl) (a_cons (a_ty T.z_tuple PyProof.Rows.boot_tuple) a_nil))))) (a_or1 (a_tcmp (op_neA r.u) ne_snd (a_callB call_lenA len_snd T.z_len PySem.boot_len (a_cons (a_var 0 rfl) a_nil)) (a_glob T.c_RECORD))))) (s_one (s_ret a_bl)) s_nil)
    (s_cons (s_tg (a_var 0 rfl) (g_tp rfl (g_cons (g_nm sc.nd rfl (by first | exact Or.inl rfl | exact Or.inr rfl)) (g_cons (g_nm sc.nd rfl (by first | exact Or.inl rfl | exact Or.inr rfl)) (g_cons (g_nm sc.nd rfl (by first | exact Or.inl rfl | exact Or.inr rfl)) (g_cons (g_nm sc.nd rfl (by first | exact Or.inl rfl | exact Or.inr rfl)) (g_cons (g_nm sc.nd rfl (by first | exact Or.inl rfl | exact Or.inr rfl)) g_nil)))))) (offT_of (by rfl)))
    (s_cons (s_if (PW.pt (a_orT (a_notT (a_tval (c_fn d_is_integer r (by first | decide | omega) (a_cons (a_var 1 rfl) a_nil)))) (a_orT (a_tcmp op_ltA lt_snd (a_var 1 rfl) a_int) (a_orT (a_notT (a_tval (c_fn d_is_name r (by first | decide | omega) (a_cons (a_var 3 rfl) a_nil)))) (a_orT (a_notT (a_tval (a_callB call_isi isi_snd T.z_isinstance PyProof.Rows.boot_isinstance (a_cons (a_var 4 rfl) (a_cons (a_ty T.z_str PyProof.Rows.boot_str) a_nil))))) (a_or1 (a_tcmp (op_niA r.u) ni_snd (a_var 4 rfl) (a_glob T.c_ANSWERS)))))))) (s_one (s_ret a_bl)) s_nil)
    (s_cons (s_if (a_tcmp op_isA is_snd (a_var 2 rfl) a_non) (s_one (s_ret (a_cmp op_isA is_snd (a_var 5 rfl) a_non))) s_nil)
    (s_one (s_ret (a_andV (c_fn d_is_integer r (by first | decide | omega) (a_cons (a_var 2 rfl) a_nil)) (a_andV (a_cmp op_ltA lt_snd (a_var 1 rfl) (a_var 2 rfl)) (a_andV (a_callB call_isi isi_snd T.z_isinstance PyProof.Rows.boot_isinstance (a_cons (a_var 5 rfl) (a_cons (a_ty T.z_str PyProof.Rows.boot_str) a_nil))) (a_one (a_cmp (op_inA r.u) in_snd (a_var 5 rfl) (a_ix (ix_any r.u) ix_snd (a_glob T.c_ANSWERS) (a_var 4 rfl)))))))))))))
theorem w_is_record (T : Tops K mg w) (d_is_name : DefOk P w K mg base "is_name" ["value"] 1 m_is_name) (d_is_integer : DefOk P w K mg base "is_integer" ["value"] 1 m_is_integer) {a : Addr} {fd : FuncData} (F : Fun K "is_record" "is_record" (top 16) a fd) (hm : mg "is_record" = some (.ref a)) : DefOk P w K mg base "is_record" ["value"] 2 m_is_record :=
  ⟨⟨a, fd, hm, F.kp, F.binds fun _ _ _ _ _ _ us hl => (match us, hl with | [_], _ => rfl), kwB_of F fun _ _ _ _ _ _ us hl => (match us, hl with | [_], _ => rfl), fg_is_record T d_is_name d_is_integer F⟩, len_runF⟩
theorem sc_is_history : FnScope ["value", "one", "begins", "keys", "record", "times", "key"] ["value"] (defScope (top 17)) := ⟨rfl, rfl, rfl, by decide +kernel, rfl, by decide +kernel, by decide +kernel⟩
theorem fg_is_history (T : Tops K mg w) (d_is_record : DefOk P w K mg base "is_record" ["value"] 2 m_is_record) {a : Addr} {fd : FuncData} (F : Fun K "is_history" "is_history" (top 17) a fd) : FnG P w K mg base CX0 3 a fd ["value"] m_is_history := by
  refine FnG.ofN F sc_is_history 1 6 rfl rfl ?_
  intro cd A up s0 H Ex hg hr
  have sc := sc_is_history
  have r : Rm _ 2 := ⟨hg, hr⟩
  exact (s_cons (s_if (PW.pt (a_orT (a_notT (a_tval (a_callB call_isi isi_snd T.z_isinstance PyProof.Rows.boot_isinstance (a_cons (a_var 0 rfl) (a_cons (a_ty T.z_tuple PyProof.Rows.boot_tuple) a_nil))))) (a_orT (a_tcmp op_gt gt_snd (a_callB call_lenA len_snd T.z_len PySem.boot_len (a_cons (a_var 0 rfl) a_nil)) (a_glob T.c_MOST_RECORDS)) (a_or1 (a_notT (a_tval (a_callB (cr_all rfl) all_snd T.z_all PyProof.Rows.boot_all (a_cons (a_lc (own := [("one", 1)]) (vs := [1]) rfl sc.nd (blkOk_by (by rfl)) rfl (okT_of (by rfl)) (i_seq (a_var 0 rfl)) (fun _ _ _ _ _ => (g_nm sc.nd rfl (by first | exact Or.inl rfl | exact Or.inr rfl))) (fun _ _ _ _ _ => c_yes) (fun _ _ _ _ _ => (c_fn d_is_record r (by first | decide | omega) (a_cons (a_var 1 rfl) a_nil)))) a_nil)))))))) (s_one (s_ret a_bl)) s_nil)
    (s_cons (s_parN (is := [2, 3]) rfl (pgs_cons (pg_name (i := 2) sc.nd rfl (by first | exact Or.inl rfl | exact Or.inr rfl)) (pgs_cons (pg_name (i := 3) sc.nd rfl (by first | exact Or.inl rfl | exact Or.inr rfl)) pgs_nil)) (a_cons (a_lc (own := [("record", 4)]) (vs := [4]) rfl sc.nd (blkOk_by (by rfl)) rfl (okT_of (by rfl)) (i_seq (a_var 0 rfl)) (fun _ _ _ _ _ => (g_nm sc.nd rfl (by first | exact Or.inl rfl | exact Or.inr rfl))) (fun _ _ _ _ _ => c_yes) (fun _ _ _ _ _ => (a_ix (ix_any r.u) ix_snd (a_var 4 rfl) a_int))) (a_cons (a_lc (own := [("record", 4)]) (vs := [4]) rfl sc.nd (blkOk_by (by rfl)) rfl (okT_of (by rfl)) (i_seq (a_var 0 rfl)) (fun _ _ _ _ _ => (g_nm sc.nd rfl (by first | exact Or.inl rfl | exact Or.inr rfl))) (fun _ _ _ _ _ => c_yes) (fun _ _ _ _ _ => (a_ix (ix_any r.u) ix_snd (a_var 4 rfl) a_int))) a_nil)) (by decide))
    (s_cons (s_set (i := 5) sc.nd rfl (a_bin op_addA add_snd (a_var 2 rfl) (a_lc (own := [("record", 4)]) (vs := [4]) rfl sc.nd (blkOk_by (by rfl)) rfl (okT_of (by rfl)) (i_seq (a_var 0 rfl)) (fun _ _ _ _ _ => (g_nm sc.nd rfl (by first | exact Or.inl rfl | exact Or.inr rfl))) (fun _ _ _ _ _ => c_one (a_tcmp op_isnA isn_snd (a_ix (ix_any r.u) ix_snd (a_var 4 rfl) a_int) a_non)) (fun _ _ _ _ _ => (a_ix (ix_any r.u) ix_snd (a_var 4 rfl) a_int)))))
    (s_cons (s_if (PW.pt (a_orT (a_tcmp (op_neA r.u) ne_snd (a_var 2 rfl) (a_callB (cr_sortedA rfl r.u) sorted_snd T.z_sorted PyProof.Rows.boot_sorted (a_cons (a_var 2 rfl) a_nil))) (a_or1 (a_tcmp (op_neA r.u) ne_snd (a_lenset rfl T.z_len T.z_set (a_cons (a_var 5 rfl) a_nil)) (a_callB call_lenA len_snd T.z_len PySem.boot_len (a_cons (a_var 5 rfl) a_nil)))))) (s_one (s_ret a_bl)) s_nil)
    (s_one (s_ret (a_callB (cr_all rfl) all_snd T.z_all PyProof.Rows.boot_all (a_cons (a_lc (own := [("key", 6)]) (vs := [6]) rfl sc.nd (blkOk_by (by rfl)) rfl (okT_of (by rfl)) (i_seq (a_var 3 rfl)) (fun _ _ _ _ _ => (g_nm sc.nd rfl (by first | exact Or.inl rfl | exact Or.inr rfl))) (fun _ _ _ _ _ => c_yes) (fun _ _ _ _ _ => (a_cmp op_leA le_snd (a_meth (by decide) PySem.F.plainAttrs_list PySem.F.slot_list_count PySem.F.type_list_count mt_countF count_snd (a_var 3 rfl) (a_cons (a_var 6 rfl) a_nil)) (a_glob T.c_MOST_OF_A_KEY)))) a_nil))))))))
theorem w_is_history (T : Tops K mg w) (d_is_record : DefOk P w K mg base "is_record" ["value"] 2 m_is_record) {a : Addr} {fd : FuncData} (F : Fun K "is_history" "is_history" (top 17) a fd) (hm : mg "is_history" = some (.ref a)) : DefOk P w K mg base "is_history" ["value"] 3 m_is_history :=
  ⟨⟨a, fd, hm, F.kp, F.binds fun _ _ _ _ _ _ us hl => (match us, hl with | [_], _ => rfl), kwB_of F fun _ _ _ _ _ _ us hl => (match us, hl with | [_], _ => rfl), fg_is_history T d_is_record F⟩, len_runF⟩
theorem sc_check_history : FnScope ["value"] ["value"] (defScope (top 18)) := ⟨rfl, rfl, rfl, by decide +kernel, rfl, by decide +kernel, by decide +kernel⟩
theorem fg_check_history (T : Tops K mg w) (d_is_history : DefOk P w K mg base "is_history" ["value"] 3 m_is_history) {a : Addr} {fd : FuncData} (F : Fun K "check_history" "check_history" (top 18) a fd) : FnG P w K mg base CX0 4 a fd ["value"] m_check_history := by
  refine FnG.ofN F sc_check_history 1 0 rfl rfl ?_
  intro cd A up s0 H Ex hg hr
  have sc := sc_check_history
  have r : Rm _ 3 := ⟨hg, hr⟩
  exact (s_one (s_if (a_notT (a_tval (c_fn d_is_history r (by first | decide | omega) (a_cons (a_var 0 rfl) a_nil)))) (s_one s_no) s_nil))
theorem w_check_history (T : Tops K mg w) (d_is_history : DefOk P w K mg base "is_history" ["value"] 3 m_is_history) {a : Addr} {fd : FuncData} (F : Fun K "check_history" "check_history" (top 18) a fd) (hm : mg "check_history" = some (.ref a)) : DefOk P w K mg base "check_history" ["value"] 4 m_check_history :=
  ⟨⟨a, fd, hm, F.kp, F.binds fun _ _ _ _ _ _ us hl => (match us, hl with | [_], _ => rfl), kwB_of F fun _ _ _ _ _ _ us hl => (match us, hl with | [_], _ => rfl), fg_check_history T d_is_history F⟩, len_runF⟩
theorem sc_check_key : FnScope ["value"] ["value"] (defScope (top 19)) := ⟨rfl, rfl, rfl, by decide +kernel, rfl, by decide +kernel, by decide +kernel⟩
theorem fg_check_key (T : Tops K mg w) (d_is_name : DefOk P w K mg base "is_name" ["value"] 1 m_is_name) {a : Addr} {fd : FuncData} (F : Fun K "check_key" "check_key" (top 19) a fd) : FnG P w K mg base CX0 2 a fd ["value"] m_check_key := by
  refine FnG.ofN F sc_check_key 1 0 rfl rfl ?_
  intro cd A up s0 H Ex hg hr
  have sc := sc_check_key
  have r : Rm _ 1 := ⟨hg, hr⟩
  exact (s_one (s_if (a_notT (a_tval (c_fn d_is_name r (by first | decide | omega) (a_cons (a_var 0 rfl) a_nil)))) (s_one s_no) s_nil))
theorem w_check_key (T : Tops K mg w) (d_is_name : DefOk P w K mg base "is_name" ["value"] 1 m_is_name) {a : Addr} {fd : FuncData} (F : Fun K "check_key" "check_key" (top 19) a fd) (hm : mg "check_key" = some (.ref a)) : DefOk P w K mg base "check_key" ["value"] 2 m_check_key :=
  ⟨⟨a, fd, hm, F.kp, F.binds fun _ _ _ _ _ _ us hl => (match us, hl with | [_], _ => rfl), kwB_of F fun _ _ _ _ _ _ us hl => (match us, hl with | [_], _ => rfl), fg_check_key T d_is_name F⟩, len_runF⟩
theorem sc_numbers_of : FnScope ["history", "key", "number", "record"] ["history", "key"] (defScope (top 22)) := ⟨rfl, rfl, rfl, by decide +kernel, rfl, by decide +kernel, by decide +kernel⟩
theorem fg_numbers_of (T : Tops K mg w) {a : Addr} {fd : FuncData} (F : Fun K "numbers_of" "numbers_of" (top 22) a fd) : FnG P w K mg base CX0 1 a fd ["history", "key"] m_numbers_of := by
  refine FnG.ofN F sc_numbers_of 2 2 rfl rfl ?_
  intro cd A up s0 H Ex hg hr
  have sc := sc_numbers_of
  have r : Rm _ 0 := ⟨hg, hr⟩
  exact (s_one (s_ret (a_lc (own := [("number", 2), ("record", 3)]) (vs := [2, 3]) rfl sc.nd (blkOk_by (by rfl)) rfl (okT_of (by rfl)) (i_enumA rfl T.z_enumerate (a_cons (a_var 0 rfl) a_nil)) (fun _ _ _ _ _ => (g_tp rfl (g_cons (g_nm sc.nd rfl (by first | exact Or.inl rfl | exact Or.inr rfl)) (g_cons (g_nm sc.nd rfl (by first | exact Or.inl rfl | exact Or.inr rfl)) g_nil)))) (fun _ _ _ _ _ => c_one (a_tcmp (op_eqA r.u) eq_snd (a_ix (ix_any r.u) ix_snd (a_var 3 rfl) a_int) (a_var 1 rfl))) (fun _ _ _ _ _ => (a_var 2 rfl)))))
theorem w_numbers_of (T : Tops K mg w) {a : Addr} {fd : FuncData} (F : Fun K "numbers_of" "numbers_of" (top 22) a fd) (hm : mg "numbers_of" = some (.ref a)) : DefOk P w K mg base "numbers_of" ["history", "key"] 1 m_numbers_of :=
  ⟨⟨a, fd, hm, F.kp, F.binds fun _ _ _ _ _ _ us hl => (match us, hl with | [_, _], _ => rfl), kwB_of F fun _ _ _ _ _ _ us hl => (match us, hl with | [_, _], _ => rfl), fg_numbers_of T F⟩, len_runF⟩
theorem sc_has_counted : FnScope ["record"] ["record"] (defScope (top 20)) := ⟨rfl, rfl, rfl, by decide +kernel, rfl, by decide +kernel, by decide +kernel⟩
theorem fg_has_counted (T : Tops K mg w) {a : Addr} {fd : FuncData} (F : Fun K "has_counted" "has_counted" (top 20) a fd) : FnG P w K mg base CX0 1 a fd ["record"] m_has_counted := by
  refine FnG.ofN F sc_has_counted 1 0 rfl rfl ?_
  intro cd A up s0 H Ex hg hr
  have sc := sc_has_counted
  have r : Rm _ 0 := ⟨hg, hr⟩
  exact (s_one (s_ret (a_andV (a_cmp op_isnA isn_snd (a_ix (ix_any r.u) ix_snd (a_var 0 rfl) a_int) a_non) (a_one (a_cmp (op_neA r.u) ne_snd (a_ix (ix_any r.u) ix_snd (a_var 0 rfl) a_int) (a_glob T.c_AGAIN))))))
theorem w_has_counted (T : Tops K mg w) {a : Addr} {fd : FuncData} (F : Fun K "has_counted" "has_counted" (top 20) a fd) (hm : mg "has_counted" = some (.ref a)) : DefOk P w K mg base "has_counted" ["record"] 1 m_has_counted :=
  ⟨⟨a, fd, hm, F.kp, F.binds fun _ _ _ _ _ _ us hl => (match us, hl with | [_], _ => rfl), kwB_of F fun _ _ _ _ _ _ us hl => (match us, hl with | [_], _ => rfl), fg_has_counted T F⟩, len_runF⟩
theorem sc_may_stand : FnScope ["record"] ["record"] (defScope (top 21)) := ⟨rfl, rfl, rfl, by decide +kernel, rfl, by decide +kernel, by decide +kernel⟩
theorem fg_may_stand (T : Tops K mg w) (d_has_counted : DefOk P w K mg base "has_counted" ["record"] 1 m_has_counted) {a : Addr} {fd : FuncData} (F : Fun K "may_stand" "may_stand" (top 21) a fd) : FnG P w K mg base CX0 2 a fd ["record"] m_may_stand := by
  refine FnG.ofN F sc_may_stand 1 0 rfl rfl ?_
  intro cd A up s0 H Ex hg hr
  have sc := sc_may_stand
  have r : Rm _ 1 := ⟨hg, hr⟩
  exact (s_one (s_ret (a_orV (c_fn d_has_counted r (by first | decide | omega) (a_cons (a_var 0 rfl) a_nil)) (a_one (a_andV (a_cmp op_isA is_snd (a_ix (ix_any r.u) ix_snd (a_var 0 rfl) a_int) a_non) (a_one (a_cmp (op_neA r.u) ne_snd (a_ix (ix_any r.u) ix_snd (a_var 0 rfl) a_int) (a_glob T.c_LOOK))))))))
theorem w_may_stand (T : Tops K mg w) (d_has_counted : DefOk P w K mg base "has_counted" ["record"] 1 m_has_counted) {a : Addr} {fd : FuncData} (F : Fun K "may_stand" "may_stand" (top 21) a fd) (hm : mg "may_stand" = some (.ref a)) : DefOk P w K mg base "may_stand" ["record"] 2 m_may_stand :=
  ⟨⟨a, fd, hm, F.kp, F.binds fun _ _ _ _ _ _ us hl => (match us, hl with | [_], _ => rfl), kwB_of F fun _ _ _ _ _ _ us hl => (match us, hl with | [_], _ => rfl), fg_may_stand T d_has_counted F⟩, len_runF⟩
theorem sc_row_behind : FnScope ["record", "stands", "begin", "end", "key", "sort", "answer"] ["record", "stands"] (defScope (top 25)) := ⟨rfl, rfl, rfl, by decide +kernel, rfl, by decide +kernel, by decide +kernel⟩
theorem fg_row_behind (T : Tops K mg w) {a : Addr} {fd : FuncData} (F : Fun K "row_behind" "row_behind" (top 25) a fd) : FnG P w K mg base CX0 1 a fd ["record", "stands"] m_row_behind := by
  refine FnG.ofN F sc_row_behind 2 5 rfl rfl ?_
  intro cd A up s0 H Ex hg hr
  have sc := sc_row_behind
  have r : Rm _ 0 := ⟨hg, hr⟩
  exact (s_cons (s_tg (a_var 0 rfl) (g_tp rfl (g_cons (g_nm sc.nd rfl (by first | exact Or.inl rfl | exact Or.inr rfl)) (g_cons (g_nm sc.nd rfl (by first | exact Or.inl rfl | exact Or.inr rfl)) (g_cons (g_nm sc.nd rfl (by first | exact Or.inl rfl | exact Or.inr rfl)) (g_cons (g_nm sc.nd rfl (by first | exact Or.inl rfl | exact Or.inr rfl)) (g_cons (g_nm sc.nd rfl (by first | exact Or.inl rfl | exact Or.inr rfl)) g_nil)))))) (offT_of (by rfl)))
    (s_cons (s_if (a_tcmp (op_eqA r.u) eq_snd (a_var 5 rfl) a_str) (s_one (s_ret (a_ifx (a_tcmp (op_eqA r.u) eq_snd (a_var 1 rfl) (a_cmp (op_eqA r.u) eq_snd (a_var 6 rfl) a_str)) (a_var 1 rfl) a_non))) s_nil)
    (s_cons (s_if (a_tcmp (op_inA r.u) in_snd (a_var 6 rfl) (a_tup (a_cons a_str (a_cons a_str a_nil)))) (s_one (s_ret (a_ifx (a_tcmp (op_eqA r.u) eq_snd (a_var 1 rfl) (a_cmp (op_eqA r.u) eq_snd (a_var 5 rfl) a_str)) (a_var 1 rfl) a_non))) s_nil)
    (s_one (s_ret (a_ifx (a_tcmp (op_eqA r.u) eq_snd (a_var 1 rfl) (a_cmp (op_eqA r.u) eq_snd (a_var 5 rfl) a_str)) (a_notV (a_var 1 rfl)) a_non))))))
theorem w_row_behind (T : Tops K mg w) {a : Addr} {fd : FuncData} (F : Fun K "row_behind" "row_behind" (top 25) a fd) (hm : mg "row_behind" = some (.ref a)) : DefOk P w K mg base "row_behind" ["record", "stands"] 1 m_row_behind :=
  ⟨⟨a, fd, hm, F.kp, F.binds fun _ _ _ _ _ _ us hl => (match us, hl with | [_, _], _ => rfl), kwB_of F fun _ _ _ _ _ _ us hl => (match us, hl with | [_, _], _ => rfl), fg_row_behind T F⟩, len_runF⟩
theorem sc_led_to : FnScope ["history", "numbers", "state", "done", "stands", "found", "ends", "number", "record", "end", "behind"] ["history", "numbers", "state"] (defScope (top 26)) := ⟨rfl, rfl, rfl, by decide +kernel, rfl, by decide +kernel, by decide +kernel⟩
theorem fg_led_to (T : Tops K mg w) (d_has_counted : DefOk P w K mg base "has_counted" ["record"] 1 m_has_counted) (d_may_stand : DefOk P w K mg base "may_stand" ["record"] 2 m_may_stand) (d_row_behind : DefOk P w K mg base "row_behind" ["record", "stands"] 1 m_row_behind) {a : Addr} {fd : FuncData} (F : Fun K "led_to" "led_to" (top 26) a fd) : FnG P w K mg base CX0 3 a fd ["history", "numbers", "state"] m_led_to := by
  refine FnG.ofN F sc_led_to 3 8 rfl rfl ?_
  intro cd A up s0 H Ex hg hr
  have sc := sc_led_to
  have r : Rm _ 2 := ⟨hg, hr⟩
  exact (s_cons (s_tg (a_var 2 rfl) (g_tp rfl (g_cons (g_nm sc.nd rfl (by first | exact Or.inl rfl | exact Or.inr rfl)) (g_cons (g_nm sc.nd rfl (by first | exact Or.inl rfl | exact Or.inr rfl)) g_nil))) (offT_of (by rfl)))
    (s_cons (s_set (i := 5) sc.nd rfl (a_lst a_nil))
    (s_cons (s_setLc (own := [("number", 7)]) (vs := [7]) rfl sc.nd rfl (sw_true rfl rfl rfl rfl) (blkOk_by (by rfl)) rfl (okT_of (by rfl)) (i_seq (a_var 1 rfl)) (fun _ _ _ _ _ => (g_nm sc.nd rfl (by first | exact Or.inl rfl | exact Or.inr rfl))) (fun _ _ _ _ _ => c_one (PW.pt (a_andT (a_tcmp (op_niA r.u) ni_snd (a_var 7 rfl) (a_var 3 rfl)) (a_and1 (a_tval (c_fn d_has_counted r (by first | decide | omega) (a_cons (a_ix (ix_any r.u) ix_snd (a_var 0 rfl) (a_var 7 rfl)) a_nil))))))) (fun _ _ _ _ _ => (a_ix (ix_any r.u) ix_snd (a_ix (ix_any r.u) ix_snd (a_var 0 rfl) (a_var 7 rfl)) a_int)))
    (s_cons (s_for PassesOwn.never rfl (i_seq (a_var 1 rfl)) (g_nm sc.nd rfl (by first | exact Or.inl rfl | exact Or.inr rfl)) (s_cons (s_set (i := 8) sc.nd rfl (a_ix (ix_any r.u) ix_snd (a_var 0 rfl) (a_var 7 rfl)))
    (s_one (s_if (PW.pt (a_andT (a_tcmp (op_niA r.u) ni_snd (a_var 7 rfl) (a_var 3 rfl)) (a_andT (a_tval (c_fn d_may_stand r (by first | decide | omega) (a_cons (a_var 8 rfl) a_nil))) (a_and1 (a_tval (a_callB (cr_all rfl) all_snd T.z_all PyProof.Rows.boot_all (a_cons (a_lc (own := [("end", 9)]) (vs := [9]) rfl sc.nd (blkOk_by (by rfl)) rfl (okT_of (by rfl)) (i_seq (a_var 6 rfl)) (fun _ _ _ _ _ => (g_nm sc.nd rfl (by first | exact Or.inl rfl | exact Or.inr rfl))) (fun _ _ _ _ _ => c_yes) (fun _ _ _ _ _ => (a_cmp op_ltA lt_snd (a_ix (ix_any r.u) ix_snd (a_var 8 rfl) a_int) (a_var 9 rfl)))) a_nil))))))) (s_cons (s_set (i := 10) sc.nd rfl (c_fn d_row_behind r (by first | decide | omega) (a_cons (a_var 8 rfl) (a_cons (a_var 4 rfl) a_nil))))
    (s_one (s_if (a_tcmp op_isnA isn_snd (a_var 10 rfl) a_non) (s_one (s_expr (a_mut PySem.F.plainAttrs_list PySem.F.slot_list_append PySem.F.type_list_append mt_append append_snd rfl (a_cons (a_tup (a_cons (a_var 7 rfl) (a_cons (a_tup (a_cons (a_callT call_tuple_of tuple_snd T.z_tuple PyProof.Rows.boot_tuple (a_cons (a_callB (cr_sortedA rfl r.u) sorted_snd T.z_sorted PyProof.Rows.boot_sorted (a_cons (a_lst (a_star (a_var 3 rfl) (a_cons (a_var 7 rfl) a_nil))) a_nil)) a_nil)) (a_cons (a_var 10 rfl) a_nil))) a_nil))) a_nil)))) s_nil))) s_nil))) (offT_of (by rfl)))
    (s_one (s_ret (a_var 5 rfl)))))))
theorem w_led_to (T : Tops K mg w) (d_has_counted : DefOk P w K mg base "has_counted" ["record"] 1 m_has_counted) (d_may_stand : DefOk P w K mg base "may_stand" ["record"] 2 m_may_stand) (d_row_behind : DefOk P w K mg base "row_behind" ["record", "stands"] 1 m_row_behind) {a : Addr} {fd : FuncData} (F : Fun K "led_to" "led_to" (top 26) a fd) (hm : mg "led_to" = some (.ref a)) : DefOk P w K mg base "led_to" ["history", "numbers", "state"] 3 m_led_to :=
  ⟨⟨a, fd, hm, F.kp, F.binds fun _ _ _ _ _ _ us hl => (match us, hl with | [_, _, _], _ => rfl), kwB_of F fun _ _ _ _ _ _ us hl => (match us, hl with | [_, _, _], _ => rfl), fg_led_to T d_has_counted d_may_stand d_row_behind F⟩, len_runF⟩
theorem sc_ways_from : FnScope ["history", "numbers", "state", "found", "waiting", "here", "so_far", "number", "behind"] ["history", "numbers", "state"] (defScope (top 27)) := ⟨rfl, rfl, rfl, by decide +kernel, rfl, by decide +kernel, by decide +kernel⟩
theorem fg_ways_from (T : Tops K mg w) (d_led_to : DefOk P w K mg base "led_to" ["history", "numbers", "state"] 3 m_led_to) {a : Addr} {fd : FuncData} (F : Fun K "ways_from" "ways_from" (top 27) a fd) : FnG P w K mg base CX0 4 a fd ["history", "numbers", "state"] m_ways_from := by
  refine FnG.ofN F sc_ways_from 3 6 rfl rfl ?_
  intro cd A up s0 H Ex hg hr
  have sc := sc_ways_from
  have r : Rm _ 3 := ⟨hg, hr⟩
  exact (s_cons (s_par2 (i := 3) (j := 4) rfl sc.nd rfl rfl (a_cons (a_dictN1 r.u (a_var 2 rfl) (a_tup a_nil)) (a_cons (a_lst (a_cons (a_var 2 rfl) a_nil)) a_nil)) (by rfl))
    (s_cons (s_while 100000 PassesOwn.never (a_tcmp (op_neA r.u) ne_snd (a_var 4 rfl) (a_lst a_nil)) (s_cons (s_set (i := 5) sc.nd rfl (a_mut0 PySem.F.plainAttrs_list PySem.F.slot_list_pop PySem.F.type_list_pop mt_pop pop_snd rfl))
    (s_cons (s_set (i := 6) sc.nd rfl (a_ix (ix_any r.u) ix_snd (a_var 3 rfl) (a_var 5 rfl)))
    (s_one (s_for PassesOwn.never rfl (i_seq (c_fn d_led_to r (by first | decide | omega) (a_cons (a_var 0 rfl) (a_cons (a_var 1 rfl) (a_cons (a_var 5 rfl) a_nil))))) (g_tp rfl (g_cons (g_nm sc.nd rfl (by first | exact Or.inl rfl | exact Or.inr rfl)) (g_cons (g_nm sc.nd rfl (by first | exact Or.inl rfl | exact Or.inr rfl)) g_nil))) (s_one (s_if (a_tcmp (op_niA r.u) ni_snd (a_var 8 rfl) (a_var 3 rfl)) (s_cons (s_put (i := 3) r.u rfl (a_var 8 rfl) (a_tup (a_star (a_var 6 rfl) (a_cons (a_var 7 rfl) a_nil))))
    (s_one (s_expr (a_mut PySem.F.plainAttrs_list PySem.F.slot_list_append PySem.F.type_list_append mt_append append_snd rfl (a_cons (a_var 8 rfl) a_nil))))) s_nil)) (offT_of (by rfl)))))))
    (s_one (s_ret (a_var 3 rfl)))))
theorem w_ways_from (T : Tops K mg w) (d_led_to : DefOk P w K mg base "led_to" ["history", "numbers", "state"] 3 m_led_to) {a : Addr} {fd : FuncData} (F : Fun K "ways_from" "ways_from" (top 27) a fd) (hm : mg "ways_from" = some (.ref a)) : DefOk P w K mg base "ways_from" ["history", "numbers", "state"] 4 m_ways_from :=
  ⟨⟨a, fd, hm, F.kp, F.binds fun _ _ _ _ _ _ us hl => (match us, hl with | [_, _, _], _ => rfl), kwB_of F fun _ _ _ _ _ _ us hl => (match us, hl with | [_, _, _], _ => rfl), fg_ways_from T d_led_to F⟩, len_runF⟩
theorem sc_is_whole : FnScope ["history", "numbers", "done", "number"] ["history", "numbers", "done"] (defScope (top 28)) := ⟨rfl, rfl, rfl, by decide +kernel, rfl, by decide +kernel, by decide +kernel⟩
theorem fg_is_whole (T : Tops K mg w) (d_has_counted : DefOk P w K mg base "has_counted" ["record"] 1 m_has_counted) {a : Addr} {fd : FuncData} (F : Fun K "is_whole" "is_whole" (top 28) a fd) : FnG P w K mg base CX0 2 a fd ["history", "numbers", "done"] m_is_whole := by
  refine FnG.ofN F sc_is_whole 3 1 rfl rfl ?_
  intro cd A up s0 H Ex hg hr
  have sc := sc_is_whole
  have r : Rm _ 1 := ⟨hg, hr⟩
  exact (s_one (s_ret (a_callB (cr_all rfl) all_snd T.z_all PyProof.Rows.boot_all (a_cons (a_lc (own := [("number", 3)]) (vs := [3]) rfl sc.nd (blkOk_by (by rfl)) rfl (okT_of (by rfl)) (i_seq (a_var 1 rfl)) (fun _ _ _ _ _ => (g_nm sc.nd rfl (by first | exact Or.inl rfl | exact Or.inr rfl))) (fun _ _ _ _ _ => c_one (a_tval (c_fn d_has_counted r (by first | decide | omega) (a_cons (a_ix (ix_any r.u) ix_snd (a_var 0 rfl) (a_var 3 rfl)) a_nil)))) (fun _ _ _ _ _ => (a_cmp (op_inA r.u) in_snd (a_var 3 rfl) (a_var 2 rfl)))) a_nil))))
theorem w_is_whole (T : Tops K mg w) (d_has_counted : DefOk P w K mg base "has_counted" ["record"] 1 m_has_counted) {a : Addr} {fd : FuncData} (F : Fun K "is_whole" "is_whole" (top 28) a fd) (hm : mg "is_whole" = some (.ref a)) : DefOk P w K mg base "is_whole" ["history", "numbers", "done"] 2 m_is_whole :=
  ⟨⟨a, fd, hm, F.kp, F.binds fun _ _ _ _ _ _ us hl => (match us, hl with | [_, _, _], _ => rfl), kwB_of F fun _ _ _ _ _ _ us hl => (match us, hl with | [_, _, _], _ => rfl), fg_is_whole T d_has_counted F⟩, len_runF⟩
theorem sc_closed : FnScope ["history", "key", "numbers", "found", "done", "stands"] ["history", "key"] (defScope (top 29)) := ⟨rfl, rfl, rfl, by decide +kernel, rfl, by decide +kernel, by decide +kernel⟩
theorem fg_closed (T : Tops K mg w) (d_check_history : DefOk P w K mg base "check_history" ["value"] 4 m_check_history) (d_check_key : DefOk P w K mg base "check_key" ["value"] 2 m_check_key) (d_numbers_of : DefOk P w K mg base "numbers_of" ["history", "key"] 1 m_numbers_of) (d_ways_from : DefOk P w K mg base "ways_from" ["history", "numbers", "state"] 4 m_ways_from) (d_is_whole : DefOk P w K mg base "is_whole" ["history", "numbers", "done"] 2 m_is_whole) {a : Addr} {fd : FuncData} (F : Fun K "closed" "closed" (top 29) a fd) : FnG P w K mg base CX0 5 a fd ["history", "key"] m_closed := by
  refine FnG.ofN F sc_closed 2 4 rfl rfl ?_
  intro cd A up s0 H Ex hg hr
  have sc := sc_closed
  have r : Rm _ 4 := ⟨hg, hr⟩
  exact (s_cons (s_expr (c_fn d_check_history r (by first | decide | omega) (a_cons (a_var 0 rfl) a_nil)))
    (s_cons (s_expr (c_fn d_check_key r (by first | decide | omega) (a_cons (a_var 1 rfl) a_nil)))
    (s_cons (s_set (i := 2) sc.nd rfl (c_fn d_numbers_of r (by first | decide | omega) (a_cons (a_var 0 rfl) (a_cons (a_var 1 rfl) a_nil))))
    (s_cons (s_set (i := 3) sc.nd rfl (c_fn d_ways_from r (by first | decide | omega) (a_cons (a_var 0 rfl) (a_cons (a_var 2 rfl) (a_cons (a_glob T.c_BEGIN) a_nil)))))
    (s_cons (s_if (a_tval (a_callB (cr_any rfl) any_snd T.z_any PyProof.Rows.boot_any (a_cons (a_lc (own := [("done", 4), ("stands", 5)]) (vs := [4, 5]) rfl sc.nd (blkOk_by (by rfl)) rfl (okT_of (by rfl)) (i_seq (a_var 3 rfl)) (fun _ _ _ _ _ => (g_tp rfl (g_cons (g_nm sc.nd rfl (by first | exact Or.inl rfl | exact Or.inr rfl)) (g_cons (g_nm sc.nd rfl (by first | exact Or.inl rfl | exact Or.inr rfl)) g_nil)))) (fun _ _ _ _ _ => c_yes) (fun _ _ _ _ _ => (c_fn d_is_whole r (by first | decide | omega) (a_cons (a_var 0 rfl) (a_cons (a_var 2 rfl) (a_cons (a_var 4 rfl) a_nil)))))) a_nil))) (s_one (s_ret a_non)) s_nil)
    (s_one (s_ret (a_callT call_tuple_of tuple_snd T.z_tuple PyProof.Rows.boot_tuple (a_cons (a_callB (cr_sortedA rfl r.u) sorted_snd T.z_sorted PyProof.Rows.boot_sorted (a_cons (a_var 3 rfl) a_nil)) a_nil)))))))))
theorem w_closed (T : Tops K mg w) (d_check_history : DefOk P w K mg base "check_history" ["value"] 4 m_check_history) (d_check_key : DefOk P w K mg base "check_key" ["value"] 2 m_check_key) (d_numbers_of : DefOk P w K mg base "numbers_of" ["history", "key"] 1 m_numbers_of) (d_ways_from : DefOk P w K mg base "ways_from" ["history", "numbers", "state"] 4 m_ways_from) (d_is_whole : DefOk P w K mg base "is_whole" ["history", "numbers", "done"] 2 m_is_whole) {a : Addr} {fd : FuncData} (F : Fun K "closed" "closed" (top 29) a fd) (hm : mg "closed" = some (.ref a)) : DefOk P w K mg base "closed" ["history", "key"] 5 m_closed :=
  ⟨⟨a, fd, hm, F.kp, F.binds fun _ _ _ _ _ _ us hl => (match us, hl with | [_, _], _ => rfl), kwB_of F fun _ _ _ _ _ _ us hl => (match us, hl with | [_, _], _ => rfl), fg_closed T d_check_history d_check_key d_numbers_of d_ways_from d_is_whole F⟩, len_runF⟩
theorem k_closed_key_history (T : Tops K mg w) (d_check_history : DefOk P w K mg base "check_history" ["value"] 4 m_check_history) (d_check_key : DefOk P w K mg base "check_key" ["value"] 2 m_check_key) (d_numbers_of : DefOk P w K mg base "numbers_of" ["history", "key"] 1 m_numbers_of) (d_ways_from : DefOk P w K mg base "ways_from" ["history", "numbers", "state"] 4 m_ways_from) (d_is_whole : DefOk P w K mg base "is_whole" ["history", "numbers", "done"] 2 m_is_whole) {a : Addr} {fd : FuncData} (F : Fun K "closed" "closed" (top 29) a fd) (hm : mg "closed" = some (.ref a)) : DefKw P w K mg base "closed" ["history", "key"] ["key", "history"] [1, 0] 5 m_closed :=
  ⟨⟨a, fd, hm, F.kp, kwP_of F fun _ _ _ _ _ _ us hl => (match us, hl with | [_, _], _ => rfl), fg_closed T d_check_history d_check_key d_numbers_of d_ways_from d_is_whole F⟩, len_runF⟩
theorem sc__law_right : FnScope ["_law_jar_here", "_law_names_here", "_law_book", "_law_sign", "_law_numbers", "_law_states_here", "_law_due", "_law_here"] ["_law_jar_here"] (defScope (top 47)) := ⟨rfl, rfl, rfl, by decide +kernel, rfl, by decide +kernel, by decide +kernel⟩
theorem fg__law_right (T : Tops K mg w) (d__law_names : DefOk P w K mg base "_law_names" ["_law_jar_here", "_law_many"] 3 m__law_names) (d__law_wild : DefOk P w K mg base "_law_wild" ["_law_jar_here", "_law_keys", "_law_many"] 4 m__law_wild) (d__law_take : DefOk P w K mg base "_law_take" ["_law_jar_here", "_law_many"] 1 m__law_take) (d__law_keyed : DefOk P w K mg base "_law_keyed" ["_law_book", "_law_sign"] 1 m__law_keyed) (d__law_states : DefOk P w K mg base "_law_states" ["_law_book", "_law_numbers"] 4 m__law_states) (d__law_is_full : DefOk P w K mg base "_law_is_full" ["_law_book", "_law_numbers", "_law_done"] 2 m__law_is_full) (d_closed : DefOk P w K mg base "closed" ["history", "key"] 5 m_closed) (k_closed_key_history : DefKw P w K mg base "closed" ["history", "key"] ["key", "history"] [1, 0] 5 m_closed) {a : Addr} {fd : FuncData} (F : Fun K "_law_right" "_law_right" (top 47) a fd) : FnG P w K mg base CX0 6 a fd ["_law_jar_here"] m__law_right := by
  refine FnG.ofN F sc__law_right 1 7 rfl rfl ?_
  intro cd A up s0 H Ex hg hr
  have sc := sc__law_right
  have r : Rm _ 5 := ⟨hg, hr⟩
  exact (s_cons (s_set (i := 1) sc.nd rfl (c_fn d__law_names r (by first | decide | omega) (a_cons (a_var 0 rfl) (a_cons a_int a_nil))))
    (s_cons (s_set (i := 2) sc.nd rfl (c_fn d__law_wild r (by first | decide | omega) (a_cons (a_var 0 rfl) (a_cons (a_slice (a_var 1 rfl) a_partN (a_part (a_bin op_addA add_snd a_int (c_fn d__law_take r (by first | decide | omega) (a_cons (a_var 0 rfl) (a_cons a_int a_nil)))))) (a_cons (a_bin op_addA add_snd a_int (c_fn d__law_take r (by first | decide | omega) (a_cons (a_var 0 rfl) (a_cons a_int a_nil)))) a_nil)))))
    (s_cons (s_for PassesOwn.never rfl (i_seq (a_var 1 rfl)) (g_nm sc.nd rfl (by first | exact Or.inl rfl | exact Or.inr rfl)) (s_cons (s_set (i := 4) sc.nd rfl (c_fn d__law_keyed r (by first | decide | omega) (a_cons (a_var 2 rfl) (a_cons (a_var 3 rfl) a_nil))))
    (s_cons (s_set (i := 5) sc.nd rfl (c_fn d__law_states r (by first | decide | omega) (a_cons (a_var 2 rfl) (a_cons (a_var 4 rfl) a_nil))))
    (s_cons (s_set (i := 6) sc.nd rfl (a_callT call_tuple_of tuple_snd T.z_tuple PyProof.Rows.boot_tuple (a_cons (a_callB (cr_sortedA rfl r.u) sorted_snd T.z_sorted PyProof.Rows.boot_sorted (a_cons (a_callT (call_listA rfl) listA_snd T.z_list PyProof.Rows.boot_list (a_cons (a_var 5 rfl) a_nil)) a_nil)) a_nil)))
    (s_cons (s_if (a_tval (a_callB (cr_any rfl) any_snd T.z_any PyProof.Rows.boot_any (a_cons (a_lc (own := [("_law_here", 7)]) (vs := [7]) rfl sc.nd (blkOk_by (by rfl)) rfl (okT_of (by rfl)) (i_seq (a_var 5 rfl)) (fun _ _ _ _ _ => (g_nm sc.nd rfl (by first | exact Or.inl rfl | exact Or.inr rfl))) (fun _ _ _ _ _ => c_yes) (fun _ _ _ _ _ => (c_fn d__law_is_full r (by first | decide | omega) (a_cons (a_var 2 rfl) (a_cons (a_var 4 rfl) (a_cons (a_ix (ix_any r.u) ix_snd (a_var 7 rfl) a_int) a_nil)))))) a_nil))) (s_one (s_set (i := 6) sc.nd rfl a_non)) s_nil)
    (s_one (s_if (PW.pt (a_orT (a_tcmp (op_neA r.u) ne_snd (a_callB (call_reprA r.g r.u r.u65) repr_snd T.z_repr PyProof.Rows.boot_repr (a_cons (c_fn d_closed r (by first | decide | omega) (a_cons (a_var 2 rfl) (a_cons (a_var 3 rfl) a_nil))) a_nil)) (a_callB (call_reprA r.g r.u r.u65) repr_snd T.z_repr PyProof.Rows.boot_repr (a_cons (a_var 6 rfl) a_nil))) (a_or1 (a_tcmp (op_neA r.u) ne_snd (a_callB (call_reprA r.g r.u r.u65) repr_snd T.z_repr PyProof.Rows.boot_repr (a_cons (c_fnP k_closed_key_history r (by first | decide | omega) (k_cons (a_var 3 rfl) (k_cons (a_var 2 rfl) k_nil))) a_nil)) (a_callB (call_reprA r.g r.u r.u65) repr_snd T.z_repr PyProof.Rows.boot_repr (a_cons (a_var 6 rfl) a_nil)))))) (s_one (s_ret a_bl)) s_nil)))))) (offT_of (by rfl)))
    (s_one (s_ret (a_cmp op_isA is_snd (c_fn d_closed r (by first | decide | omega) (a_cons (a_tup a_nil) (a_cons (a_ix (ix_any r.u) ix_snd (a_var 1 rfl) a_int) a_nil))) a_non))))))
theorem w__law_right (T : Tops K mg w) (d__law_names : DefOk P w K mg base "_law_names" ["_law_jar_here", "_law_many"] 3 m__law_names) (d__law_wild : DefOk P w K mg base "_law_wild" ["_law_jar_here", "_law_keys", "_law_many"] 4 m__law_wild) (d__law_take : DefOk P w K mg base "_law_take" ["_law_jar_here", "_law_many"] 1 m__law_take) (d__law_keyed : DefOk P w K mg base "_law_keyed" ["_law_book", "_law_sign"] 1 m__law_keyed) (d__law_states : DefOk P w K mg base "_law_states" ["_law_book", "_law_numbers"] 4 m__law_states) (d__law_is_full : DefOk P w K mg base "_law_is_full" ["_law_book", "_law_numbers", "_law_done"] 2 m__law_is_full) (d_closed : DefOk P w K mg base "closed" ["history", "key"] 5 m_closed) (k_closed_key_history : DefKw P w K mg base "closed" ["history", "key"] ["key", "history"] [1, 0] 5 m_closed) {a : Addr} {fd : FuncData} (F : Fun K "_law_right" "_law_right" (top 47) a fd) (hm : mg "_law_right" = some (.ref a)) : DefOk P w K mg base "_law_right" ["_law_jar_here"] 6 m__law_right :=
  ⟨⟨a, fd, hm, F.kp, F.binds fun _ _ _ _ _ _ us hl => (match us, hl with | [_], _ => rfl), kwB_of F fun _ _ _ _ _ _ us hl => (match us, hl with | [_], _ => rfl), fg__law_right T d__law_names d__law_wild d__law_take d__law_keyed d__law_states d__law_is_full d_closed k_closed_key_history F⟩, len_runF⟩
theorem sc_law : FnScope ["_law_script", "_law_k", "_law_jar_here", "_law_turn"] ["_law_script"] (defScope (top 48)) := ⟨rfl, rfl, rfl, by decide +kernel, rfl, by decide +kernel, by decide +kernel⟩
theorem fg_law (T : Tops K mg w) (d__law_jar : DefOk P w K mg base "_law_jar" ["_law_script", "_law_k"] 1 m__law_jar) (d__law_right : DefOk P w K mg base "_law_right" ["_law_jar_here"] 6 m__law_right) {a : Addr} {fd : FuncData} (F : Fun K "law" "law" (top 48) a fd) : FnG P w K mg base CX0 7 a fd ["_law_script"] m_law := by
  refine FnG.ofN F sc_law 1 3 rfl rfl ?_
  intro cd A up s0 H Ex hg hr
  have sc := sc_law
  have r : Rm _ 6 := ⟨hg, hr⟩
  exact (s_cons (s_for PassesOwn.never rfl (i_rng1 rfl T.z_range (a_cons (a_callB (call_maxA rfl) maxA_snd T.z_max PyProof.Rows.boot_max (a_cons a_int (a_cons (a_callB (call_minA rfl) minA_snd T.z_min PyProof.Rows.boot_min (a_cons a_int (a_cons (a_callB call_lenA len_snd T.z_len PySem.boot_len (a_cons (a_var 0 rfl) a_nil)) a_nil))) a_nil))) a_nil)) (g_nm sc.nd rfl (by first | exact Or.inl rfl | exact Or.inr rfl)) (s_cons (s_set (i := 2) sc.nd rfl (c_fn d__law_jar r (by first | decide | omega) (a_cons (a_var 0 rfl) (a_cons (a_var 1 rfl) a_nil))))
    (s_one (s_if (a_notT (a_tval (a_callB (cr_all rfl) all_snd T.z_all PyProof.Rows.boot_all (a_cons (a_lc (own := [("_law_turn", 3)]) (vs := [3]) rfl sc.nd (blkOk_by (by rfl)) rfl (okT_of (by rfl)) (i_rng1 rfl T.z_range (a_cons a_int a_nil)) (fun _ _ _ _ _ => (g_nm sc.nd rfl (by first | exact Or.inl rfl | exact Or.inr rfl))) (fun _ _ _ _ _ => c_yes) (fun _ _ _ _ _ => (c_fn d__law_right r (by first | decide | omega) (a_cons (a_var 2 rfl) a_nil)))) a_nil)))) (s_one (s_ret a_bl)) s_nil))) (offT_of (by rfl)))
    (s_one (s_ret a_bl)))
theorem w_law (T : Tops K mg w) (d__law_jar : DefOk P w K mg base "_law_jar" ["_law_script", "_law_k"] 1 m__law_jar) (d__law_right : DefOk P w K mg base "_law_right" ["_law_jar_here"] 6 m__law_right) {a : Addr} {fd : FuncData} (F : Fun K "law" "law" (top 48) a fd) (hm : mg "law" = some (.ref a)) : DefOk P w K mg base "law" ["_law_script"] 7 m_law :=
  ⟨⟨a, fd, hm, F.kp, F.binds fun _ _ _ _ _ _ us hl => (match us, hl with | [_], _ => rfl), kwB_of F fun _ _ _ _ _ _ us hl => (match us, hl with | [_], _ => rfl), fg_law T d__law_jar d__law_right F⟩, len_runF⟩
end
theorem all_mk {l : PySem.W.OpenLaw} {w : World} {K : PySem.W.Frag} {h : Heap} {mg : Str → Option Value} {fa : Addr} (X : K.In h) (G : h.Ns mainGlobals mg) (hfa : mg "law" = some (.ref fa))
    {t_AGAIN : Tok}
    (n_AGAIN : PySem.W.nsIn K mainGlobals "AGAIN" = some (some (.str "again" t_AGAIN)))
    {tk_ANSWERS_0 : Tok} {hh_ANSWERS_0 : Int}
    {t_ANSWERS_0_0 : Tok}
    {t_ANSWERS_0_1 : Tok}
    {t_ANSWERS_0_2 : Tok}
    {a_ANSWERS_0 : Addr} {od_ANSWERS_0 : Option Addr} {k_ANSWERS_0 : Nat} {sl_ANSWERS_0 : Array (Option Value)}
    (l_ANSWERS_0 : K.lookup a_ANSWERS_0 = some ⟨.type "tuple", od_ANSWERS_0, .seq #[(.str "done" t_ANSWERS_0_0), (.str "refused" t_ANSWERS_0_1), (.str "again" t_ANSWERS_0_2)] k_ANSWERS_0, sl_ANSWERS_0⟩)
    {tk_ANSWERS_1 : Tok} {hh_ANSWERS_1 : Int}
    {t_ANSWERS_1_0 : Tok}
    {t_ANSWERS_1_1 : Tok}
    {t_ANSWERS_1_2 : Tok}
    {a_ANSWERS_1 : Addr} {od_ANSWERS_1 : Option Addr} {k_ANSWERS_1 : Nat} {sl_ANSWERS_1 : Array (Option Value)}
    (l_ANSWERS_1 : K.lookup a_ANSWERS_1 = some ⟨.type "tuple", od_ANSWERS_1, .seq #[(.str "done" t_ANSWERS_1_0), (.str "none" t_ANSWERS_1_1), (.str "again" t_ANSWERS_1_2)] k_ANSWERS_1, sl_ANSWERS_1⟩)
    {tk_ANSWERS_2 : Tok} {hh_ANSWERS_2 : Int}
    {t_ANSWERS_2_0 : Tok}
    {t_ANSWERS_2_1 : Tok}
    {t_ANSWERS_2_2 : Tok}
    {a_ANSWERS_2 : Addr} {od_ANSWERS_2 : Option Addr} {k_ANSWERS_2 : Nat} {sl_ANSWERS_2 : Array (Option Value)}
    (l_ANSWERS_2 : K.lookup a_ANSWERS_2 = some ⟨.type "tuple", od_ANSWERS_2, .seq #[(.str "there" t_ANSWERS_2_0), (.str "none" t_ANSWERS_2_1), (.str "again" t_ANSWERS_2_2)] k_ANSWERS_2, sl_ANSWERS_2⟩)
    {a_ANSWERS : Addr} {k_ANSWERS : Nat}
    (l_ANSWERS : K.lookup a_ANSWERS = some ⟨.type "dict", none, .dict (List.toArray [{ key := .str "put" tk_ANSWERS_0, hash := hh_ANSWERS_0, val := (.ref a_ANSWERS_0) }, { key := .str "drop" tk_ANSWERS_1, hash := hh_ANSWERS_1, val := (.ref a_ANSWERS_1) }, { key := .str "look" tk_ANSWERS_2, hash := hh_ANSWERS_2, val := (.ref a_ANSWERS_2) }]) k_ANSWERS, #[]⟩)
    (lit_ANSWERS : PySem.W.KeysLit w.params [{ key := .str "put" tk_ANSWERS_0, hash := hh_ANSWERS_0, val := (.ref a_ANSWERS_0) }, { key := .str "drop" tk_ANSWERS_1, hash := hh_ANSWERS_1, val := (.ref a_ANSWERS_1) }, { key := .str "look" tk_ANSWERS_2, hash := hh_ANSWERS_2, val := (.ref a_ANSWERS_2) }])
    (low_ANSWERS : (a_ANSWERS == sysModules) = false)
    (n_ANSWERS : PySem.W.nsIn K mainGlobals "ANSWERS" = some (some (.ref a_ANSWERS)))
    {a_BEGIN_0 : Addr} {od_BEGIN_0 : Option Addr} {k_BEGIN_0 : Nat} {sl_BEGIN_0 : Array (Option Value)}
    (l_BEGIN_0 : K.lookup a_BEGIN_0 = some ⟨.type "tuple", od_BEGIN_0, .seq #[] k_BEGIN_0, sl_BEGIN_0⟩)
    {a_BEGIN : Addr} {od_BEGIN : Option Addr} {k_BEGIN : Nat} {sl_BEGIN : Array (Option Value)}
    (l_BEGIN : K.lookup a_BEGIN = some ⟨.type "tuple", od_BEGIN, .seq #[(.ref a_BEGIN_0), (.bool false)] k_BEGIN, sl_BEGIN⟩)
    (n_BEGIN : PySem.W.nsIn K mainGlobals "BEGIN" = some (some (.ref a_BEGIN)))
    {t_LETTERS : Tok}
    (n_LETTERS : PySem.W.nsIn K mainGlobals "LETTERS" = some (some (.str "abcdefghijklmnopqrstuvwxyz" t_LETTERS)))
    {t_LONGEST_NAME : Tok}
    (n_LONGEST_NAME : PySem.W.nsIn K mainGlobals "LONGEST_NAME" = some (some (.int 8 t_LONGEST_NAME)))
    {t_LOOK : Tok}
    (n_LOOK : PySem.W.nsIn K mainGlobals "LOOK" = some (some (.str "look" t_LOOK)))
    {t_MOST_OF_A_KEY : Tok}
    (n_MOST_OF_A_KEY : PySem.W.nsIn K mainGlobals "MOST_OF_A_KEY" = some (some (.int 8 t_MOST_OF_A_KEY)))
    {t_MOST_RECORDS : Tok}
    (n_MOST_RECORDS : PySem.W.nsIn K mainGlobals "MOST_RECORDS" = some (some (.int 24 t_MOST_RECORDS)))
    {t_RECORD : Tok}
    (n_RECORD : PySem.W.nsIn K mainGlobals "RECORD" = some (some (.int 5 t_RECORD)))
    (z_abs : PySem.W.nsIn K mainGlobals "abs" = some none)
    (z_all : PySem.W.nsIn K mainGlobals "all" = some none)
    (z_any : PySem.W.nsIn K mainGlobals "any" = some none)
    (z_bool : PySem.W.nsIn K mainGlobals "bool" = some none)
    (z_enumerate : PySem.W.nsIn K mainGlobals "enumerate" = some none)
    (z_int : PySem.W.nsIn K mainGlobals "int" = some none)
    (z_isinstance : PySem.W.nsIn K mainGlobals "isinstance" = some none)
    (z_len : PySem.W.nsIn K mainGlobals "len" = some none)
    (z_list : PySem.W.nsIn K mainGlobals "list" = some none)
    (z_max : PySem.W.nsIn K mainGlobals "max" = some none)
    (z_min : PySem.W.nsIn K mainGlobals "min" = some none)
    (z_range : PySem.W.nsIn K mainGlobals "range" = some none)
    (z_repr : PySem.W.nsIn K mainGlobals "repr" = some none)
    (z_set : PySem.W.nsIn K mainGlobals "set" = some none)
    (z_sorted : PySem.W.nsIn K mainGlobals "sorted" = some none)
    (z_str : PySem.W.nsIn K mainGlobals "str" = some none)
    (z_tuple : PySem.W.nsIn K mainGlobals "tuple" = some none)
    {f__law_jar : Addr} {od__law_jar an__law_jar : Option Addr} {sl__law_jar : Array (Option Value)} {oc__law_jar kV__law_jar dc__law_jar pm__law_jar cd__law_jar ct__law_jar : Value}
    (g__law_jar : PySem.W.nsIn K mainGlobals "_law_jar" = some (some (.ref f__law_jar)))
    (q__law_jar : K.lookup f__law_jar = some ⟨oc__law_jar, od__law_jar, .func (PySem.W.fnOf "_law_jar" "_law_jar" (defArgs (top 31)) (defBody (top 31)) (defScope (top 31)) .none kV__law_jar dc__law_jar pm__law_jar an__law_jar cd__law_jar ct__law_jar), sl__law_jar⟩)
    (r__law_jar : PySem.W.codeIn K cd__law_jar "_law_jar" = true) (s__law_jar : PySem.W.keepIn K (.ref f__law_jar) = true)
    {f__law_take : Addr} {od__law_take an__law_take : Option Addr} {sl__law_take : Array (Option Value)} {oc__law_take kV__law_take dc__law_take pm__law_take cd__law_take ct__law_take : Value}
    (g__law_take : PySem.W.nsIn K mainGlobals "_law_take" = some (some (.ref f__law_take)))
    (q__law_take : K.lookup f__law_take = some ⟨oc__law_take, od__law_take, .func (PySem.W.fnOf "_law_take" "_law_take" (defArgs (top 32)) (defBody (top 32)) (defScope (top 32)) .none kV__law_take dc__law_take pm__law_take an__law_take cd__law_take ct__law_take), sl__law_take⟩)
    (r__law_take : PySem.W.codeIn K cd__law_take "_law_take" = true) (s__law_take : PySem.W.keepIn K (.ref f__law_take) = true)
    {f__law_of : Addr} {od__law_of an__law_of : Option Addr} {sl__law_of : Array (Option Value)} {oc__law_of kV__law_of dc__law_of pm__law_of cd__law_of ct__law_of : Value}
    (g__law_of : PySem.W.nsIn K mainGlobals "_law_of" = some (some (.ref f__law_of)))
    (q__law_of : K.lookup f__law_of = some ⟨oc__law_of, od__law_of, .func (PySem.W.fnOf "_law_of" "_law_of" (defArgs (top 33)) (defBody (top 33)) (defScope (top 33)) .none kV__law_of dc__law_of pm__law_of an__law_of cd__law_of ct__law_of), sl__law_of⟩)
    (r__law_of : PySem.W.codeIn K cd__law_of "_law_of" = true) (s__law_of : PySem.W.keepIn K (.ref f__law_of) = true)
    {f__law_names : Addr} {od__law_names an__law_names : Option Addr} {sl__law_names : Array (Option Value)} {oc__law_names kV__law_names dc__law_names pm__law_names cd__law_names ct__law_names : Value}
    (g__law_names : PySem.W.nsIn K mainGlobals "_law_names" = some (some (.ref f__law_names)))
    (q__law_names : K.lookup f__law_names = some ⟨oc__law_names, od__law_names, .func (PySem.W.fnOf "_law_names" "_law_names" (defArgs (top 34)) (defBody (top 34)) (defScope (top 34)) .none kV__law_names dc__law_names pm__law_names an__law_names cd__law_names ct__law_names), sl__law_names⟩)
    (r__law_names : PySem.W.codeIn K cd__law_names "_law_names" = true) (s__law_names : PySem.W.keepIn K (.ref f__law_names) = true)
    {f__law_told : Addr} {od__law_told an__law_told : Option Addr} {sl__law_told : Array (Option Value)} {oc__law_told kV__law_told dc__law_told pm__law_told cd__law_told ct__law_told : Value}
    (g__law_told : PySem.W.nsIn K mainGlobals "_law_told" = some (some (.ref f__law_told)))
    (q__law_told : K.lookup f__law_told = some ⟨oc__law_told, od__law_told, .func (PySem.W.fnOf "_law_told" "_law_told" (defArgs (top 39)) (defBody (top 39)) (defScope (top 39)) .none kV__law_told dc__law_told pm__law_told an__law_told cd__law_told ct__law_told), sl__law_told⟩)
    (r__law_told : PySem.W.codeIn K cd__law_told "_law_told" = true) (s__law_told : PySem.W.keepIn K (.ref f__law_told) = true)
    {f__law_answer : Addr} {od__law_answer an__law_answer : Option Addr} {sl__law_answer : Array (Option Value)} {oc__law_answer kV__law_answer dc__law_answer pm__law_answer cd__law_answer ct__law_answer : Value}
    (g__law_answer : PySem.W.nsIn K mainGlobals "_law_answer" = some (some (.ref f__law_answer)))
    (q__law_answer : K.lookup f__law_answer = some ⟨oc__law_answer, od__law_answer, .func (PySem.W.fnOf "_law_answer" "_law_answer" (defArgs (top 36)) (defBody (top 36)) (defScope (top 36)) .none kV__law_answer dc__law_answer pm__law_answer an__law_answer cd__law_answer ct__law_answer), sl__law_answer⟩)
    (r__law_answer : PySem.W.codeIn K cd__law_answer "_law_answer" = true) (s__law_answer : PySem.W.keepIn K (.ref f__law_answer) = true)
    {f__law_behind : Addr} {od__law_behind an__law_behind : Option Addr} {sl__law_behind : Array (Option Value)} {oc__law_behind kV__law_behind dc__law_behind pm__law_behind cd__law_behind ct__law_behind : Value}
    (g__law_behind : PySem.W.nsIn K mainGlobals "_law_behind" = some (some (.ref f__law_behind)))
    (q__law_behind : K.lookup f__law_behind = some ⟨oc__law_behind, od__law_behind, .func (PySem.W.fnOf "_law_behind" "_law_behind" (defArgs (top 37)) (defBody (top 37)) (defScope (top 37)) .none kV__law_behind dc__law_behind pm__law_behind an__law_behind cd__law_behind ct__law_behind), sl__law_behind⟩)
    (r__law_behind : PySem.W.codeIn K cd__law_behind "_law_behind" = true) (s__law_behind : PySem.W.keepIn K (.ref f__law_behind) = true)
    {f__law_story : Addr} {od__law_story an__law_story : Option Addr} {sl__law_story : Array (Option Value)} {oc__law_story kV__law_story dc__law_story pm__law_story cd__law_story ct__law_story : Value}
    (g__law_story : PySem.W.nsIn K mainGlobals "_law_story" = some (some (.ref f__law_story)))
    (q__law_story : K.lookup f__law_story = some ⟨oc__law_story, od__law_story, .func (PySem.W.fnOf "_law_story" "_law_story" (defArgs (top 38)) (defBody (top 38)) (defScope (top 38)) .none kV__law_story dc__law_story pm__law_story an__law_story cd__law_story ct__law_story), sl__law_story⟩)
    (r__law_story : PySem.W.codeIn K cd__law_story "_law_story" = true) (s__law_story : PySem.W.keepIn K (.ref f__law_story) = true)
    {f__law_answers : Addr} {od__law_answers an__law_answers : Option Addr} {sl__law_answers : Array (Option Value)} {oc__law_answers kV__law_answers dc__law_answers pm__law_answers cd__law_answers ct__law_answers : Value}
    (g__law_answers : PySem.W.nsIn K mainGlobals "_law_answers" = some (some (.ref f__law_answers)))
    (q__law_answers : K.lookup f__law_answers = some ⟨oc__law_answers, od__law_answers, .func (PySem.W.fnOf "_law_answers" "_law_answers" (defArgs (top 35)) (defBody (top 35)) (defScope (top 35)) .none kV__law_answers dc__law_answers pm__law_answers an__law_answers cd__law_answers ct__law_answers), sl__law_answers⟩)
    (r__law_answers : PySem.W.codeIn K cd__law_answers "_law_answers" = true) (s__law_answers : PySem.W.keepIn K (.ref f__law_answers) = true)
    {f__law_wild : Addr} {od__law_wild an__law_wild : Option Addr} {sl__law_wild : Array (Option Value)} {oc__law_wild kV__law_wild dc__law_wild pm__law_wild cd__law_wild ct__law_wild : Value}
    (g__law_wild : PySem.W.nsIn K mainGlobals "_law_wild" = some (some (.ref f__law_wild)))
    (q__law_wild : K.lookup f__law_wild = some ⟨oc__law_wild, od__law_wild, .func (PySem.W.fnOf "_law_wild" "_law_wild" (defArgs (top 40)) (defBody (top 40)) (defScope (top 40)) .none kV__law_wild dc__law_wild pm__law_wild an__law_wild cd__law_wild ct__law_wild), sl__law_wild⟩)
    (r__law_wild : PySem.W.codeIn K cd__law_wild "_law_wild" = true) (s__law_wild : PySem.W.keepIn K (.ref f__law_wild) = true)
    {f__law_keyed : Addr} {od__law_keyed an__law_keyed : Option Addr} {sl__law_keyed : Array (Option Value)} {oc__law_keyed kV__law_keyed dc__law_keyed pm__law_keyed cd__law_keyed ct__law_keyed : Value}
    (g__law_keyed : PySem.W.nsIn K mainGlobals "_law_keyed" = some (some (.ref f__law_keyed)))
    (q__law_keyed : K.lookup f__law_keyed = some ⟨oc__law_keyed, od__law_keyed, .func (PySem.W.fnOf "_law_keyed" "_law_keyed" (defArgs (top 46)) (defBody (top 46)) (defScope (top 46)) .none kV__law_keyed dc__law_keyed pm__law_keyed an__law_keyed cd__law_keyed ct__law_keyed), sl__law_keyed⟩)
    (r__law_keyed : PySem.W.codeIn K cd__law_keyed "_law_keyed" = true) (s__law_keyed : PySem.W.keepIn K (.ref f__law_keyed) = true)
    {f__law_counts : Addr} {od__law_counts an__law_counts : Option Addr} {sl__law_counts : Array (Option Value)} {oc__law_counts kV__law_counts dc__law_counts pm__law_counts cd__law_counts ct__law_counts : Value}
    (g__law_counts : PySem.W.nsIn K mainGlobals "_law_counts" = some (some (.ref f__law_counts)))
    (q__law_counts : K.lookup f__law_counts = some ⟨oc__law_counts, od__law_counts, .func (PySem.W.fnOf "_law_counts" "_law_counts" (defArgs (top 41)) (defBody (top 41)) (defScope (top 41)) .none kV__law_counts dc__law_counts pm__law_counts an__law_counts cd__law_counts ct__law_counts), sl__law_counts⟩)
    (r__law_counts : PySem.W.codeIn K cd__law_counts "_law_counts" = true) (s__law_counts : PySem.W.keepIn K (.ref f__law_counts) = true)
    {f__law_may : Addr} {od__law_may an__law_may : Option Addr} {sl__law_may : Array (Option Value)} {oc__law_may kV__law_may dc__law_may pm__law_may cd__law_may ct__law_may : Value}
    (g__law_may : PySem.W.nsIn K mainGlobals "_law_may" = some (some (.ref f__law_may)))
    (q__law_may : K.lookup f__law_may = some ⟨oc__law_may, od__law_may, .func (PySem.W.fnOf "_law_may" "_law_may" (defArgs (top 42)) (defBody (top 42)) (defScope (top 42)) .none kV__law_may dc__law_may pm__law_may an__law_may cd__law_may ct__law_may), sl__law_may⟩)
    (r__law_may : PySem.W.codeIn K cd__law_may "_law_may" = true) (s__law_may : PySem.W.keepIn K (.ref f__law_may) = true)
    {f__law_next : Addr} {od__law_next an__law_next : Option Addr} {sl__law_next : Array (Option Value)} {oc__law_next kV__law_next dc__law_next pm__law_next cd__law_next ct__law_next : Value}
    (g__law_next : PySem.W.nsIn K mainGlobals "_law_next" = some (some (.ref f__law_next)))
    (q__law_next : K.lookup f__law_next = some ⟨oc__law_next, od__law_next, .func (PySem.W.fnOf "_law_next" "_law_next" (defArgs (top 43)) (defBody (top 43)) (defScope (top 43)) .none kV__law_next dc__law_next pm__law_next an__law_next cd__law_next ct__law_next), sl__law_next⟩)
    (r__law_next : PySem.W.codeIn K cd__law_next "_law_next" = true) (s__law_next : PySem.W.keepIn K (.ref f__law_next) = true)
    {f__law_states : Addr} {od__law_states an__law_states : Option Addr} {sl__law_states : Array (Option Value)} {oc__law_states kV__law_states dc__law_states pm__law_states cd__law_states ct__law_states : Value}
    (g__law_states : PySem.W.nsIn K mainGlobals "_law_states" = some (some (.ref f__law_states)))
    (q__law_states : K.lookup f__law_states = some ⟨oc__law_states, od__law_states, .func (PySem.W.fnOf "_law_states" "_law_states" (defArgs (top 44)) (defBody (top 44)) (defScope (top 44)) .none kV__law_states dc__law_states pm__law_states an__law_states cd__law_states ct__law_states), sl__law_states⟩)
    (r__law_states : PySem.W.codeIn K cd__law_states "_law_states" = true) (s__law_states : PySem.W.keepIn K (.ref f__law_states) = true)
    {f__law_is_full : Addr} {od__law_is_full an__law_is_full : Option Addr} {sl__law_is_full : Array (Option Value)} {oc__law_is_full kV__law_is_full dc__law_is_full pm__law_is_full cd__law_is_full ct__law_is_full : Value}
    (g__law_is_full : PySem.W.nsIn K mainGlobals "_law_is_full" = some (some (.ref f__law_is_full)))
    (q__law_is_full : K.lookup f__law_is_full = some ⟨oc__law_is_full, od__law_is_full, .func (PySem.W.fnOf "_law_is_full" "_law_is_full" (defArgs (top 45)) (defBody (top 45)) (defScope (top 45)) .none kV__law_is_full dc__law_is_full pm__law_is_full an__law_is_full cd__law_is_full ct__law_is_full), sl__law_is_full⟩)
    (r__law_is_full : PySem.W.codeIn K cd__law_is_full "_law_is_full" = true) (s__law_is_full : PySem.W.keepIn K (.ref f__law_is_full) = true)
    {f_is_name : Addr} {od_is_name an_is_name : Option Addr} {sl_is_name : Array (Option Value)} {oc_is_name kV_is_name dc_is_name pm_is_name cd_is_name ct_is_name : Value}
    (g_is_name : PySem.W.nsIn K mainGlobals "is_name" = some (some (.ref f_is_name)))
    (q_is_name : K.lookup f_is_name = some ⟨oc_is_name, od_is_name, .func (PySem.W.fnOf "is_name" "is_name" (defArgs (top 4)) (defBody (top 4)) (defScope (top 4)) .none kV_is_name dc_is_name pm_is_name an_is_name cd_is_name ct_is_name), sl_is_name⟩)
    (r_is_name : PySem.W.codeIn K cd_is_name "is_name" = true) (s_is_name : PySem.W.keepIn K (.ref f_is_name) = true)
    {f_is_integer : Addr} {od_is_integer an_is_integer : Option Addr} {sl_is_integer : Array (Option Value)} {oc_is_integer kV_is_integer dc_is_integer pm_is_integer cd_is_integer ct_is_integer : Value}
    (g_is_integer : PySem.W.nsIn K mainGlobals "is_integer" = some (some (.ref f_is_integer)))
    (q_is_integer : K.lookup f_is_integer = some ⟨oc_is_integer, od_is_integer, .func (PySem.W.fnOf "is_integer" "is_integer" (defArgs (top 3)) (defBody (top 3)) (defScope (top 3)) .none kV_is_integer dc_is_integer pm_is_integer an_is_integer cd_is_integer ct_is_integer), sl_is_integer⟩)
    (r_is_integer : PySem.W.codeIn K cd_is_integer "is_integer" = true) (s_is_integer : PySem.W.keepIn K (.ref f_is_integer) = true)
    {f_is_record : Addr} {od_is_record an_is_record : Option Addr} {sl_is_record : Array (Option Value)} {oc_is_record kV_is_record dc_is_record pm_is_record cd_is_record ct_is_record : Value}
    (g_is_record : PySem.W.nsIn K mainGlobals "is_record" = some (some (.ref f_is_record)))
    (q_is_record : K.lookup f_is_record = some ⟨oc_is_record, od_is_record, .func (PySem.W.fnOf "is_record" "is_record" (defArgs (top 16)) (defBody (top 16)) (defScope (top 16)) .none kV_is_record dc_is_record pm_is_record an_is_record cd_is_record ct_is_record), sl_is_record⟩)
    (r_is_record : PySem.W.codeIn K cd_is_record "is_record" = true) (s_is_record : PySem.W.keepIn K (.ref f_is_record) = true)
    {f_is_history : Addr} {od_is_history an_is_history : Option Addr} {sl_is_history : Array (Option Value)} {oc_is_history kV_is_history dc_is_history pm_is_history cd_is_history ct_is_history : Value}
    (g_is_history : PySem.W.nsIn K mainGlobals "is_history" = some (some (.ref f_is_history)))
    (q_is_history : K.lookup f_is_history = some ⟨oc_is_history, od_is_history, .func (PySem.W.fnOf "is_history" "is_history" (defArgs (top 17)) (defBody (top 17)) (defScope (top 17)) .none kV_is_history dc_is_history pm_is_history an_is_history cd_is_history ct_is_history), sl_is_history⟩)
    (r_is_history : PySem.W.codeIn K cd_is_history "is_history" = true) (s_is_history : PySem.W.keepIn K (.ref f_is_history) = true)
    {f_check_history : Addr} {od_check_history an_check_history : Option Addr} {sl_check_history : Array (Option Value)} {oc_check_history kV_check_history dc_check_history pm_check_history cd_check_history ct_check_history : Value}
    (g_check_history : PySem.W.nsIn K mainGlobals "check_history" = some (some (.ref f_check_history)))
    (q_check_history : K.lookup f_check_history = some ⟨oc_check_history, od_check_history, .func (PySem.W.fnOf "check_history" "check_history" (defArgs (top 18)) (defBody (top 18)) (defScope (top 18)) .none kV_check_history dc_check_history pm_check_history an_check_history cd_check_history ct_check_history), sl_check_history⟩)
    (r_check_history : PySem.W.codeIn K cd_check_history "check_history" = true) (s_check_history : PySem.W.keepIn K (.ref f_check_history) = true)
    {f_check_key : Addr} {od_check_key an_check_key : Option Addr} {sl_check_key : Array (Option Value)} {oc_check_key kV_check_key dc_check_key pm_check_key cd_check_key ct_check_key : Value}
    (g_check_key : PySem.W.nsIn K mainGlobals "check_key" = some (some (.ref f_check_key)))
    (q_check_key : K.lookup f_check_key = some ⟨oc_check_key, od_check_key, .func (PySem.W.fnOf "check_key" "check_key" (defArgs (top 19)) (defBody (top 19)) (defScope (top 19)) .none kV_check_key dc_check_key pm_check_key an_check_key cd_check_key ct_check_key), sl_check_key⟩)
    (r_check_key : PySem.W.codeIn K cd_check_key "check_key" = true) (s_check_key : PySem.W.keepIn K (.ref f_check_key) = true)
    {f_numbers_of : Addr} {od_numbers_of an_numbers_of : Option Addr} {sl_numbers_of : Array (Option Value)} {oc_numbers_of kV_numbers_of dc_numbers_of pm_numbers_of cd_numbers_of ct_numbers_of : Value}
    (g_numbers_of : PySem.W.nsIn K mainGlobals "numbers_of" = some (some (.ref f_numbers_of)))
    (q_numbers_of : K.lookup f_numbers_of = some ⟨oc_numbers_of, od_numbers_of, .func (PySem.W.fnOf "numbers_of" "numbers_of" (defArgs (top 22)) (defBody (top 22)) (defScope (top 22)) .none kV_numbers_of dc_numbers_of pm_numbers_of an_numbers_of cd_numbers_of ct_numbers_of), sl_numbers_of⟩)
    (r_numbers_of : PySem.W.codeIn K cd_numbers_of "numbers_of" = true) (s_numbers_of : PySem.W.keepIn K (.ref f_numbers_of) = true)
    {f_has_counted : Addr} {od_has_counted an_has_counted : Option Addr} {sl_has_counted : Array (Option Value)} {oc_has_counted kV_has_counted dc_has_counted pm_has_counted cd_has_counted ct_has_counted : Value}
    (g_has_counted : PySem.W.nsIn K mainGlobals "has_counted" = some (some (.ref f_has_counted)))
    (q_has_counted : K.lookup f_has_counted = some ⟨oc_has_counted, od_has_counted, .func (PySem.W.fnOf "has_counted" "has_counted" (defArgs (top 20)) (defBody (top 20)) (defScope (top 20)) .none kV_has_counted dc_has_counted pm_has_counted an_has_counted cd_has_counted ct_has_counted), sl_has_counted⟩)
    (r_has_counted : PySem.W.codeIn K cd_has_counted "has_counted" = true) (s_has_counted : PySem.W.keepIn K (.ref f_has_counted) = true)
    {f_may_stand : Addr} {od_may_stand an_may_stand : Option Addr} {sl_may_stand : Array (Option Value)} {oc_may_stand kV_may_stand dc_may_stand pm_may_stand cd_may_stand ct_may_stand : Value}
    (g_may_stand : PySem.W.nsIn K mainGlobals "may_stand" = some (some (.ref f_may_stand)))
    (q_may_stand : K.lookup f_may_stand = some ⟨oc_may_stand, od_may_stand, .func (PySem.W.fnOf "may_stand" "may_stand" (defArgs (top 21)) (defBody (top 21)) (defScope (top 21)) .none kV_may_stand dc_may_stand pm_may_stand an_may_stand cd_may_stand ct_may_stand), sl_may_stand⟩)
    (r_may_stand : PySem.W.codeIn K cd_may_stand "may_stand" = true) (s_may_stand : PySem.W.keepIn K (.ref f_may_stand) = true)
    {f_row_behind : Addr} {od_row_behind an_row_behind : Option Addr} {sl_row_behind : Array (Option Value)} {oc_row_behind kV_row_behind dc_row_behind pm_row_behind cd_row_behind ct_row_behind : Value}
    (g_row_behind : PySem.W.nsIn K mainGlobals "row_behind" = some (some (.ref f_row_behind)))
    (q_row_behind : K.lookup f_row_behind = some ⟨oc_row_behind, od_row_behind, .func (PySem.W.fnOf "row_behind" "row_behind" (defArgs (top 25)) (defBody (top 25)) (defScope (top 25)) .none kV_row_behind dc_row_behind pm_row_behind an_row_behind cd_row_behind ct_row_behind), sl_row_behind⟩)
    (r_row_behind : PySem.W.codeIn K cd_row_behind "row_behind" = true) (s_row_behind : PySem.W.keepIn K (.ref f_row_behind) = true)
    {f_led_to : Addr} {od_led_to an_led_to : Option Addr} {sl_led_to : Array (Option Value)} {oc_led_to kV_led_to dc_led_to pm_led_to cd_led_to ct_led_to : Value}
    (g_led_to : PySem.W.nsIn K mainGlobals "led_to" = some (some (.ref f_led_to)))
    (q_led_to : K.lookup f_led_to = some ⟨oc_led_to, od_led_to, .func (PySem.W.fnOf "led_to" "led_to" (defArgs (top 26)) (defBody (top 26)) (defScope (top 26)) .none kV_led_to dc_led_to pm_led_to an_led_to cd_led_to ct_led_to), sl_led_to⟩)
    (r_led_to : PySem.W.codeIn K cd_led_to "led_to" = true) (s_led_to : PySem.W.keepIn K (.ref f_led_to) = true)
    {f_ways_from : Addr} {od_ways_from an_ways_from : Option Addr} {sl_ways_from : Array (Option Value)} {oc_ways_from kV_ways_from dc_ways_from pm_ways_from cd_ways_from ct_ways_from : Value}
    (g_ways_from : PySem.W.nsIn K mainGlobals "ways_from" = some (some (.ref f_ways_from)))
    (q_ways_from : K.lookup f_ways_from = some ⟨oc_ways_from, od_ways_from, .func (PySem.W.fnOf "ways_from" "ways_from" (defArgs (top 27)) (defBody (top 27)) (defScope (top 27)) .none kV_ways_from dc_ways_from pm_ways_from an_ways_from cd_ways_from ct_ways_from), sl_ways_from⟩)
    (r_ways_from : PySem.W.codeIn K cd_ways_from "ways_from" = true) (s_ways_from : PySem.W.keepIn K (.ref f_ways_from) = true)
    {f_is_whole : Addr} {od_is_whole an_is_whole : Option Addr} {sl_is_whole : Array (Option Value)} {oc_is_whole kV_is_whole dc_is_whole pm_is_whole cd_is_whole ct_is_whole : Value}
    (g_is_whole : PySem.W.nsIn K mainGlobals "is_whole" = some (some (.ref f_is_whole)))
    (q_is_whole : K.lookup f_is_whole = some ⟨oc_is_whole, od_is_whole, .func (PySem.W.fnOf "is_whole" "is_whole" (defArgs (top 28)) (defBody (top 28)) (defScope (top 28)) .none kV_is_whole dc_is_whole pm_is_whole an_is_whole cd_is_whole ct_is_whole), sl_is_whole⟩)
    (r_is_whole : PySem.W.codeIn K cd_is_whole "is_whole" = true) (s_is_whole : PySem.W.keepIn K (.ref f_is_whole) = true)
    {f_closed : Addr} {od_closed an_closed : Option Addr} {sl_closed : Array (Option Value)} {oc_closed kV_closed dc_closed pm_closed cd_closed ct_closed : Value}
    (g_closed : PySem.W.nsIn K mainGlobals "closed" = some (some (.ref f_closed)))
    (q_closed : K.lookup f_closed = some ⟨oc_closed, od_closed, .func (PySem.W.fnOf "closed" "closed" (defArgs (top 29)) (defBody (top 29)) (defScope (top 29)) .none kV_closed dc_closed pm_closed an_closed cd_closed ct_closed), sl_closed⟩)
    (r_closed : PySem.W.codeIn K cd_closed "closed" = true) (s_closed : PySem.W.keepIn K (.ref f_closed) = true)
    {f__law_right : Addr} {od__law_right an__law_right : Option Addr} {sl__law_right : Array (Option Value)} {oc__law_right kV__law_right dc__law_right pm__law_right cd__law_right ct__law_right : Value}
    (g__law_right : PySem.W.nsIn K mainGlobals "_law_right" = some (some (.ref f__law_right)))
    (q__law_right : K.lookup f__law_right = some ⟨oc__law_right, od__law_right, .func (PySem.W.fnOf "_law_right" "_law_right" (defArgs (top 47)) (defBody (top 47)) (defScope (top 47)) .none kV__law_right dc__law_right pm__law_right an__law_right cd__law_right ct__law_right), sl__law_right⟩)
    (r__law_right : PySem.W.codeIn K cd__law_right "_law_right" = true) (s__law_right : PySem.W.keepIn K (.ref f__law_right) = true)
    {f_law : Addr} {od_law an_law : Option Addr} {sl_law : Array (Option Value)} {oc_law kV_law dc_law pm_law cd_law ct_law : Value}
    (g_law : PySem.W.nsIn K mainGlobals "law" = some (some (.ref f_law)))
    (q_law : K.lookup f_law = some ⟨oc_law, od_law, .func (PySem.W.fnOf "law" "law" (defArgs (top 48)) (defBody (top 48)) (defScope (top 48)) .none kV_law dc_law pm_law an_law cd_law ct_law), sl_law⟩)
    (r_law : PySem.W.codeIn K cd_law "law" = true) (s_law : PySem.W.keepIn K (.ref f_law) = true)
    : ∃ fd : FuncData, (∀ (s : Shared) (v : Value), BindsTo s fd ⟨[v], []⟩ [("_law_script", v)]) ∧ ∀ base : Heap, K.In base → base.Ns mainGlobals mg → FnG l.prog w K mg base CX0 7 fa fd ["_law_script"] m_law := by
  have T : Tops K mg w := ⟨(PySem.W.mg_none_of X G z_abs), (PySem.W.mg_none_of X G z_all), (PySem.W.mg_none_of X G z_any), (PySem.W.mg_none_of X G z_bool), (PySem.W.mg_none_of X G z_enumerate), (PySem.W.mg_none_of X G z_int), (PySem.W.mg_none_of X G z_isinstance), (PySem.W.mg_none_of X G z_len), (PySem.W.mg_none_of X G z_list), (PySem.W.mg_none_of X G z_max), (PySem.W.mg_none_of X G z_min), (PySem.W.mg_none_of X G z_range), (PySem.W.mg_none_of X G z_repr), (PySem.W.mg_none_of X G z_set), (PySem.W.mg_none_of X G z_sorted), (PySem.W.mg_none_of X G z_str), (PySem.W.mg_none_of X G z_tuple), (gc_of (v := (.str "again")) (PySem.W.mg_of X G n_AGAIN) ⟨_, rfl⟩ (fun G => fz_str _)), (gc_dict (B := ⟨K, mg, w⟩) (es := [{ key := .str "put" tk_ANSWERS_0, hash := hh_ANSWERS_0, val := (.ref a_ANSWERS_0) }, { key := .str "drop" tk_ANSWERS_1, hash := hh_ANSWERS_1, val := (.ref a_ANSWERS_1) }, { key := .str "look" tk_ANSWERS_2, hash := hh_ANSWERS_2, val := (.ref a_ANSWERS_2) }]) (PySem.W.mg_of X G n_ANSWERS) l_ANSWERS lit_ANSWERS low_ANSWERS ⟨⟨_, rfl⟩, ⟨(.ref a_ANSWERS_0), rfl, (fz_ktup (us := [(.str "done"), (.str "refused"), (.str "again")]) (its := [(.str "done" t_ANSWERS_0_0), (.str "refused" t_ANSWERS_0_1), (.str "again" t_ANSWERS_0_2)]) l_ANSWERS_0 rfl rfl (by simp) (.cons ⟨_, rfl⟩ (.cons ⟨_, rfl⟩ (.cons ⟨_, rfl⟩ .nil))) (fun G => (FzL.cons ((fun G => fz_str _) G) (FzL.cons ((fun G => fz_str _) G) (FzL.cons ((fun G => fz_str _) G) FzL.nil)))))⟩, ⟨⟨_, rfl⟩, ⟨(.ref a_ANSWERS_1), rfl, (fz_ktup (us := [(.str "done"), (.str "none"), (.str "again")]) (its := [(.str "done" t_ANSWERS_1_0), (.str "none" t_ANSWERS_1_1), (.str "again" t_ANSWERS_1_2)]) l_ANSWERS_1 rfl rfl (by simp) (.cons ⟨_, rfl⟩ (.cons ⟨_, rfl⟩ (.cons ⟨_, rfl⟩ .nil))) (fun G => (FzL.cons ((fun G => fz_str _) G) (FzL.cons ((fun G => fz_str _) G) (FzL.cons ((fun G => fz_str _) G) FzL.nil)))))⟩, ⟨⟨_, rfl⟩, ⟨(.ref a_ANSWERS_2), rfl, (fz_ktup (us := [(.str "there"), (.str "none"), (.str "again")]) (its := [(.str "there" t_ANSWERS_2_0), (.str "none" t_ANSWERS_2_1), (.str "again" t_ANSWERS_2_2)]) l_ANSWERS_2 rfl rfl (by simp) (.cons ⟨_, rfl⟩ (.cons ⟨_, rfl⟩ (.cons ⟨_, rfl⟩ .nil))) (fun G => (FzL.cons ((fun G => fz_str _) G) (FzL.cons ((fun G => fz_str _) G) (FzL.cons ((fun G => fz_str _) G) FzL.nil)))))⟩, trivial⟩⟩⟩ (by decide)), (gc_of (v := (.ref a_BEGIN)) (PySem.W.mg_of X G n_BEGIN) rfl (fz_ktup (us := [(.ref a_BEGIN_0), (.bl false)]) (its := [(.ref a_BEGIN_0), (.bool false)]) l_BEGIN rfl rfl (by simp) (.cons rfl (.cons rfl .nil)) (fun G => (FzL.cons ((fz_ktup (us := []) (its := []) l_BEGIN_0 rfl rfl (by simp) .nil (fun G => FzL.nil)) G) (FzL.cons ((fun G => fz_bl _) G) FzL.nil))))), (gc_of (v := (.str "abcdefghijklmnopqrstuvwxyz")) (PySem.W.mg_of X G n_LETTERS) ⟨_, rfl⟩ (fun G => fz_str _)), (gc_of (v := (.int (8))) (PySem.W.mg_of X G n_LONGEST_NAME) ⟨_, rfl⟩ (fun G => fz_int _)), (gc_of (v := (.str "look")) (PySem.W.mg_of X G n_LOOK) ⟨_, rfl⟩ (fun G => fz_str _)), (gc_of (v := (.int (8))) (PySem.W.mg_of X G n_MOST_OF_A_KEY) ⟨_, rfl⟩ (fun G => fz_int _)), (gc_of (v := (.int (24))) (PySem.W.mg_of X G n_MOST_RECORDS) ⟨_, rfl⟩ (fun G => fz_int _)), (gc_of (v := (.int (5))) (PySem.W.mg_of X G n_RECORD) ⟨_, rfl⟩ (fun G => fz_int _))⟩
  have e := hfa.symm.trans (PySem.W.mg_of X G g_law)
  cases e
  refine ⟨PySem.W.fnOf "law" "law" (defArgs (top 48)) (defBody (top 48)) (defScope (top 48)) .none kV_law dc_law pm_law an_law cd_law ct_law, fun s v => .of_eq rfl, fun base _ _ => ?_⟩
  have d__law_jar : DefOk l.prog w K mg base "_law_jar" ["_law_script", "_law_k"] 1 m__law_jar := w__law_jar T (fun_mk (st := top 31) q__law_jar r__law_jar s__law_jar) (PySem.W.mg_of X G g__law_jar)
  have d__law_take : DefOk l.prog w K mg base "_law_take" ["_law_jar_here", "_law_many"] 1 m__law_take := w__law_take T (fun_mk (st := top 32) q__law_take r__law_take s__law_take) (PySem.W.mg_of X G g__law_take)
  have d__law_of : DefOk l.prog w K mg base "_law_of" ["_law_jar_here", "_law_some"] 2 m__law_of := w__law_of T d__law_take (fun_mk (st := top 33) q__law_of r__law_of s__law_of) (PySem.W.mg_of X G g__law_of)
  have d__law_names : DefOk l.prog w K mg base "_law_names" ["_law_jar_here", "_law_many"] 3 m__law_names := w__law_names T d__law_of d__law_take (fun_mk (st := top 34) q__law_names r__law_names s__law_names) (PySem.W.mg_of X G g__law_names)
  have d__law_told : DefOk l.prog w K mg base "_law_told" ["_law_deeds"] 1 m__law_told := w__law_told T (fun_mk (st := top 39) q__law_told r__law_told s__law_told) (PySem.W.mg_of X G g__law_told)
  have d__law_answer : DefOk l.prog w K mg base "_law_answer" ["_law_sort", "_law_is_up"] 1 m__law_answer := w__law_answer T (fun_mk (st := top 36) q__law_answer r__law_answer s__law_answer) (PySem.W.mg_of X G g__law_answer)
  have d__law_behind : DefOk l.prog w K mg base "_law_behind" ["_law_sort", "_law_is_up"] 1 m__law_behind := w__law_behind T (fun_mk (st := top 37) q__law_behind r__law_behind s__law_behind) (PySem.W.mg_of X G g__law_behind)
  have d__law_story : DefOk l.prog w K mg base "_law_story" ["_law_jar_here", "_law_keys", "_law_many"] 3 m__law_story := w__law_story T d__law_take d__law_of d__law_answer d__law_behind (fun_mk (st := top 38) q__law_story r__law_story s__law_story) (PySem.W.mg_of X G g__law_story)
  have d__law_answers : DefOk l.prog w K mg base "_law_answers" ["_law_sort"] 1 m__law_answers := w__law_answers T (fun_mk (st := top 35) q__law_answers r__law_answers s__law_answers) (PySem.W.mg_of X G g__law_answers)
  have d__law_wild : DefOk l.prog w K mg base "_law_wild" ["_law_jar_here", "_law_keys", "_law_many"] 4 m__law_wild := w__law_wild T d__law_told d__law_story d__law_of d__law_take d__law_answers (fun_mk (st := top 40) q__law_wild r__law_wild s__law_wild) (PySem.W.mg_of X G g__law_wild)
  have d__law_keyed : DefOk l.prog w K mg base "_law_keyed" ["_law_book", "_law_sign"] 1 m__law_keyed := w__law_keyed T (fun_mk (st := top 46) q__law_keyed r__law_keyed s__law_keyed) (PySem.W.mg_of X G g__law_keyed)
  have d__law_counts : DefOk l.prog w K mg base "_law_counts" ["_law_record"] 1 m__law_counts := w__law_counts T (fun_mk (st := top 41) q__law_counts r__law_counts s__law_counts) (PySem.W.mg_of X G g__law_counts)
  have d__law_may : DefOk l.prog w K mg base "_law_may" ["_law_record"] 2 m__law_may := w__law_may T d__law_counts (fun_mk (st := top 42) q__law_may r__law_may s__law_may) (PySem.W.mg_of X G g__law_may)
  have d__law_next : DefOk l.prog w K mg base "_law_next" ["_law_book", "_law_numbers", "_law_here"] 3 m__law_next := w__law_next T d__law_counts d__law_may d__law_answer d__law_behind (fun_mk (st := top 43) q__law_next r__law_next s__law_next) (PySem.W.mg_of X G g__law_next)
  have d__law_states : DefOk l.prog w K mg base "_law_states" ["_law_book", "_law_numbers"] 4 m__law_states := w__law_states T d__law_next (fun_mk (st := top 44) q__law_states r__law_states s__law_states) (PySem.W.mg_of X G g__law_states)
  have d__law_is_full : DefOk l.prog w K mg base "_law_is_full" ["_law_book", "_law_numbers", "_law_done"] 2 m__law_is_full := w__law_is_full T d__law_counts (fun_mk (st := top 45) q__law_is_full r__law_is_full s__law_is_full) (PySem.W.mg_of X G g__law_is_full)
  have d_is_name : DefOk l.prog w K mg base "is_name" ["value"] 1 m_is_name := w_is_name T (fun_mk (st := top 4) q_is_name r_is_name s_is_name) (PySem.W.mg_of X G g_is_name)
  have d_is_integer : DefOk l.prog w K mg base "is_integer" ["value"] 1 m_is_integer := w_is_integer T (fun_mk (st := top 3) q_is_integer r_is_integer s_is_integer) (PySem.W.mg_of X G g_is_integer)
  have d_is_record : DefOk l.prog w K mg base "is_record" ["value"] 2 m_is_record := w_is_record T d_is_name d_is_integer (fun_mk (st := top 16) q_is_record r_is_record s_is_record) (PySem.W.mg_of X G g_is_record)
  have d_is_history : DefOk l.prog w K mg base "is_history" ["value"] 3 m_is_history := w_is_history T d_is_record (fun_mk (st := top 17) q_is_history r_is_history s_is_history) (PySem.W.mg_of X G g_is_history)
  have d_check_history : DefOk l.prog w K mg base "check_history" ["value"] 4 m_check_history := w_check_history T d_is_history (fun_mk (st := top 18) q_check_history r_check_history s_check_history) (PySem.W.mg_of X G g_check_history)
  have d_check_key : DefOk l.prog w K mg base "check_key" ["value"] 2 m_check_key := w_check_key T d_is_name (fun_mk (st := top 19) q_check_key r_check_key s_check_key) (PySem.W.mg_of X G g_check_key)
  have d_numbers_of : DefOk l.prog w K mg base "numbers_of" ["history", "key"] 1 m_numbers_of := w_numbers_of T (fun_mk (st := top 22) q_numbers_of r_numbers_of s_numbers_of) (PySem.W.mg_of X G g_numbers_of)
  have d_has_counted : DefOk l.prog w K mg base "has_counted" ["record"] 1 m_has_counted := w_has_counted T (fun_mk (st := top 20) q_has_counted r_has_counted s_has_counted) (PySem.W.mg_of X G g_has_counted)
  have d_may_stand : DefOk l.prog w K mg base "may_stand" ["record"] 2 m_may_stand := w_may_stand T d_has_counted (fun_mk (st := top 21) q_may_stand r_may_stand s_may_stand) (PySem.W.mg_of X G g_may_stand)
  have d_row_behind : DefOk l.prog w K mg base "row_behind" ["record", "stands"] 1 m_row_behind := w_row_behind T (fun_mk (st := top 25) q_row_behind r_row_behind s_row_behind) (PySem.W.mg_of X G g_row_behind)
  have d_led_to : DefOk l.prog w K mg base "led_to" ["history", "numbers", "state"] 3 m_led_to := w_led_to T d_has_counted d_may_stand d_row_behind (fun_mk (st := top 26) q_led_to r_led_to s_led_to) (PySem.W.mg_of X G g_led_to)
  have d_ways_from : DefOk l.prog w K mg base "ways_from" ["history", "numbers", "state"] 4 m_ways_from := w_ways_from T d_led_to (fun_mk (st := top 27) q_ways_from r_ways_from s_ways_from) (PySem.W.mg_of X G g_ways_from)
  have d_is_whole : DefOk l.prog w K mg base "is_whole" ["history", "numbers", "done"] 2 m_is_whole := w_is_whole T d_has_counted (fun_mk (st := top 28) q_is_whole r_is_whole s_is_whole) (PySem.W.mg_of X G g_is_whole)
  have d_closed : DefOk l.prog w K mg base "closed" ["history", "key"] 5 m_closed := w_closed T d_check_history d_check_key d_numbers_of d_ways_from d_is_whole (fun_mk (st := top 29) q_closed r_closed s_closed) (PySem.W.mg_of X G g_closed)
  have k_closed_key_history : DefKw l.prog w K mg base "closed" ["history", "key"] ["key", "history"] [1, 0] 5 m_closed := k_closed_key_history T d_check_history d_check_key d_numbers_of d_ways_from d_is_whole (fun_mk (st := top 29) q_closed r_closed s_closed) (PySem.W.mg_of X G g_closed)
  have d__law_right : DefOk l.prog w K mg base "_law_right" ["_law_jar_here"] 6 m__law_right := w__law_right T d__law_names d__law_wild d__law_take d__law_keyed d__law_states d__law_is_full d_closed k_closed_key_history (fun_mk (st := top 47) q__law_right r__law_right s__law_right) (PySem.W.mg_of X G g__law_right)
  exact fg_law T d__law_jar d__law_right (fun_mk (st := top 48) q_law r_law s_law)
end L2.AL.K73
namespace L2.AL
open PySem PySem.Spec PyProof.Rows
/-! ### comprehensions and loops, by what a turn does -/
theorem lcGo_map {α : Type} {t : Tg} {c : List S → Res Bool} {f : List S → Res E} {vs : List Nat} (F g : α → D) (p : α → Bool) {ρ : List S} : ∀ (l : List α) (acc : List D),
    (∀ a ∈ l, ∃ ρ2 v, tset t (F a) ρ = some ρ2 ∧ c ρ2 = .ok (p a) ρ2 ∧ (p a = true → f ρ2 = .ok v ρ2 ∧ keep1 v ρ2 = some (g a, ρ2)) ∧ wipeS ρ2 vs = ρ) → acc.length + l.length ≤ sizeLine →
    lcGo t c f vs (l.map F) acc ρ = .ok (acc ++ (l.filter p).map g) ρ
  | [], acc, _, _ => by simp [lcGo]
  | a :: l, acc, h, hl => by
    obtain ⟨ρ2, v, h1, h2, h3, h4⟩ := h a List.mem_cons_self
    rw [List.length_cons] at hl
    rw [List.map_cons, lcGo, h1]
    simp only [h2, Res.bind_ok]
    cases hp : p a with
    | false =>
      simp only [Bool.false_eq_true, if_false, h4]
      rw [lcGo_map F g p l acc (fun b hb => h b (List.mem_cons_of_mem _ hb)) (by omega), List.filter_cons, hp]
      simp
    | true =>
      obtain ⟨h5, h6⟩ := h3 hp
      simp only [if_true, h5, Res.bind_ok, h6, h4]
      rw [if_pos (by omega), lcGo_map F g p l _ (fun b hb => h b (List.mem_cons_of_mem _ hb)) (by rw [List.length_append, List.length_singleton]; omega), List.filter_cons, hp]
      simp
theorem aLc_map {α : Type} {it : List S → Res (List D)} {t : Tg} {c : List S → Res Bool} {f : List S → Res E} {vs : List Nat} (F g : α → D) (p : α → Bool) (l : List α) {ρ ρ1 : List S} (hit : it ρ = .ok (l.map F) ρ1) (hno : nOwn ρ1 vs = true)
    (h : ∀ a ∈ l, ∃ ρ2 v, tset t (F a) (wipeS ρ1 vs) = some ρ2 ∧ c ρ2 = .ok (p a) ρ2 ∧ (p a = true → f ρ2 = .ok v ρ2 ∧ keep1 v ρ2 = some (g a, ρ2)) ∧ wipeS ρ2 vs = wipeS ρ1 vs) (hl : l.length ≤ sizeLine) :
    aLc vs it t c f ρ = .ok (.fr (.lst ((l.filter p).map g))) (backS ρ1 (wipeS ρ1 vs) vs) := by
  unfold aLc
  rw [hit, Res.bind_ok, if_pos hno, lcGo_map F g p l [] h (by simpa using hl)]
  rfl
/-- all items -/
theorem aLc_all {α : Type} {it : List S → Res (List D)} {t : Tg} {f : List S → Res E} {vs : List Nat} (F g : α → D) (l : List α) {ρ ρ1 : List S} (hit : it ρ = .ok (l.map F) ρ1) (hno : nOwn ρ1 vs = true)
    (h : ∀ a ∈ l, ∃ ρ2 v, tset t (F a) (wipeS ρ1 vs) = some ρ2 ∧ f ρ2 = .ok v ρ2 ∧ keep1 v ρ2 = some (g a, ρ2) ∧ wipeS ρ2 vs = wipeS ρ1 vs) (hl : l.length ≤ sizeLine) :
    aLc vs it t aYes f ρ = .ok (.fr (.lst (l.map g))) (backS ρ1 (wipeS ρ1 vs) vs) := by
  rw [aLc_map F g (fun _ => true) l hit hno (fun a ha => ?_) hl]
  · rw [List.filter_eq_self.mpr (fun _ _ => rfl)]
  · obtain ⟨ρ2, v, h1, h2, h3, h4⟩ := h a ha
    exact ⟨ρ2, v, h1, rfl, fun _ => ⟨h2, h3⟩, h4⟩
/-- a comprehension whose turns change the state -/
theorem lcGo_ex {t : Tg} {f : List S → Res E} {vs : List Nat} {I : Nat → List S → Prop} {R : D → Prop} : ∀ (xs : List D) (n : Nat) (acc : List D) (ρ : List S),
    (∀ i x ρ, xs[i]? = some x → I (n + i) ρ → ∃ ρ1 v ρ2 y ρ3, tset t x ρ = some ρ1 ∧ f ρ1 = .ok v ρ2 ∧ keep1 v ρ2 = some (y, ρ3) ∧ R y ∧ I (n + i + 1) (wipeS ρ3 vs)) → I n ρ → acc.length + xs.length ≤ sizeLine →
    ∃ ys ρ', lcGo t aYes f vs xs acc ρ = .ok (acc ++ ys) ρ' ∧ ys.length = xs.length ∧ (∀ y ∈ ys, R y) ∧ I (n + xs.length) ρ'
  | [], n, acc, ρ, _, h0, _ => ⟨[], ρ, by simp [lcGo], rfl, by simp, h0⟩
  | x :: xs, n, acc, ρ, h, h0, hl => by
    obtain ⟨ρ1, v, ρ2, y, ρ3, h1, h2, h3, h4, h5⟩ := h 0 x ρ rfl h0
    rw [List.length_cons] at hl
    obtain ⟨ys, ρ', e, e1, e2, e3⟩ := lcGo_ex xs (n + 1) (acc ++ [y]) (wipeS ρ3 vs) (fun i z ρ hz hI => by
      have := h (i + 1) z ρ (by simpa using hz) (by rw [show n + (i + 1) = n + 1 + i by omega]; exact hI)
      rw [show n + 1 + i + 1 = n + (i + 1) + 1 by omega]; exact this) h5 (by rw [List.length_append, List.length_singleton]; omega)
    refine ⟨y :: ys, ρ', ?_, by simp [e1], ?_, ?_⟩
    · rw [lcGo, h1]
      simp only [aYes, Res.bind_ok, if_true, h2, h3]
      rw [if_pos (by omega)]
      have e : lcGo t aYes f vs xs (acc ++ [y]) (wipeS ρ3 vs) = _ := e
      rw [e]; simp
    · intro z hz
      rcases List.mem_cons.mp hz with rfl | hz
      · exact h4
      · exact e2 z hz
    · rw [List.length_cons, show n + (xs.length + 1) = n + 1 + xs.length by omega]; exact e3
theorem aLc_ex {it : List S → Res (List D)} {t : Tg} {f : List S → Res E} {vs : List Nat} {I : Nat → List S → Prop} {R : D → Prop} {xs : List D} {ρ ρ1 : List S} (hit : it ρ = .ok xs ρ1) (hno : nOwn ρ1 vs = true)
    (h : ∀ i x ρ, xs[i]? = some x → I i ρ → ∃ ρ1 v ρ2 y ρ3, tset t x ρ = some ρ1 ∧ f ρ1 = .ok v ρ2 ∧ keep1 v ρ2 = some (y, ρ3) ∧ R y ∧ I (i + 1) (wipeS ρ3 vs)) (h0 : I 0 (wipeS ρ1 vs)) (hl : xs.length ≤ sizeLine) :
    ∃ ys ρ', aLc vs it t aYes f ρ = .ok (.fr (.lst ys)) (backS ρ1 ρ' vs) ∧ ys.length = xs.length ∧ (∀ y ∈ ys, R y) ∧ I xs.length ρ' := by
  obtain ⟨ys, ρ', e, e1, e2, e3⟩ := lcGo_ex (I := I) (R := R) xs 0 [] (wipeS ρ1 vs) (fun i x ρ hx hI => by simpa using h i x ρ hx (by simpa using hI)) h0 (by simpa using hl)
  refine ⟨ys, ρ', ?_, e1, e2, by simpa using e3⟩
  unfold aLc
  rw [hit, Res.bind_ok, if_pos hno, e]
  rfl
theorem forGo_ex {t : Tg} {body : List S → Res Fl} {I : Nat → List S → Prop} : ∀ (xs : List D) (n : Nat) (ρ : List S),
    (∀ i x ρ, xs[i]? = some x → I (n + i) ρ → ∃ ρ1 ρ2, tset t x ρ = some ρ1 ∧ body ρ1 = .ok .nx ρ2 ∧ I (n + i + 1) ρ2) → I n ρ → ∃ ρ', forGo t body xs ρ = .ok .nx ρ' ∧ I (n + xs.length) ρ'
  | [], n, ρ, _, h0 => ⟨ρ, by simp [forGo], h0⟩
  | x :: xs, n, ρ, h, h0 => by
    obtain ⟨ρ1, ρ2, h1, h2, h3⟩ := h 0 x ρ rfl h0
    obtain ⟨ρ', e, e1⟩ := forGo_ex xs (n + 1) ρ2 (fun i z ρ hz hI => by
      have := h (i + 1) z ρ (by simpa using hz) (by rw [show n + (i + 1) = n + 1 + i by omega]; exact hI)
      rw [show n + 1 + i + 1 = n + (i + 1) + 1 by omega]; exact this) h3
    refine ⟨ρ', ?_, ?_⟩
    · rw [forGo, h1]
      simp only [h2]
      exact e
    · rw [List.length_cons, show n + (xs.length + 1) = n + 1 + xs.length by omega]; exact e1
theorem sFor_ex {it : List S → Res (List D)} {t : Tg} {body : List S → Res Fl} {I : Nat → List S → Prop} {xs : List D} {ρ ρ1 : List S} (hit : it ρ = .ok xs ρ1)
    (h : ∀ i x ρ, xs[i]? = some x → I i ρ → ∃ ρ1 ρ2, tset t x ρ = some ρ1 ∧ body ρ1 = .ok .nx ρ2 ∧ I (i + 1) ρ2) (h0 : I 0 ρ1) : ∃ ρ', sFor it t body ρ = .ok .nx ρ' ∧ I xs.length ρ' := by
  obtain ⟨ρ', e, e1⟩ := forGo_ex (I := I) xs 0 ρ1 (fun i x ρ hx hI => by simpa using h i x ρ hx (by simpa using hI)) h0
  exact ⟨ρ', by unfold sFor; rw [hit]; exact e, by simpa using e1⟩
end L2.AL
namespace L2.AL.SH
open PySem PySem.Spec PyProof.Rows L2 L2.AL
theorem int_yes (i : Int) : m_is_integer [.d (.int i)] = .ok (.d (.bl true)) [.d (.int i)] := by
  unfold m_is_integer b_is_integer
  simp [runF, outF, sSeq, sIf, sRet, sRetN, sSet1, sSet, sTg, sExpr, sNx, aVar, aK, aCons, aNil, aOp2, app2, aCall, valL, E.val, aT, aNotT, aAndT, aOrT, aAndV, aOrV, aNotV, aIf, aChain, aTup, aLst, keepL, keep1, freeze, toSL, toS, setL, aFn, appFn, argS, slIx, wb, aIter, D.items?, aMeth, D.tyn, aSlice, aPart, aPartN, gIsi, D.isi, gIs, gIsn, D.is?, D.seq?, aStar, O.toD, eBl, eInt, eStr, tset, tsetL, wipeS, backS, nOwn, D.imm]
/-- the letters -/
def lets : List Nat := [97, 98, 99, 100, 101, 102, 103, 104, 105, 106, 107, 108, 109, 110, 111, 112, 113, 114, 115, 116, 117, 118, 119, 120, 121, 122]
theorem tl_lets : (Str.ofString "abcdefghijklmnopqrstuvwxyz").cps.toList = lets := by decide +kernel
theorem mem_lets (c : Nat) : c ∈ (Str.ofString "abcdefghijklmnopqrstuvwxyz").cps ↔ c ∈ lets := by rw [← Array.mem_toList_iff, tl_lets]
theorem len_lets : (Str.ofString "abcdefghijklmnopqrstuvwxyz").length = 26 := by decide +kernel
def nameB (z : Str) : Bool := decide (1 ≤ z.length ∧ z.length ≤ 8) && z.cps.toList.all fun c => decide (c ∈ lets)
theorem small_line {n : Nat} (h : n ≤ 100000) : n ≤ sizeLine := Nat.le_trans h (by decide)
theorem name_spec (z : Str) (hz : z.length ≤ 100000) : m_is_name [.d (.str z)] = .ok (.d (.bl (nameB z))) [.d (.str z)] := by
  have hl : z.length ≤ sizeLine := small_line hz
  have comp : aLc [1] (aIter (aVar 0)) (.nm 1) aYes (aOp2 gIn (aVar 1) (aK c_LETTERS)) [.d (.str z), .no] = .ok (.fr (.lst (z.cps.toList.map fun c => .bl (decide (c ∈ lets))))) [.d (.str z), .no] := by
    refine aLc_all (fun c => D.str ⟨#[c]⟩) (fun c => D.bl (decide (c ∈ lets))) z.cps.toList (ρ1 := [.d (.str z), .no]) ?_ rfl (fun c hc => ?_) ?_
    · simp [runF, outF, sSeq, sIf, sRet, sRetN, sSet1, sSet, sTg, sExpr, sNx, aVar, aK, aCons, aNil, aOp2, app2, aCall, valL, E.val, aT, aNotT, aAndT, aOrT, aAndV, aOrV, aNotV, aIf, aChain, aTup, aLst, keepL, keep1, freeze, toSL, toS, setL, aFn, appFn, argS, slIx, wb, aIter, D.items?, aMeth, D.tyn, aSlice, aPart, aPartN, gIsi, D.isi, gIs, gIsn, D.is?, D.seq?, aStar, O.toD, eBl, eInt, eStr, tset, tsetL, wipeS, backS, nOwn, D.imm, signs]
    · refine ⟨_, .d (.bl (decide (c ∈ lets))), rfl, ?_, rfl, rfl⟩
      simp [runF, outF, sSeq, sIf, sRet, sRetN, sSet1, sSet, sTg, sExpr, sNx, aVar, aK, aCons, aNil, aOp2, app2, aCall, valL, E.val, aT, aNotT, aAndT, aOrT, aAndV, aOrV, aNotV, aIf, aChain, aTup, aLst, keepL, keep1, freeze, toSL, toS, setL, aFn, appFn, argS, slIx, wb, aIter, D.items?, aMeth, D.tyn, aSlice, aPart, aPartN, gIsi, D.isi, gIs, gIsn, D.is?, D.seq?, aStar, O.toD, eBl, eInt, eStr, tset, tsetL, wipeS, backS, nOwn, D.imm, gIn, D.in?, c_LETTERS, mem_lets]
    · have : z.cps.toList.length = z.length := by simp [Str.length]
      rw [this]; exact hl
  have hall : D.bls? (z.cps.toList.map fun c => D.bl (decide (c ∈ lets))) = some (z.cps.toList.map fun c => decide (c ∈ lets)) := by
    have := bls_map (z.cps.toList.map fun c => decide (c ∈ lets))
    rwa [List.map_map] at this
  have hid : ((z.cps.toList.map fun c => decide (c ∈ lets)).all id) = z.cps.toList.all fun c => decide (c ∈ lets) := by
    rw [List.all_map]; rfl
  unfold m_is_name b_is_name
  by_cases h1 : (1 : Int) ≤ z.length
  · by_cases h2 : (z.length : Int) ≤ 8
    · have hn : nameB z = z.cps.toList.all fun c => decide (c ∈ lets) := by
        unfold nameB
        rw [decide_eq_true (show 1 ≤ z.length ∧ z.length ≤ 8 by omega), Bool.true_and]
      rw [hn]
      simp [runF, outF, sSeq, sIf, sRet, sRetN, sSet1, sSet, sTg, sExpr, sNx, aVar, aK, aCons, aNil, aOp2, app2, aCall, valL, E.val, aT, aNotT, aAndT, aOrT, aAndV, aOrV, aNotV, aIf, aChain, aTup, aLst, keepL, keep1, freeze, toSL, toS, setL, aFn, appFn, argS, slIx, wb, aIter, D.items?, aMeth, D.tyn, aSlice, aPart, aPartN, gIsi, D.isi, gIs, gIsn, D.is?, D.seq?, aStar, O.toD, eBl, eInt, eStr, tset, tsetL, wipeS, backS, nOwn, D.imm, gLe, gLen, c_LONGEST_NAME, hl, h1, h2, comp, gAll, hall, hid, -Array.all_toList, -List.all_map]
    · have hn : nameB z = false := by
        unfold nameB
        rw [decide_eq_false (show ¬ (1 ≤ z.length ∧ z.length ≤ 8) by omega), Bool.false_and]
      rw [hn]
      simp [runF, outF, sSeq, sIf, sRet, sRetN, sSet1, sSet, sTg, sExpr, sNx, aVar, aK, aCons, aNil, aOp2, app2, aCall, valL, E.val, aT, aNotT, aAndT, aOrT, aAndV, aOrV, aNotV, aIf, aChain, aTup, aLst, keepL, keep1, freeze, toSL, toS, setL, aFn, appFn, argS, slIx, wb, aIter, D.items?, aMeth, D.tyn, aSlice, aPart, aPartN, gIsi, D.isi, gIs, gIsn, D.is?, D.seq?, aStar, O.toD, eBl, eInt, eStr, tset, tsetL, wipeS, backS, nOwn, D.imm, gLe, gLen, c_LONGEST_NAME, hl, h1, h2]
  · have hn : nameB z = false := by
      unfold nameB
      rw [decide_eq_false (show ¬ (1 ≤ z.length ∧ z.length ≤ 8) by omega), Bool.false_and]
    rw [hn]
    simp [runF, outF, sSeq, sIf, sRet, sRetN, sSet1, sSet, sTg, sExpr, sNx, aVar, aK, aCons, aNil, aOp2, app2, aCall, valL, E.val, aT, aNotT, aAndT, aOrT, aAndV, aOrV, aNotV, aIf, aChain, aTup, aLst, keepL, keep1, freeze, toSL, toS, setL, aFn, appFn, argS, slIx, wb, aIter, D.items?, aMeth, D.tyn, aSlice, aPart, aPartN, gIsi, D.isi, gIs, gIsn, D.is?, D.seq?, aStar, O.toD, eBl, eInt, eStr, tset, tsetL, wipeS, backS, nOwn, D.imm, gLe, gLen, c_LONGEST_NAME, hl, h1]
end L2.AL.SH
namespace L2.AL
open PySem PySem.Spec PyProof.Rows
/-! steps -/
section
variable {ρ ρ1 ρ2 : List S} {f g : List S → Res Fl} {e : List S → Res E} {c : List S → Res Bool} {v : E} {x : D} {o : O}
theorem run_rt {np nl : Nat} (hρ : ρ.length = np) (h : f (ρ ++ List.replicate nl .no) = .ok (.rt (.d x)) ρ1) : runF np nl f ρ = .ok (.d x) (ρ1.take np) := by
  unfold runF; rw [if_pos hρ, h]; rfl
theorem run_fr {np nl : Nat} (hρ : ρ.length = np) (h : f (ρ ++ List.replicate nl .no) = .ok (.rt (.fr o)) ρ1) : runF np nl f ρ = .ok (.fr o) (ρ1.take np) := by
  unfold runF; rw [if_pos hρ, h]; rfl
theorem seq_nx (h : f ρ = .ok .nx ρ1) : sSeq f g ρ = g ρ1 := by unfold sSeq; rw [h]
theorem seq_rt (h : f ρ = .ok (.rt v) ρ1) : sSeq f g ρ = .ok (.rt v) ρ1 := by unfold sSeq; rw [h]
theorem ret_of (h : e ρ = .ok v ρ1) : sRet e ρ = .ok (.rt v) ρ1 := by unfold sRet; rw [h]; rfl
theorem if_t (h : c ρ = .ok true ρ1) : sIf c f g ρ = f ρ1 := by unfold sIf; rw [h]; rfl
theorem if_f (h : c ρ = .ok false ρ1) : sIf c f g ρ = g ρ1 := by unfold sIf; rw [h]; rfl
theorem expr_of (h : e ρ = .ok v ρ1) : sExpr e ρ = .ok .nx ρ1 := by unfold sExpr; rw [h]; rfl
theorem set_d {i : Nat} (h : e ρ = .ok (.d x) ρ1) (hi : i < ρ1.length) : sSet1 i e ρ = .ok .nx (ρ1.set i (.d x)) := by
  simp [sSet1, sSet, aCons, h, aNil, toSL, toS, setL, hi]
theorem set_o {i : Nat} (h : e ρ = .ok (.fr o) ρ1) (hi : i < ρ1.length) : sSet1 i e ρ = .ok .nx (ρ1.set i (.own o)) := by
  simp [sSet1, sSet, aCons, h, aNil, toSL, toS, setL, hi]
theorem aT_of {b : Bool} (h : e ρ = .ok (.d (.bl b)) ρ1) : aT e ρ = .ok b ρ1 := by unfold aT; rw [h]; rfl
theorem aNotT_of {b : Bool} (h : c ρ = .ok b ρ1) : aNotT c ρ = .ok (!b) ρ1 := by unfold aNotT; rw [h]; rfl
/-- a call with one argument that is a content -/
theorem fn1 {F : List S → Res E} {a : List S → Res E} {y : D} (ha : a ρ = .ok (.d x) ρ1) (hF : F [.d x] = .ok (.d y) [.d x]) : aFn F (aCons a aNil) ρ = .ok (.d y) ρ1 := by
  simp [aFn, aCons, ha, aNil, appFn, argS, slIx, hF, wb]
theorem fn1F {F : List S → Res E} {a : List S → Res E} (ha : a ρ = .ok (.d x) ρ1) (hF : F [.d x] = .ok (.fr o) [.d x]) : aFn F (aCons a aNil) ρ = .ok (.fr o) ρ1 := by
  simp [aFn, aCons, ha, aNil, appFn, argS, slIx, hF, wb]
theorem var_d {i : Nat} (h : ρ[i]? = some (.d x)) : aVar i ρ = .ok (.d x) ρ := by unfold aVar; rw [h]
theorem var_o {i : Nat} (h : ρ[i]? = some (.own o)) : aVar i ρ = .ok (.sl i) ρ := by unfold aVar; rw [h]
end
end L2.AL
namespace L2.AL.SH
open PySem PySem.Spec PyProof.Rows L2 L2.AL TL
theorem name_of {z : Str} (h : nameB z = true) : 1 ≤ z.length ∧ z.length ≤ 8 ∧ ∀ c ∈ tl z, c ∈ lets := by
  unfold nameB at h
  rw [Bool.and_eq_true] at h
  have h1 := of_decide_eq_true h.1
  refine ⟨h1.1, h1.2, fun c hc => ?_⟩
  exact of_decide_eq_true (List.all_eq_true.mp h.2 c hc)
theorem lets_of {c : Nat} (h : c ∈ lets) : 97 ≤ c ∧ c ≤ 122 := by
  simp only [lets, List.mem_cons, List.not_mem_nil, or_false] at h
  omega
theorem sum_le {α : Type} (f : α → Nat) (b : Nat) : ∀ l : List α, (∀ x ∈ l, f x ≤ b) → (l.map f).sum ≤ l.length * b
  | [], _ => by simp
  | x :: l, h => by
    have h1 := h x List.mem_cons_self
    have h2 := sum_le f b l fun y hy => h y (List.mem_cons_of_mem _ hy)
    rw [List.map_cons, List.sum_cons, List.length_cons, Nat.add_mul]
    omega
theorem strs_of {α : Type} (f : α → Str) (l : List α) : D.strs? (l.map fun a => D.str (f a)) = some (l.map f) := by
  have := strs_map (l.map f)
  rwa [List.map_map] at this
end L2.AL.SH
namespace L2.AL
open PySem PySem.Spec PyProof.Rows
section
variable {ρ : List S} {fa fb : List S → Res E} {x y : D} {v : E} {g : D → D → Option E} {i : Int}
theorem op2_d (ha : fa ρ = .ok (.d x) ρ) (hb : fb ρ = .ok (.d y) ρ) (h : g x y = some v) : aOp2 g fa fb ρ = .ok v ρ := by
  simp [aOp2, ha, hb, app2, E.val, h]
theorem int1 (ha : fa ρ = .ok (.d (.int i)) ρ) : aCall gInt (aCons fa aNil) ρ = .ok (.d (.int i)) ρ := by
  simp [aCall, aCons, ha, aNil, valL, E.val, gInt, eInt]
end
theorem lg {i : Int} {k : Nat} (h : i.natAbs < 2 ^ k) (hk : 0 < k) : i.natAbs.log2 < k := by
  by_cases h0 : i.natAbs = 0
  · rw [h0]; simpa using hk
  · exact (Nat.log2_lt h0).mpr h
theorem gMul_ok {i j : Int} (h : i.natAbs < 2 ^ 2000) (h' : j.natAbs < 2 ^ 2000) : gMul (.int i) (.int j) = some (eInt (i * j)) := by
  have h1 := lg h (by decide)
  have h2 := lg h' (by decide)
  simp only [gMul]
  rw [if_pos (by omega)]
theorem gMod_ok {i j : Int} (h : 0 < j) : gMod (.int i) (.int j) = some (eInt (i % j)) := by
  simp only [gMod]
  rw [if_pos h]
theorem gDiv_ok {i j : Int} (h : 0 < j) (h' : j.natAbs < 2 ^ 2000) : gDiv (.int i) (.int j) = some (eInt (i / j)) := by
  have h2 := lg h' (by decide)
  simp only [gDiv]
  rw [if_pos ⟨h, by omega⟩]
theorem gPow_ok {i : Int} {j : Nat} (h : i.natAbs < 2 ^ 2000) (hj : j ≤ 1000) : gPow (.int i) (.int j) = some (eInt (i ^ j)) := by
  have h1 := lg h (by decide)
  have hb : Builtin.Int.intBits i ≤ 2000 := by
    unfold Builtin.Int.intBits
    split <;> omega
  have hc : (Builtin.Int.intBits i : Int) * (j : Int) ≤ 2 ^ 27 := by
    have : Builtin.Int.intBits i * j ≤ 2000 * 1000 := Nat.mul_le_mul hb hj
    have e : ((Builtin.Int.intBits i * j : Nat) : Int) = (Builtin.Int.intBits i : Int) * (j : Int) := by push_cast; rfl
    rw [← e]
    omega
  simp only [gPow]
  rw [if_pos ⟨by omega, hc⟩]
  simp
end L2.AL
namespace L2.AL.SH
open PySem PySem.Spec PyProof.Rows L2 L2.AL TL
/-! draws -/
def jar (a b t : Int) : O := .lst [.int a, .int b, .int t]
structure JarOk (T : Nat) (o : O) : Prop where
  form : ∃ a b t : Int, o = jar a b t ∧ 0 ≤ b ∧ b < 2305843009213693921 ∧ 0 ≤ t ∧ t ≤ T
theorem JarOk.mono {T T' : Nat} {o : O} (h : JarOk T o) (le : T ≤ T') : JarOk T' o := by
  obtain ⟨a, b, t, e, h1, h2, h3, h4⟩ := h.form
  exact ⟨a, b, t, e, h1, h2, h3, by omega⟩
section
variable {ρ : List S} {a b t : Int}
theorem ix0 (h : ρ[0]? = some (.own (jar a b t))) : aOp2 gIx (aVar 0) (aK (.int 0)) ρ = .ok (.d (.int a)) ρ := by
  simp [aOp2, aVar, h, aK, app2, E.val, jar, O.toD, gIx, atI, ixN]
theorem ix1 (h : ρ[0]? = some (.own (jar a b t))) : aOp2 gIx (aVar 0) (aK (.int 1)) ρ = .ok (.d (.int b)) ρ := by
  simp [aOp2, aVar, h, aK, app2, E.val, jar, O.toD, gIx, atI, ixN]
theorem ix2 (h : ρ[0]? = some (.own (jar a b t))) : aOp2 gIx (aVar 0) (aK (.int 2)) ρ = .ok (.d (.int t)) ρ := by
  simp [aOp2, aVar, h, aK, app2, E.val, jar, O.toD, gIx, atI, ixN]
end
theorem primes (k : Int) (h0 : 0 ≤ k) (h : k < 5) : ∃ p : Int, gIx (.lst [.int 2147483647, .int 2147483629, .int 2147483587, .int 2147483579, .int 2147483563]) (.int k) = some (.d (.int p)) ∧ 0 < p ∧ p ≤ 2147483647 := by
  have : k = 0 ∨ k = 1 ∨ k = 2 ∨ k = 3 ∨ k = 4 := by omega
  rcases this with rfl | rfl | rfl | rfl | rfl
  · exact ⟨2147483647, rfl, by decide, by decide⟩
  · exact ⟨2147483629, rfl, by decide, by decide⟩
  · exact ⟨2147483587, rfl, by decide, by decide⟩
  · exact ⟨2147483579, rfl, by decide, by decide⟩
  · exact ⟨2147483563, rfl, by decide, by decide⟩
theorem take_spec {T : Nat} {o : O} {m : Int} (h : JarOk T o) (hT : T ≤ 100000) (hm : 0 < m) (hm2 : m < 2 ^ 70) :
    ∃ r o', m__law_take [.own o, .d (.int m)] = .ok (.d (.int r)) [.own o', .d (.int m)] ∧ 0 ≤ r ∧ r < m ∧ JarOk (T + 1) o' := by
  obtain ⟨a, b, t, rfl, hb0, hb1, ht0, ht1⟩ := h.form
  have mm : m.natAbs < 2 ^ 2000 := by
    have : m.natAbs < 2 ^ 70 := by omega
    exact Nat.lt_trans this (Nat.pow_lt_pow_right (by decide) (by decide))
  by_cases ha : 0 < a
  · refine ⟨a % m, jar (a / m) b t, ?_, Int.emod_nonneg _ (by omega), Int.emod_lt_of_pos _ hm, ⟨_, _, _, rfl, hb0, hb1, ht0, by omega⟩⟩
    refine (run_rt (ρ1 := [.own (jar (a / m) b t), .d (.int m), .d (.int (a % m)), .no, .no]) rfl ?_).trans rfl
    unfold b__law_take
    show sSeq _ _ [.own (jar a b t), .d (.int m), .no, .no, .no] = _
    rw [seq_rt (v := .d (.int (a % m))) (ρ1 := [.own (jar (a / m) b t), .d (.int m), .d (.int (a % m)), .no, .no])]
    rw [if_t (ρ1 := [.own (jar a b t), .d (.int m), .no, .no, .no])]
    · rw [seq_nx (ρ1 := [.own (jar a b t), .d (.int m), .d (.int (a % m)), .no, .no])]
      · rw [seq_nx (ρ1 := [.own (jar (a / m) b t), .d (.int m), .d (.int (a % m)), .no, .no])]
        · rfl
        · have q : aOp2 gDiv (aOp2 gIx (aVar 0) (aK (.int 0))) (aVar 1) [.own (jar a b t), .d (.int m), .d (.int (a % m)), .no, .no] = .ok (.d (.int (a / m))) [.own (jar a b t), .d (.int m), .d (.int (a % m)), .no, .no] := op2_d (ix0 rfl) (var_d rfl) (gDiv_ok hm mm)
          unfold sPut
          rw [q]
          rfl
      · exact set_d (ρ1 := [.own (jar a b t), .d (.int m), .no, .no, .no]) (op2_d (int1 (ix0 rfl)) (var_d rfl) (gMod_ok hm)) (by simp)
    · refine aT_of (op2_d (ix0 rfl) rfl ?_)
      simp [gGt, ha]
  · obtain ⟨t1, ht⟩ : ∃ t1, t1 = t + 1 := ⟨_, rfl⟩
    have t10 : 0 ≤ t1 := by omega
    have t11 : t1 ≤ 100001 := by omega
    obtain ⟨p, hp, hp0, hp1⟩ := primes (t1 % 5) (Int.emod_nonneg _ (by decide)) (Int.emod_lt_of_pos _ (by decide))
    obtain ⟨x, hx⟩ : ∃ x, x = b + 99877 * t1 * t1 + 71 := ⟨_, rfl⟩
    have tt : t1 * t1 ≤ 100001 * 100001 := Int.mul_le_mul t11 t11 t10 (by decide)
    have tt0 : 0 ≤ t1 * t1 := Int.mul_nonneg t10 t10
    have xb : x.natAbs < 2 ^ 2000 := by
      have e : 99877 * t1 * t1 = 99877 * (t1 * t1) := by rw [Int.mul_assoc]
      have : x.natAbs < 2 ^ 64 := by rw [hx, e]; omega
      exact Nat.lt_trans this (Nat.pow_lt_pow_right (by decide) (by decide))
    obtain ⟨m1, hm1⟩ : ∃ m1, m1 = x ^ 3 % p := ⟨_, rfl⟩
    have m10 : 0 ≤ m1 := by rw [hm1]; exact Int.emod_nonneg _ (by omega)
    have m11 : m1 < 2147483648 := by rw [hm1]; have := Int.emod_lt_of_pos (x ^ 3) hp0; omega
    obtain ⟨y, hy⟩ : ∃ y, y = m1 % 10007 + 89 * t1 := ⟨_, rfl⟩
    have yb : y.natAbs < 2 ^ 64 := by
      have h1 := Int.emod_nonneg m1 (show (10007 : Int) ≠ 0 by decide)
      have h2 := Int.emod_lt_of_pos m1 (show (0 : Int) < 10007 by decide)
      omega
    obtain ⟨m2, hm2'⟩ : ∃ m2, m2 = m1 * y % 2305843009213693907 := ⟨_, rfl⟩
    refine ⟨m2 / 83 % m, jar a b t1, ?_, Int.emod_nonneg _ (by omega), Int.emod_lt_of_pos _ hm, ⟨_, _, _, rfl, hb0, hb1, t10, by push_cast; omega⟩⟩
    refine (run_rt (ρ1 := [.own (jar a b t1), .d (.int m), .no, .d (.int p), .d (.int m2)]) rfl ?_).trans rfl
    unfold b__law_take
    show sSeq _ _ [.own (jar a b t), .d (.int m), .no, .no, .no] = _
    rw [seq_nx (ρ1 := [.own (jar a b t), .d (.int m), .no, .no, .no])]
    · rw [seq_nx (ρ1 := [.own (jar a b t1), .d (.int m), .no, .no, .no])]
      · rw [seq_nx (ρ1 := [.own (jar a b t1), .d (.int m), .no, .d (.int p), .no])]
        · rw [seq_nx (ρ1 := [.own (jar a b t1), .d (.int m), .no, .d (.int p), .d (.int m1)])]
          · rw [seq_nx (ρ1 := [.own (jar a b t1), .d (.int m), .no, .d (.int p), .d (.int m2)])]
            · refine ret_of ?_
              exact op2_d (int1 (op2_d (y := .int 83) (var_d rfl) rfl (gDiv_ok (by decide) (Nat.lt_trans (show (83 : Int).natAbs < 2 ^ 64 by decide) (Nat.pow_lt_pow_right (by decide) (by decide)))))) (var_d rfl) (gMod_ok hm)
            · refine (set_d (x := .int m2) (ρ1 := [.own (jar a b t1), .d (.int m), .no, .d (.int p), .d (.int m1)]) ?_ (by simp)).trans rfl
              have big : ∀ {i : Int}, i.natAbs < 2 ^ 64 → i.natAbs < 2 ^ 2000 := fun h => Nat.lt_trans h (Nat.pow_lt_pow_right (by decide) (by decide))
              have e1 : aOp2 gMod (aCall gInt (aCons (aVar 4) aNil)) (aK (.int 10007)) [.own (jar a b t1), .d (.int m), .no, .d (.int p), .d (.int m1)] = .ok (.d (.int (m1 % 10007))) [.own (jar a b t1), .d (.int m), .no, .d (.int p), .d (.int m1)] := op2_d (y := .int 10007) (int1 (var_d rfl)) rfl (gMod_ok (by decide))
              have e2 : aOp2 gMul (aK (.int 89)) (aOp2 gIx (aVar 0) (aK (.int 2))) [.own (jar a b t1), .d (.int m), .no, .d (.int p), .d (.int m1)] = .ok (.d (.int (89 * t1))) [.own (jar a b t1), .d (.int m), .no, .d (.int p), .d (.int m1)] := op2_d (x := .int 89) rfl (ix2 rfl) (gMul_ok (big (by decide)) (big (by omega)))
              have e3 := op2_d (g := gAdd) e1 e2 rfl
              have e4 := op2_d (g := gMul) (v := .d (.int (m1 * y))) (fa := aVar 4) (var_d (x := .int m1) rfl) e3 (by rw [← hy]; exact gMul_ok (big (by omega)) (big yb))
              have e5 := op2_d (g := gMod) (fb := aK (.int 2305843009213693907)) (int1 e4) rfl (gMod_ok (by decide))
              rw [hm2']
              exact e5
          · refine (set_d (x := .int m1) (ρ1 := [.own (jar a b t1), .d (.int m), .no, .d (.int p), .no]) ?_ (by simp)).trans rfl
            have big : ∀ {i : Int}, i.natAbs < 2 ^ 64 → i.natAbs < 2 ^ 2000 := fun h => Nat.lt_trans h (Nat.pow_lt_pow_right (by decide) (by decide))
            have e1 : aOp2 gMul (aK (.int 99877)) (aOp2 gIx (aVar 0) (aK (.int 2))) [.own (jar a b t1), .d (.int m), .no, .d (.int p), .no] = .ok (.d (.int (99877 * t1))) [.own (jar a b t1), .d (.int m), .no, .d (.int p), .no] := op2_d (x := .int 99877) rfl (ix2 rfl) (gMul_ok (big (by decide)) (big (by omega)))
            have e2 := op2_d (g := gMul) (v := .d (.int (99877 * t1 * t1))) e1 (ix2 rfl) (gMul_ok (big (by omega)) (big (by omega)))
            have e3 := op2_d (g := gAdd) (v := .d (.int (b + 99877 * t1 * t1))) (fa := aOp2 gIx (aVar 0) (aK (.int 1))) (ix1 rfl) e2 rfl
            have e4 := op2_d (g := gAdd) (v := .d (.int x)) (fb := aK (.int 71)) e3 rfl (by rw [hx]; rfl)
            have e5 := op2_d (g := gPow) (v := .d (.int (x ^ 3))) (fb := aK (.int 3)) e4 rfl (gPow_ok (j := 3) xb (by decide))
            rw [hm1]
            exact op2_d (int1 e5) (var_d rfl) (gMod_ok hp0)
        · refine (set_d (x := .int p) (ρ1 := [.own (jar a b t1), .d (.int m), .no, .no, .no]) ?_ (by simp)).trans rfl
          have e1 := op2_d (g := gMod) (v := .d (.int (t1 % 5))) (fb := aK (.int 5)) (int1 (ix2 (ρ := [.own (jar a b t1), .d (.int m), .no, .no, .no]) rfl)) rfl (gMod_ok (by decide))
          have s5 : 5 ≤ sizeLine := small_line (by decide)
          have l5 : aLst (aCons (aK (.int 2147483647)) (aCons (aK (.int 2147483629)) (aCons (aK (.int 2147483587)) (aCons (aK (.int 2147483579)) (aCons (aK (.int 2147483563)) aNil))))) [.own (jar a b t1), .d (.int m), .no, .no, .no] = .ok (.fr (.lst [.int 2147483647, .int 2147483629, .int 2147483587, .int 2147483579, .int 2147483563])) [.own (jar a b t1), .d (.int m), .no, .no, .no] := by
            simp [aLst, aCons, aK, aNil, keepL, keep1, s5]
          rw [aOp2]
          simp only [l5, Res.bind_ok, e1, app2, E.val, O.toD, hp]
      · have q : aOp2 gAdd (aOp2 gIx (aVar 0) (aK (.int 2))) (aK (.int 1)) [.own (jar a b t), .d (.int m), .no, .no, .no] = .ok (.d (.int t1)) [.own (jar a b t), .d (.int m), .no, .no, .no] := op2_d (y := .int 1) (ix2 rfl) rfl (by rw [ht]; rfl)
        unfold sPut
        rw [q]
        rfl
    · rw [if_f (ρ1 := [.own (jar a b t), .d (.int m), .no, .no, .no])]
      · rfl
      · refine aT_of (op2_d (ix0 rfl) rfl ?_)
        simp [gGt, ha]
/-- one of a list or text -/
theorem of_lst {T : Nat} {o : O} {xs : List D} (h : JarOk T o) (hT : T ≤ 100000) (hne : xs ≠ []) (hl : xs.length ≤ 1000) (s : S) (hs : s = .own (.lst xs) ∨ s = .d (.lst xs)) :
    ∃ x o', m__law_of [.own o, s] = .ok (.d x) [.own o', s] ∧ x ∈ xs ∧ JarOk (T + 1) o' := by
  have pos : 0 < xs.length := List.length_pos_iff.mpr hne
  obtain ⟨r, o', e, h0, h1, ok⟩ := take_spec (m := (xs.length : Int)) h hT (by omega) (by omega)
  have hr : r.toNat < xs.length := by omega
  have hi : gIx (.lst xs) (.int r) = some (.d xs[r.toNat]) := by
    simp only [gIx, atI, ixN]
    rw [if_pos h0, if_pos h1]
    simp [hr]
  refine ⟨xs[r.toNat], o', ?_, List.getElem_mem _, ok⟩
  refine (run_rt (ρ1 := [.own o', s]) rfl (ret_of ?_)).trans rfl
  rcases hs with rfl | rfl <;> simp [runF, outF, sSeq, sIf, sRet, sRetN, sSet1, sSet, sTg, sExpr, sNx, aVar, aK, aCons, aNil, aOp2, app2, aCall, valL, E.val, aT, aNotT, aAndT, aOrT, aAndV, aOrV, aNotV, aIf, aChain, aTup, aLst, keepL, keep1, freeze, toSL, toS, setL, aFn, appFn, argS, slIx, wb, aIter, D.items?, aMeth, D.tyn, aSlice, aPart, aPartN, gIsi, D.isi, gIs, gIsn, D.is?, D.seq?, aStar, O.toD, eBl, eInt, eStr, tset, tsetL, wipeS, backS, nOwn, D.imm, gLen, e, hi]
theorem of_str {T : Nat} {o : O} {z : Str} (h : JarOk T o) (hT : T ≤ 100000) (hne : 0 < z.length) (hl : z.length ≤ 1000) (s : S) (hs : s = .d (.str z)) :
    ∃ c o', m__law_of [.own o, s] = .ok (.d (.str ⟨#[c]⟩)) [.own o', s] ∧ c ∈ tl z ∧ JarOk (T + 1) o' := by
  obtain ⟨r, o', e, h0, h1, ok⟩ := take_spec (m := (z.length : Int)) h hT (by omega) (by omega)
  have lz : z.length = z.cps.toList.length := by simp [Str.length]
  have hr : r.toNat < z.cps.toList.length := by omega
  have sz : z.length ≤ sizeLine := small_line (by omega)
  have h1' : r < z.cps.toList.length := by omega
  have hi : gIx (.str z) (.int r) = some (.d (.str ⟨#[z.cps.toList[r.toNat]]⟩)) := by
    simp only [gIx, atI, ixN]
    rw [if_pos sz, if_pos h0, if_pos h1']
    simp only [Option.bind_some, List.getElem?_eq_getElem hr, Option.map_some]
  refine ⟨z.cps.toList[r.toNat], o', ?_, List.getElem_mem _, ok⟩
  refine (run_rt (ρ1 := [.own o', s]) rfl (ret_of ?_)).trans rfl
  subst hs
  have hlen : gLen [.str z] = some (.d (.int z.length)) := by simp only [gLen, if_pos sz]
  have e1 : aFn m__law_take (aCons (aVar 0) (aCons (aCall gLen (aCons (aVar 1) aNil)) aNil)) [.own o, .d (.str z)] = .ok (.d (.int r)) [.own o', .d (.str z)] := by
    simp [runF, outF, sSeq, sIf, sRet, sRetN, sSet1, sSet, sTg, sExpr, sNx, aVar, aK, aCons, aNil, aOp2, app2, aCall, valL, E.val, aT, aNotT, aAndT, aOrT, aAndV, aOrV, aNotV, aIf, aChain, aTup, aLst, keepL, keep1, freeze, toSL, toS, setL, aFn, appFn, argS, slIx, wb, aIter, D.items?, aMeth, D.tyn, aSlice, aPart, aPartN, gIsi, D.isi, gIs, gIsn, D.is?, D.seq?, aStar, O.toD, eBl, eInt, eStr, tset, tsetL, wipeS, backS, nOwn, D.imm, hlen, e]
  show aOp2 gIx (aVar 1) _ [.own o, .d (.str z)] = _
  simp only [aOp2, var_d (ρ := [.own o, .d (.str z)]) (i := 1) rfl, Res.bind_ok, e1, app2, E.val, hi]
end L2.AL.SH
namespace L2.AL.SH
open PySem PySem.Spec PyProof.Rows L2 L2.AL TL
theorem big64 {i : Int} (h : i.natAbs < 2 ^ 64) : i.natAbs < 2 ^ 2000 := Nat.lt_trans h (Nat.pow_lt_pow_right (by decide) (by decide))
theorem pow60 : (((10 : Int) ^ 60).natAbs) < 2 ^ 2000 := Nat.lt_trans (show ((10 : Int) ^ 60).natAbs < 2 ^ 200 by decide +kernel) (Nat.pow_lt_pow_right (by decide) (by decide))
theorem jar_spec {ns : List Int} {k : Int} (h0 : 0 ≤ k) (h1 : k < 10) (hl : ns.length ≤ 63) : ∃ o, m__law_jar [.d (.scr ns), .d (.int k)] = .ok (.fr o) [.d (.scr ns), .d (.int k)] ∧ JarOk 0 o := by
  obtain ⟨c, hc⟩ : ∃ c : Int, aIf (aT (aOp2 gLt (aVar 1) (aCall gLen (aCons (aVar 0) aNil)))) (aOp2 gIx (aVar 0) (aVar 1)) (aOp2 gAdd (aOp2 gMul (aK (.int 29)) (aVar 1)) (aK (.int 11))) [.d (.scr ns), .d (.int k), .no, .no] = .ok (.d (.int c)) [.d (.scr ns), .d (.int k), .no, .no] := by
    have e1 : aT (aOp2 gLt (aVar 1) (aCall gLen (aCons (aVar 0) aNil))) [.d (.scr ns), .d (.int k), .no, .no] = .ok (decide (k < (ns.length : Int))) [.d (.scr ns), .d (.int k), .no, .no] := aT_of (op2_d (x := .int k) (y := .int ns.length) rfl rfl rfl)
    by_cases hk : k < (ns.length : Int)
    · have hr : k.toNat < ns.length := by omega
      refine ⟨ns[k.toNat], ?_⟩
      rw [aIf, e1]
      simp only [Res.bind_ok, decide_eq_true hk, if_true]
      refine op2_d (x := .scr ns) (y := .int k) rfl rfl ?_
      simp only [gIx, atI, ixN]
      rw [if_pos h0, if_pos hk]
      simp [hr]
    · refine ⟨29 * k + 11, ?_⟩
      rw [aIf, e1]
      simp only [Res.bind_ok, decide_eq_false hk, Bool.false_eq_true, if_false]
      exact op2_d (op2_d (x := .int 29) (y := .int k) rfl rfl (gMul_ok (big64 (by decide)) (big64 (by omega)))) rfl rfl
  obtain ⟨ab, hab⟩ : ∃ ab : Int, ab = if c < 0 then -c else c := ⟨_, rfl⟩
  obtain ⟨m, hm⟩ : ∃ m : Int, aOp2 gMul (aOp2 gMod (aCall gInt (aCons (aCall gAbs (aCons (aVar 2) aNil)) aNil)) (aOp2 gPow (aOp2 gPow (aK (.int 10)) (aK (.int 60))) (aK (.int 5)))) (aCall gInt (aCons (aOp2 gGe (aCall gAbs (aCons (aVar 2) aNil)) (aOp2 gPow (aK (.int 10)) (aK (.int 18)))) aNil)) [.d (.scr ns), .d (.int k), .d (.int c), .no] = .ok (.d (.int m)) [.d (.scr ns), .d (.int k), .d (.int c), .no] := by
    have a1 : aCall gAbs (aCons (aVar 2) aNil) [.d (.scr ns), .d (.int k), .d (.int c), .no] = .ok (.d (.int ab)) [.d (.scr ns), .d (.int k), .d (.int c), .no] := by rw [hab]; rfl
    have p1 : aOp2 gPow (aK (.int 10)) (aK (.int 60)) [.d (.scr ns), .d (.int k), .d (.int c), .no] = .ok (.d (.int (10 ^ 60))) [.d (.scr ns), .d (.int k), .d (.int c), .no] := op2_d (x := .int 10) (y := .int 60) rfl rfl (gPow_ok (j := 60) (big64 (by decide)) (by decide))
    have p2 := op2_d (g := gPow) (v := .d (.int ((10 ^ 60) ^ 5))) (fb := aK (.int 5)) p1 rfl (gPow_ok (j := 5) pow60 (by decide))
    have pos : (0 : Int) < (10 ^ 60) ^ 5 := by decide +kernel
    have m1 := op2_d (g := gMod) (int1 a1) p2 (gMod_ok pos)
    have p3 : aOp2 gPow (aK (.int 10)) (aK (.int 18)) [.d (.scr ns), .d (.int k), .d (.int c), .no] = .ok (.d (.int (10 ^ 18))) [.d (.scr ns), .d (.int k), .d (.int c), .no] := op2_d (x := .int 10) (y := .int 18) rfl rfl (gPow_ok (j := 18) (big64 (by decide)) (by decide))
    have g1 := op2_d (g := gGe) (v := .d (.bl (decide ((10 ^ 18 : Int) ≤ ab)))) a1 p3 rfl
    have b1 : aCall gInt (aCons (aOp2 gGe (aCall gAbs (aCons (aVar 2) aNil)) (aOp2 gPow (aK (.int 10)) (aK (.int 18)))) aNil) [.d (.scr ns), .d (.int k), .d (.int c), .no] = .ok (.d (.int (if decide ((10 ^ 18 : Int) ≤ ab) = true then 1 else 0))) [.d (.scr ns), .d (.int k), .d (.int c), .no] := by
      simp only [aCall, aCons, g1, aNil, Res.bind_ok, valL, E.val, gInt, Option.bind_some, eInt]
    refine ⟨_, op2_d m1 b1 (gMul_ok ?_ ?_)⟩
    · have h1 := Int.emod_nonneg ab (show ((10 : Int) ^ 60) ^ 5 ≠ 0 by omega)
      have h2 := Int.emod_lt_of_pos ab pos
      have h3 : ((10 : Int) ^ 60) ^ 5 = ((((10 ^ 60) ^ 5 : Nat)) : Int) := by decide +kernel
      have h4 : (10 ^ 60) ^ 5 < 2 ^ 2000 := by decide +kernel
      omega
    · split <;> exact big64 (by decide)
  refine ⟨jar m ((c % 2305843009213693951 * 70843 + 8521 * k * k + 41) % 2305843009213693921) 0, ?_, ⟨_, _, _, rfl, Int.emod_nonneg _ (by decide), Int.emod_lt_of_pos _ (by decide), by decide, by decide⟩⟩
  refine (run_fr (ρ1 := [.d (.scr ns), .d (.int k), .d (.int c), .d (.int m)]) rfl ?_).trans rfl
  unfold b__law_jar
  show sSeq _ _ [.d (.scr ns), .d (.int k), .no, .no] = _
  rw [seq_nx (ρ1 := [.d (.scr ns), .d (.int k), .d (.int c), .no]) (set_d hc (by simp)), seq_nx (ρ1 := [.d (.scr ns), .d (.int k), .d (.int c), .d (.int m)]) (set_d hm (by simp))]
  refine ret_of ?_
  have kk : (8521 * k).natAbs < 2 ^ 64 := by omega
  have c0 := Int.emod_nonneg c (show (2305843009213693951 : Int) ≠ 0 by decide)
  have c1 := Int.emod_lt_of_pos c (show (0 : Int) < 2305843009213693951 by decide)
  have e1 : aOp2 gMod (aCall gInt (aCons (aVar 2) aNil)) (aK (.int 2305843009213693951)) [.d (.scr ns), .d (.int k), .d (.int c), .d (.int m)] = .ok (.d (.int (c % 2305843009213693951))) [.d (.scr ns), .d (.int k), .d (.int c), .d (.int m)] := op2_d (y := .int 2305843009213693951) (int1 (var_d rfl)) rfl (gMod_ok (by decide))
  have e2 := op2_d (g := gMul) (v := .d (.int (c % 2305843009213693951 * 70843))) (fb := aK (.int 70843)) e1 rfl (gMul_ok (big64 (by omega)) (big64 (by decide)))
  have e3 : aOp2 gMul (aK (.int 8521)) (aVar 1) [.d (.scr ns), .d (.int k), .d (.int c), .d (.int m)] = .ok (.d (.int (8521 * k))) [.d (.scr ns), .d (.int k), .d (.int c), .d (.int m)] := op2_d (x := .int 8521) (y := .int k) rfl rfl (gMul_ok (big64 (by decide)) (big64 (by omega)))
  have e4 := op2_d (g := gMul) (v := .d (.int (8521 * k * k))) (fb := aVar 1) (y := .int k) e3 rfl (gMul_ok (big64 kk) (big64 (by omega)))
  have e5 := op2_d (g := gAdd) (v := .d (.int (c % 2305843009213693951 * 70843 + 8521 * k * k))) e2 e4 rfl
  have e6 := op2_d (g := gAdd) (v := .d (.int (c % 2305843009213693951 * 70843 + 8521 * k * k + 41))) (fb := aK (.int 41)) e5 rfl rfl
  have e7 := op2_d (g := gMod) (v := .d (.int ((c % 2305843009213693951 * 70843 + 8521 * k * k + 41) % 2305843009213693921))) (fb := aK (.int 2305843009213693921)) (int1 e6) rfl (gMod_ok (by decide))
  have s3 : 3 ≤ sizeLine := small_line (by decide)
  have v3 : aVar 3 [.d (.scr ns), .d (.int k), .d (.int c), .d (.int m)] = .ok (.d (.int m)) [.d (.scr ns), .d (.int k), .d (.int c), .d (.int m)] := rfl
  simp only [aLst, aCons, v3, e7, Res.bind_ok, aK, aNil, keepL, keep1, List.length_cons, List.length_nil]
  rw [if_pos (by omega)]
  rfl
end L2.AL.SH
namespace L2.AL.SH
open PySem PySem.Spec PyProof.Rows L2 L2.AL TL
def small : Str := Str.ofString "abcdefghijklmnopqrstuvwxyz"
theorem tl_small : tl small = lets := tl_lets
theorem len_small : small.length = 26 := len_lets
theorem letters_of : ∀ {ys : List D}, (∀ y ∈ ys, ∃ c, c ∈ lets ∧ y = .str ⟨#[c]⟩) → ∃ cs : List Nat, ys = cs.map (fun c => .str ⟨#[c]⟩) ∧ ∀ c ∈ cs, c ∈ lets
  | [], _ => ⟨[], rfl, by simp⟩
  | y :: ys, h => by
    obtain ⟨c, hc, rfl⟩ := h y List.mem_cons_self
    obtain ⟨cs, rfl, hcs⟩ := letters_of fun z hz => h z (List.mem_cons_of_mem _ hz)
    exact ⟨c :: cs, rfl, fun x hx => by
      rcases List.mem_cons.mp hx with rfl | hx
      · exact hc
      · exact hcs x hx⟩
theorem joinL_nil : ∀ cs : List Nat, joinL [] (cs.map fun c => [c]) = cs
  | [] => rfl
  | [c] => rfl
  | c :: d :: r => by
    have := joinL_nil (d :: r)
    simp only [List.map_cons, joinL, List.nil_append] at this ⊢
    rw [this]; rfl
theorem tl_stem (cs : List Nat) : tl (Txt.join "" (cs.map fun c => (⟨#[c]⟩ : Str))) = cs := by
  rw [join_eq, tl_join, show tl (Str.ofString "") = [] by decide +kernel, List.map_map]
  exact joinL_nil cs
theorem rangeD_len (lo : Int) (n : Nat) : (rangeD lo n).length = n := by unfold rangeD; simp
theorem rangeD_get {lo : Int} {n i : Nat} {x : D} (h : (rangeD lo n)[i]? = some x) : x = .int (lo + i) ∧ i < n := by
  unfold rangeD at h
  obtain ⟨j, h1, rfl⟩ := map_get h
  have hj : i < n := by
    have := (List.getElem?_eq_some_iff.mp h1).1
    simpa using this
  rw [List.getElem?_range hj] at h1
  cases h1
  exact ⟨rfl, hj⟩
/-- a call that changes the slot 0's object: f(jar, x) -/
theorem fn_jar {F : List S → Res E} {fx : List S → Res E} {ρ : List S} {o o' : O} {x : E} {s s' : S} {y : D} (h0 : ρ[0]? = some (.own o)) (hx : fx ρ = .ok x ρ) (hs : (∃ d, x = .d d ∧ s = .d d) ∨ (∃ p, x = .fr p ∧ s = .own p)) (hF : F [.own o, s] = .ok (.d y) [.own o', s']) :
    aFn F (aCons (aVar 0) (aCons fx aNil)) ρ = .ok (.d y) (ρ.set 0 (.own o')) := by
  rcases hs with ⟨d, rfl, rfl⟩ | ⟨p, rfl, rfl⟩ <;>
    simp [aFn, aCons, aVar, h0, hx, aNil, appFn, argS, slIx, hF, wb]
theorem fn_jar_sl {F : List S → Res E} {ρ : List S} {o o' p : O} {i : Nat} {y : D} (hi : i ≠ 0) (h0 : ρ[0]? = some (.own o)) (hx : ρ[i]? = some (.own p)) (hF : F [.own o, .own p] = .ok (.d y) [.own o', .own p]) :
    aFn F (aCons (aVar 0) (aCons (aVar i) aNil)) ρ = .ok (.d y) (ρ.set 0 (.own o')) := by
  have e : (ρ.set 0 (.own o')).set i (.own p) = ρ.set 0 (.own o') := by
    refine List.ext_getElem? fun j => ?_
    by_cases hj : i = j
    · subst hj
      have hl : i < (ρ.set 0 (S.own o')).length := by rw [List.length_set]; exact (List.getElem?_eq_some_iff.mp hx).1
      rw [List.getElem?_set_self hl, List.getElem?_set_ne (Ne.symm hi), hx]
    · rw [List.getElem?_set_ne hj]
  have hd : (0 : Nat) ≠ i := Ne.symm hi
  simp [aFn, aCons, aVar, h0, hx, aNil, appFn, argS, slIx, hF, wb, e, hd]
theorem cut_lo {z : Str} {k : Int} (h0 : 0 ≤ k) (h1 : k ≤ z.length) : tl (cutS z none (some k)) = (tl z).take k.toNat := by
  obtain ⟨n, rfl⟩ := Int.eq_ofNat_of_zero_le h0
  unfold cutS
  rw [HT.sIx_none, HT.sIx_nat]
  simp only [tl, List.drop_zero, Nat.sub_zero, Int.toNat_natCast]
  rw [Nat.min_eq_left (by omega)]
theorem cut_hi {z : Str} {k : Int} (h0 : 0 ≤ k) (h1 : k ≤ z.length) : tl (cutS z (some k) none) = (tl z).drop k.toNat := by
  obtain ⟨n, rfl⟩ := Int.eq_ofNat_of_zero_le h0
  unfold cutS
  rw [HT.sIx_none, HT.sIx_nat]
  simp only [tl, Int.toNat_natCast]
  rw [Nat.min_eq_left (by omega)]
  have : z.cps.toList.length = z.length := by simp [Str.length]
  rw [List.take_of_length_le (by rw [List.length_drop]; omega)]
theorem set0 {o o' : O} {r : List S} : (S.own o :: r).set 0 (.own o') = .own o' :: r := rfl
theorem names_law {T : Nat} {o : O} {n : Int} (h : JarOk T o) (hT : T ≤ 90000) (h1 : 1 ≤ n) (h5 : n ≤ 5) :
    ∃ nms : List Str, ∃ o', m__law_names [.own o, .d (.int n)] = .ok (.fr (.lst (nms.map .str))) [.own o', .d (.int n)] ∧ nms.length = n.toNat ∧ (∀ z ∈ nms, nameB z = true) ∧ JarOk (T + 20) o' := by
  have s5 : 5 ≤ sizeLine := small_line (by decide)
  -- how many letters
  obtain ⟨x0, o1, e1, hx0, ok1⟩ := of_lst (xs := [.int 0, .int 0, .int 1, .int 3, .int 7]) h (by omega) (by simp) (by simp) (.own (.lst [.int 0, .int 0, .int 1, .int 3, .int 7])) (.inl rfl)
  obtain ⟨j, rfl, hj0, hj7⟩ : ∃ j : Int, x0 = .int j ∧ 0 ≤ j ∧ j ≤ 7 := by
    simp at hx0
    rcases hx0 with rfl | rfl | rfl | rfl <;> exact ⟨_, rfl, by decide, by decide⟩
  -- the stem
  have hit : aRng1 (aCons (aFn m__law_of (aCons (aVar 0) (aCons (aLst (aCons (aK (.int 0)) (aCons (aK (.int 0)) (aCons (aK (.int 1)) (aCons (aK (.int 3)) (aCons (aK (.int 7)) aNil)))))) aNil))) aNil) [.own o, .d (.int n), .d (.str small), .no, .no, .no, .no, .no] = .ok (rangeD 0 j.toNat) [.own o1, .d (.int n), .d (.str small), .no, .no, .no, .no, .no] := by
    have l5 : aLst (aCons (aK (.int 0)) (aCons (aK (.int 0)) (aCons (aK (.int 1)) (aCons (aK (.int 3)) (aCons (aK (.int 7)) aNil))))) [.own o, .d (.int n), .d (.str small), .no, .no, .no, .no, .no] = .ok (.fr (.lst [.int 0, .int 0, .int 1, .int 3, .int 7])) [.own o, .d (.int n), .d (.str small), .no, .no, .no, .no, .no] := by
      simp [aLst, aCons, aK, aNil, keepL, keep1, s5]
    have q := fn_jar (o := o) rfl l5 (.inr ⟨_, rfl, rfl⟩) e1
    unfold aRng1
    rw [aCons, q]
    simp only [Res.bind_ok, aNil]
    rw [if_pos ⟨by omega, by omega⟩, set0]
  obtain ⟨ys, ρ', c1, cl, cR, o2, rfl, ok2⟩ := aLc_ex (f := aFn m__law_of (aCons (aVar 0) (aCons (aVar 2) aNil))) (t := .nm 4) (vs := [4]) (I := fun i ρ => ∃ o', ρ = [.own o', .d (.int n), .d (.str small), .no, .no, .no, .no, .no] ∧ JarOk (T + 1 + i) o') (R := fun y => ∃ c, c ∈ lets ∧ y = .str ⟨#[c]⟩) hit rfl (by
      rintro i x ρ hx ⟨o', rfl, ok⟩
      obtain ⟨rfl, hi⟩ := rangeD_get hx
      obtain ⟨c, o2, e2, hc, ok2⟩ := of_str (z := small) ok (by omega) (by rw [len_small]; decide) (by rw [len_small]; decide) _ rfl
      rw [tl_small] at hc
      have q := fn_jar (o := o') (fx := aVar 2) (ρ := [.own o', .d (.int n), .d (.str small), .no, .d (.int (0 + i)), .no, .no, .no]) rfl rfl (.inl ⟨_, rfl, rfl⟩) e2
      exact ⟨_, .d (.str ⟨#[c]⟩), _, _, _, rfl, q, rfl, ⟨c, hc, rfl⟩, o2, rfl, ok2⟩) ⟨o1, rfl, ok1⟩ (by rw [rangeD_len]; exact small_line (by omega))
  rw [rangeD_len] at cl ok2
  obtain ⟨cs, rfl, hcs⟩ := letters_of cR
  rw [List.length_map] at cl
  obtain ⟨stem, hstem⟩ : ∃ stem : Str, stem = Txt.join "" (cs.map fun c => (⟨#[c]⟩ : Str)) := ⟨_, rfl⟩
  have tstem : tl stem = cs := by rw [hstem]; exact tl_stem cs
  have lstem : stem.length = cs.length := by rw [len_tl, tstem]
  have hjoin : gJoin (.str "") [.lst (cs.map fun c => .str ⟨#[c]⟩)] = some (eStr stem) := by
    simp only [gJoin, strs_of (fun c => (⟨#[c]⟩ : Str)) cs, Option.bind_some]
    rw [if_pos, hstem]
    have := sum_le Str.length 1 (cs.map fun c => (⟨#[c]⟩ : Str)) (by
      intro x hx
      obtain ⟨c, _, rfl⟩ := List.mem_map.mp hx
      exact Nat.le_refl 1)
    have e0 : (Str.ofString "").length = 0 := by decide +kernel
    rw [List.length_map] at this
    rw [e0, List.length_map]
    have : ((cs.map fun c => (⟨#[c]⟩ : Str)).map fun x => x.length).sum ≤ cs.length * 1 := this
    omega
  have s3 : aMeth "str" gJoin (aK (.str "")) (aCons (aLc [4] (aRng1 (aCons (aFn m__law_of (aCons (aVar 0) (aCons (aLst (aCons (aK (.int 0)) (aCons (aK (.int 0)) (aCons (aK (.int 1)) (aCons (aK (.int 3)) (aCons (aK (.int 7)) aNil)))))) aNil))) aNil)) (.nm 4) aYes (aFn m__law_of (aCons (aVar 0) (aCons (aVar 2) aNil)))) aNil) [.own o, .d (.int n), .d (.str small), .no, .no, .no, .no, .no] = .ok (.d (.str stem)) [.own o2, .d (.int n), .d (.str small), .no, .no, .no, .no, .no] := by
    simp [aMeth, aK, E.val, D.tyn, aCons, c1, aNil, valL, O.toD, hjoin, backS]
  -- the place and the letter
  obtain ⟨spot, o3, e3, sp0, sp1, ok3⟩ := take_spec (m := (stem.length : Int) + 1) ok2 (by omega) (by omega) (by omega)
  obtain ⟨first, o4, e4, f0, f1, ok4⟩ := take_spec (m := 26) ok3 (by omega) (by decide) (by decide)
  have ls : stem.length ≤ sizeLine := small_line (by omega)
  have q3 : aFn m__law_take (aCons (aVar 0) (aCons (aOp2 gAdd (aCall gLen (aCons (aVar 3) aNil)) (aK (.int 1))) aNil)) [.own o2, .d (.int n), .d (.str small), .d (.str stem), .no, .no, .no, .no] = .ok (.d (.int spot)) [.own o3, .d (.int n), .d (.str small), .d (.str stem), .no, .no, .no, .no] := by
    have hlen : aCall gLen (aCons (aVar 3) aNil) [.own o2, .d (.int n), .d (.str small), .d (.str stem), .no, .no, .no, .no] = .ok (.d (.int stem.length)) [.own o2, .d (.int n), .d (.str small), .d (.str stem), .no, .no, .no, .no] := by
      simp only [aCall, aCons, aNil]
      simp [aVar, valL, E.val, gLen, ls, eInt]
    exact fn_jar rfl (op2_d (g := gAdd) (v := .d (.int (stem.length + 1))) (fb := aK (.int 1)) hlen rfl rfl) (.inl ⟨_, rfl, rfl⟩) e3
  have q4 : aFn m__law_take (aCons (aVar 0) (aCons (aK (.int 26)) aNil)) [.own o3, .d (.int n), .d (.str small), .d (.str stem), .no, .no, .no, .no] = .ok (.d (.int first)) [.own o4, .d (.int n), .d (.str small), .d (.str stem), .no, .no, .no, .no] :=
    fn_jar (fx := aK (.int 26)) rfl rfl (.inl ⟨_, rfl, rfl⟩) e4
  -- the names
  obtain ⟨nm, hnm⟩ : ∃ nm : Nat → Str, ∀ k : Nat, ∃ c, nm k = cutS stem none (some spot) ++ ⟨#[c]⟩ ++ cutS stem (some spot) none ∧ c ∈ lets ∧ gIx (.str small) (.int ((first + 3 * (k : Int)) % 26)) = some (.d (.str ⟨#[c]⟩)) := by
    have : ∀ k : Nat, ∃ z : Str, ∃ c, z = cutS stem none (some spot) ++ ⟨#[c]⟩ ++ cutS stem (some spot) none ∧ c ∈ lets ∧ gIx (.str small) (.int ((first + 3 * (k : Int)) % 26)) = some (.d (.str ⟨#[c]⟩)) := fun k => by
      have r0 := Int.emod_nonneg (first + 3 * (k : Int)) (show (26 : Int) ≠ 0 by decide)
      have r1 := Int.emod_lt_of_pos (first + 3 * (k : Int)) (show (0 : Int) < 26 by decide)
      have lsm : small.cps.toList.length = 26 := by have := len_small; simpa [Str.length] using this
      have hr : ((first + 3 * (k : Int)) % 26).toNat < small.cps.toList.length := by omega
      refine ⟨_, small.cps.toList[((first + 3 * (k : Int)) % 26).toNat], rfl, ?_, ?_⟩
      · have : small.cps.toList[((first + 3 * (k : Int)) % 26).toNat] ∈ tl small := List.getElem_mem _
        rw [tl_small] at this
        exact this
      · simp only [gIx, atI, ixN]
        rw [if_pos (by rw [len_small]; exact small_line (by decide)), if_pos r0, if_pos (by omega)]
        simp only [Option.bind_some, List.getElem?_eq_getElem hr, Option.map_some]
    exact ⟨fun k => Classical.choose (this k), fun k => Classical.choose_spec (this k)⟩
  have hname : ∀ k, nameB (nm k) = true := fun k => by
    obtain ⟨c, e, hc, _⟩ := hnm k
    have t : tl (nm k) = cs.take spot.toNat ++ [c] ++ cs.drop spot.toNat := by
      rw [e, tl_append, tl_append, cut_lo sp0 (by omega), cut_hi sp0 (by omega), tstem]
    have l : (nm k).length = cs.length + 1 := by
      rw [len_tl, t]
      simp only [List.length_append, List.length_take, List.length_drop, List.length_cons, List.length_nil]
      omega
    unfold nameB
    rw [decide_eq_true (show 1 ≤ (nm k).length ∧ (nm k).length ≤ 8 by omega), Bool.true_and, List.all_eq_true]
    intro d hd
    have hd : d ∈ tl (nm k) := hd
    rw [t] at hd
    simp only [List.mem_append, List.mem_singleton] at hd
    refine decide_eq_true ?_
    rcases hd with (hd | rfl) | hd
    · exact hcs d (List.mem_of_mem_take hd)
    · exact hc
    · exact hcs d (List.mem_of_mem_drop hd)
  have comp : aLc [7] (aRng1 (aCons (aVar 1) aNil)) (.nm 7) aYes (aOp2 gAdd (aOp2 gAdd (aSlice (aVar 3) aPartN (aPart (aVar 5))) (aOp2 gIx (aVar 2) (aOp2 gMod (aCall gInt (aCons (aOp2 gAdd (aVar 6) (aOp2 gMul (aK (.int 3)) (aVar 7))) aNil)) (aK (.int 26))))) (aSlice (aVar 3) (aPart (aVar 5)) aPartN)) [.own o4, .d (.int n), .d (.str small), .d (.str stem), .no, .d (.int spot), .d (.int first), .no] = .ok (.fr (.lst ((List.range n.toNat).map fun k => .str (nm k)))) [.own o4, .d (.int n), .d (.str small), .d (.str stem), .no, .d (.int spot), .d (.int first), .no] := by
    refine aLc_all (fun k : Nat => D.int (0 + (k : Int))) (fun k => D.str (nm k)) (List.range n.toNat) (ρ1 := [.own o4, .d (.int n), .d (.str small), .d (.str stem), .no, .d (.int spot), .d (.int first), .no]) ?_ rfl (fun k hk => ?_) (by rw [List.length_range]; exact small_line (by omega))
    · unfold aRng1
      simp only [aCons, aVar, List.getElem?_cons_succ, List.getElem?_cons_zero, Res.bind_ok, aNil]
      rw [if_pos ⟨by omega, by omega⟩]
      rfl
    · obtain ⟨c, e, hc, hi⟩ := hnm k
      have hk : k < n.toNat := List.mem_range.mp hk
      refine ⟨[.own o4, .d (.int n), .d (.str small), .d (.str stem), .no, .d (.int spot), .d (.int first), .d (.int (0 + (k : Int)))], .d (.str (nm k)), rfl, ?_, rfl, rfl⟩
      rw [Int.zero_add]
      have i1 : aOp2 gMul (aK (.int 3)) (aVar 7) [.own o4, .d (.int n), .d (.str small), .d (.str stem), .no, .d (.int spot), .d (.int first), .d (.int (k : Int))] = .ok (.d (.int (3 * k))) [.own o4, .d (.int n), .d (.str small), .d (.str stem), .no, .d (.int spot), .d (.int first), .d (.int (k : Int))] := op2_d (x := .int 3) (y := .int k) rfl rfl (gMul_ok (big64 (by decide)) (big64 (by omega)))
      have i2 := op2_d (g := gAdd) (v := .d (.int (first + 3 * k))) (fa := aVar 6) (x := .int first) rfl i1 rfl
      have i3 := op2_d (g := gMod) (v := .d (.int ((first + 3 * k) % 26))) (fb := aK (.int 26)) (int1 i2) rfl (gMod_ok (by decide))
      have i4 := op2_d (g := gIx) (fa := aVar 2) (x := .str small) rfl i3 hi
      have c1 : aSlice (aVar 3) aPartN (aPart (aVar 5)) [.own o4, .d (.int n), .d (.str small), .d (.str stem), .no, .d (.int spot), .d (.int first), .d (.int (k : Int))] = .ok (.d (.str (cutS stem none (some spot)))) [.own o4, .d (.int n), .d (.str small), .d (.str stem), .no, .d (.int spot), .d (.int first), .d (.int (k : Int))] := by
        simp [runF, outF, sSeq, sIf, sRet, sRetN, sSet1, sSet, sTg, sExpr, sNx, aVar, aK, aCons, aNil, aOp2, app2, aCall, valL, E.val, aT, aNotT, aAndT, aOrT, aAndV, aOrV, aNotV, aIf, aChain, aTup, aLst, keepL, keep1, freeze, toSL, toS, setL, aFn, appFn, argS, slIx, wb, aIter, D.items?, aMeth, D.tyn, aSlice, aPart, aPartN, gIsi, D.isi, gIs, gIsn, D.is?, D.seq?, aStar, O.toD, eBl, eInt, eStr, tset, tsetL, wipeS, backS, nOwn, D.imm, gSl, ls]
      have c2 : aSlice (aVar 3) (aPart (aVar 5)) aPartN [.own o4, .d (.int n), .d (.str small), .d (.str stem), .no, .d (.int spot), .d (.int first), .d (.int (k : Int))] = .ok (.d (.str (cutS stem (some spot) none))) [.own o4, .d (.int n), .d (.str small), .d (.str stem), .no, .d (.int spot), .d (.int first), .d (.int (k : Int))] := by
        simp [runF, outF, sSeq, sIf, sRet, sRetN, sSet1, sSet, sTg, sExpr, sNx, aVar, aK, aCons, aNil, aOp2, app2, aCall, valL, E.val, aT, aNotT, aAndT, aOrT, aAndV, aOrV, aNotV, aIf, aChain, aTup, aLst, keepL, keep1, freeze, toSL, toS, setL, aFn, appFn, argS, slIx, wb, aIter, D.items?, aMeth, D.tyn, aSlice, aPart, aPartN, gIsi, D.isi, gIs, gIsn, D.is?, D.seq?, aStar, O.toD, eBl, eInt, eStr, tset, tsetL, wipeS, backS, nOwn, D.imm, gSl, ls]
      have l1 : (cutS stem none (some spot)).length ≤ 8 := by
        rw [len_tl, cut_lo sp0 (by omega), tstem, List.length_take]; omega
      have l2 : (cutS stem (some spot) none).length ≤ 8 := by
        rw [len_tl, cut_hi sp0 (by omega), tstem, List.length_drop]; omega
      have l3 : (⟨#[c]⟩ : Str).length = 1 := rfl
      have a1 := op2_d (g := gAdd) (v := .d (.str (cutS stem none (some spot) ++ ⟨#[c]⟩))) c1 i4 (by
        simp only [gAdd]
        rw [if_pos (small_line (by omega))])
      have l4 : (cutS stem none (some spot) ++ ⟨#[c]⟩).length ≤ 9 := by
        rw [len_tl, tl_append, List.length_append, ← len_tl, ← len_tl]; omega
      rw [e]
      exact op2_d a1 c2 (by
        simp only [gAdd]
        rw [if_pos (small_line (by omega))])
  refine ⟨(List.range n.toNat).map nm, o4, ?_, by simp, fun z hz => ?_, ok4.mono (by omega)⟩
  · refine (run_fr (ρ1 := [.own o4, .d (.int n), .d (.str small), .d (.str stem), .no, .d (.int spot), .d (.int first), .no]) rfl ?_).trans (by rw [List.map_map]; rfl)
    unfold b__law_names
    rw [seq_nx (ρ1 := [.own o, .d (.int n), .d (.str small), .no, .no, .no, .no, .no]) (set_d (x := .str small) (ρ1 := [.own o, .d (.int n), .no, .no, .no, .no, .no, .no]) rfl (by simp)),
      seq_nx (ρ1 := [.own o2, .d (.int n), .d (.str small), .d (.str stem), .no, .no, .no, .no]) (set_d s3 (by simp)),
      seq_nx (ρ1 := [.own o4, .d (.int n), .d (.str small), .d (.str stem), .no, .d (.int spot), .d (.int first), .no])]
    · exact ret_of comp
    · simp [sSet, aCons, q3, q4, aNil, toSL, toS, setL]
  · obtain ⟨k, _, rfl⟩ := List.mem_map.mp hz
    exact hname k
end L2.AL.SH
namespace L2.AL.SH
open PySem PySem.Spec PyProof.Rows L2 L2.AL TL
/-! the story: it comes to an end, and what it gives -/
theorem tk_ok {T : Nat} {o : O} {m : Int} (h : JarOk T o) (hT : T ≤ 100000) (hm : 0 < m) (hm2 : m < 2 ^ 70) : ∃ r o', tk m__law_take o m = some (r, o') ∧ 0 ≤ r ∧ r < m ∧ JarOk (T + 1) o' := by
  obtain ⟨r, o', e, h0, h1, ok⟩ := take_spec h hT hm hm2
  exact ⟨r, o', by unfold tk; rw [e], h0, h1, ok⟩
theorem pk_ok {α : Type} {T : Nat} {o : O} {xs : List α} (h : JarOk T o) (hT : T ≤ 100000) (hne : xs ≠ []) (hl : xs.length ≤ 1000) : ∃ x o', pk m__law_take o xs = some (x, o') ∧ x ∈ xs ∧ JarOk (T + 1) o' := by
  have pos : 0 < xs.length := List.length_pos_iff.mpr hne
  obtain ⟨r, o', e, h0, h1, ok⟩ := tk_ok (m := (xs.length : Int)) h hT (by omega) (by omega)
  have hr : r.toNat < xs.length := by omega
  refine ⟨xs[r.toNat], o', ?_, List.getElem_mem _, ok⟩
  unfold pk
  rw [e]
  simp [h0, h1, hr]
def answersT : Srt → List Str
  | .put => ["done", "refused", "again"] | .drop => ["done", "none", "again"] | .look => ["there", "none", "again"]
theorem answerT_mem (s : Srt) (u : Bool) : answerT s u ∈ answersT s := by
  cases s <;> cases u <;> simp [answerT, answersT]
theorem again_mem (s : Srt) : Str.ofString "again" ∈ answersT s := by cases s <;> simp [answersT]
/-- what is true of a deed -/
structure DeedOk (ks : List Str) (clock : Int) (d : Deed) : Prop where
  b1 : 1 ≤ d.b
  bc : d.b ≤ clock
  ends : ∀ t, d.e = some t → d.b < t ∧ t ≤ clock ∧ d.mo ≠ none
  key : d.key ∈ ks
  said : ∀ m t z u, d.mo = some (m, t, z, u) → z ∈ answersT d.sort
  mo : ∀ m t z u, d.mo = some (m, t, z, u) → d.b ≤ m ∧ m ≤ clock
structure StOk (ks : List Str) (many : Int) (T i : Nat) (s : SSt) : Prop where
  jar : JarOk (T + 4 * i) s.jar
  few : (s.deeds.length : Int) ≤ many
  deed : ∀ d ∈ s.deeds, DeedOk ks s.clock d
  begins : (s.deeds.map (·.b)).Pairwise (· < ·)
  times : (s.deeds.map (·.b) ++ s.deeds.filterMap (·.e)).Nodup
  gnd : s.going.Nodup
  go : ∀ n ∈ s.going, ∃ d, s.deeds[n]? = some d ∧ d.e = none
  gfew : s.going.length ≤ s.deeds.length
  tab : s.table.length ≤ i
  one : s.deeds = [] → i = 0
  pos : 0 ≤ s.clock
variable {ks : List Str} {many : Int} {T i : Nat} {s : SSt}
theorem DeedOk.up {c c' : Int} {d : Deed} (h : DeedOk ks c d) (le : c ≤ c') : DeedOk ks c' d :=
  ⟨h.b1, Int.le_trans h.bc le, fun t e => ⟨(h.ends t e).1, Int.le_trans (h.ends t e).2.1 le, (h.ends t e).2.2⟩, h.key, h.said, fun m t z u e => ⟨(h.mo m t z u e).1, Int.le_trans (h.mo m t z u e).2 le⟩⟩
theorem StOk.le {t : Int} (h : StOk ks many T i s) (ht : t ∈ s.deeds.map (·.b) ++ s.deeds.filterMap (·.e)) : t ≤ s.clock := by
  rcases List.mem_append.mp ht with ht | ht
  · obtain ⟨d, hd, rfl⟩ := List.mem_map.mp ht
    exact (h.deed d hd).bc
  · obtain ⟨d, hd, e⟩ := List.mem_filterMap.mp ht
    exact ((h.deed d hd).ends t e).2.1
theorem dts_mem {x : Int} (h : x ∈ dts) : 0 ≤ x := by simp [dts] at h; omega
theorem putT_len {table : List (Str × Bool)} {key : Str} {u : Bool} : (putT table key u).length ≤ table.length + 1 := by
  unfold putT
  split
  · rw [List.length_map]; omega
  · rw [List.length_append, List.length_singleton]; omega
/-- the next call begins -/
theorem begin_ok {j : Nat} (hk : ks ≠ []) (hkl : ks.length ≤ 1000) (hm : many ≤ 100) (h : StOk ks many T i s) (hT : T + 4 * i ≤ 90000) (hl : (s.deeds.length : Int) < many) (o : O) (ho : JarOk (T + 4 * i + j) o) (hj : j ≤ 1) :
    ∃ s', beginS m__law_take ks { s with jar := o } = some s' ∧ StOk ks many T (i + 1) s' := by
  obtain ⟨x, o1, e1, x0, ok1⟩ := pk_ok (xs := dts) ho (by omega) (by simp [dts]) (by simp [dts])
  obtain ⟨so, o2, e2, _, ok2⟩ := pk_ok (xs := srts) ok1 (by omega) (by simp [srts]) (by simp [srts])
  obtain ⟨k, o3, e3, hk3, ok3⟩ := pk_ok (xs := ks) ok2 (by omega) hk hkl
  have x0 := dts_mem x0
  have gf := h.gfew
  refine ⟨⟨o3, s.deeds ++ [⟨s.clock + 1 + x, none, k, so, none⟩], s.going ++ [s.deeds.length], s.table, s.clock + 1 + x⟩, ?_, ?_⟩
  · unfold beginS
    rw [if_pos ⟨by show s.deeds.length < 1000; omega, by show s.going.length < 1000; omega⟩]
    simp only [e1, e2, e3, Option.bind_some]
  · have pos := h.pos
    have dle : ∀ {t : Int}, t ∈ s.deeds.map (·.b) ++ s.deeds.filterMap (·.e) → t ≤ s.clock := fun ht => h.le ht
    refine ⟨ok3.mono (by omega), by simp; omega, ?_, ?_, ?_, ?_, ?_, by simp; omega, by have := h.tab; show s.table.length ≤ i + 1; omega, by simp, by show 0 ≤ s.clock + 1 + x; omega⟩
    · intro d hd
      rcases List.mem_append.mp hd with hd | hd
      · exact (h.deed d hd).up (by show s.clock ≤ s.clock + 1 + x; omega)
      · simp at hd
        subst hd
        exact ⟨by show 1 ≤ s.clock + 1 + x; omega, Int.le_refl _, fun t e => (by cases e), hk3, fun m t z u e => (by cases e), fun m t z u e => (by cases e)⟩
    · simp only [List.map_append, List.map_cons, List.map_nil]
      refine List.pairwise_append.mpr ⟨h.begins, by simp, fun a ha b hb => ?_⟩
      simp at hb
      have := dle (List.mem_append_left _ ha)
      omega
    · simp only [List.map_append, List.map_cons, List.map_nil, List.filterMap_append]
      have hh := h.times
      have nn : s.clock + 1 + x ∉ s.deeds.map (·.b) ++ s.deeds.filterMap (·.e) := fun z => by have := dle z; omega
      simp only [List.filterMap_cons, List.filterMap_nil, List.append_nil]
      rw [List.nodup_append] at hh ⊢
      simp only [List.mem_append, not_or] at nn
      refine ⟨List.nodup_append.mpr ⟨hh.1, by simp, fun a ha b hb => by simp at hb; subst hb; exact fun z => nn.1 (z ▸ ha)⟩, hh.2.1, fun a ha b hb => ?_⟩
      rcases List.mem_append.mp ha with ha | ha
      · exact hh.2.2 a ha b hb
      · simp at ha; subst ha; exact fun z => nn.2 (z ▸ hb)
    · refine List.nodup_append.mpr ⟨h.gnd, by simp, fun a ha b hb => ?_⟩
      simp at hb
      obtain ⟨d, hd, _⟩ := h.go a ha
      have := (List.getElem?_eq_some_iff.mp hd).1
      omega
    · intro n hn
      rcases List.mem_append.mp hn with hn | hn
      · obtain ⟨d, hd, he⟩ := h.go n hn
        exact ⟨d, getElem?_snoc_of hd, he⟩
      · simp at hn
        subst hn
        exact ⟨_, getElem?_snoc_last, rfl⟩
theorem map_set_same {α β : Type} (f : α → β) {l : List α} {n : Nat} {x y : α} (h : l[n]? = some x) (e : f y = f x) : (l.set n y).map f = l.map f := by
  rw [List.map_set, e]
  refine List.ext_getElem? fun k => ?_
  by_cases hk : n = k
  · subst hk
    have hl := (List.getElem?_eq_some_iff.mp h).1
    rw [List.getElem?_set_self (by rw [List.length_map]; exact hl), List.getElem?_map, h]; rfl
  · rw [List.getElem?_set_ne hk]
theorem filterMap_set_same {α β : Type} (f : α → Option β) : ∀ {l : List α} {n : Nat} {x y : α}, l[n]? = some x → f y = f x → (l.set n y).filterMap f = l.filterMap f
  | [], _, _, _, h, _ => by simp at h
  | a :: l, 0, x, y, h, e => by
    simp at h; subst h
    simp only [List.set_cons_zero, List.filterMap_cons, e]
  | a :: l, n + 1, x, y, h, e => by
    have q := filterMap_set_same f (l := l) (n := n) (by simpa using h) e
    simp only [List.set_cons_succ, List.filterMap_cons, q]
theorem filterMap_set_new {α β : Type} (f : α → Option β) : ∀ {l : List α} {n : Nat} {x y : α} {t : β}, l[n]? = some x → f x = none → f y = some t → ((l.set n y).filterMap f).Perm (t :: l.filterMap f)
  | [], _, _, _, _, h, _, _ => by simp at h
  | a :: l, 0, x, y, t, h, e, e' => by
    simp at h; subst h
    simp only [List.set_cons_zero, List.filterMap_cons, e, e']
    exact List.Perm.refl _
  | a :: l, n + 1, x, y, t, h, e, e' => by
    have q := filterMap_set_new f (l := l) (n := n) (by simpa using h) e e'
    simp only [List.set_cons_succ, List.filterMap_cons]
    cases f a with
    | none => exact q
    | some b => exact (q.cons b).trans (List.Perm.swap _ _ _)
theorem mem_set_or {α : Type} {l : List α} {n : Nat} {x y : α} (h : x ∈ l.set n y) : x = y ∨ x ∈ l := by
  rcases List.mem_or_eq_of_mem_set h with h | h
  · exact .inr h
  · exact .inl h
/-- a turn on a call that goes on -/
theorem on_ok {j : Nat} (hm : many ≤ 100) (h : StOk ks many T i s) (hT : T + 4 * i ≤ 90000) (o : O) (ho : JarOk (T + 4 * i + j) o) (hj : j ≤ 1) (t : Int) (h1 : s.deeds = [] → False) (hi : i ≤ 400) :
    ∃ s', onS m__law_take t { s with jar := o } = some s' ∧ StOk ks many T (i + 1) s' := by
  unfold onS
  by_cases hg : s.going = []
  · rw [if_pos hg]
    exact ⟨_, rfl, ⟨ho.mono (by omega), h.few, h.deed, h.begins, h.times, h.gnd, h.go, h.gfew, by have := h.tab; show s.table.length ≤ i + 1; omega, fun z => (h1 z).elim, h.pos⟩⟩
  · rw [if_neg hg]
    have gl := h.gfew
    have fw := h.few
    obtain ⟨n, o1, e1, hn, ok1⟩ := pk_ok (xs := s.going) ho (by omega) hg (by omega)
    obtain ⟨d, hd, hde⟩ := h.go n hn
    have hnl := (List.getElem?_eq_some_iff.mp hd).1
    have dok := h.deed d (List.mem_of_getElem? hd)
    simp only [e1, Option.bind_some, hd]
    have pos := h.pos
    cases hmo : d.mo with
    | some m =>
      obtain ⟨x, o2, e2, x0, ok2⟩ := pk_ok (xs := dts) ok1 (by omega) (by simp [dts]) (by simp [dts])
      have x0 := dts_mem x0
      unfold endS
      simp only [e2, Option.bind_some]
      refine ⟨_, rfl, ⟨ok2.mono (by omega), by simpa using fw, ?_, ?_, ?_, h.gnd.erase _, ?_, ?_, by have := h.tab; show s.table.length ≤ i + 1; omega, fun z => by simp at z; exact (h1 z).elim, by show 0 ≤ s.clock + 1 + x; omega⟩⟩
      · intro d' hd'
        rcases mem_set_or hd' with rfl | hd'
        · refine ⟨dok.b1, by have := dok.bc; show d.b ≤ s.clock + 1 + x; omega, fun t' e => ?_, dok.key, dok.said, fun m t z u e => ⟨(dok.mo m t z u e).1, by have := (dok.mo m t z u e).2; show m ≤ s.clock + 1 + x; omega⟩⟩
          cases e
          have := dok.bc
          exact ⟨by show d.b < s.clock + 1 + x; omega, Int.le_refl _, by show d.mo ≠ none; rw [hmo]; simp⟩
        · exact (h.deed d' hd').up (by show s.clock ≤ s.clock + 1 + x; omega)
      · show ((s.deeds.set n { d with e := some (s.clock + 1 + x) }).map (·.b)).Pairwise _
        rw [map_set_same (fun d : Deed => d.b) (y := { d with e := some (s.clock + 1 + x) }) hd rfl]; exact h.begins
      · show ((s.deeds.set n { d with e := some (s.clock + 1 + x) }).map (·.b) ++ (s.deeds.set n { d with e := some (s.clock + 1 + x) }).filterMap (·.e)).Nodup
        rw [map_set_same (fun d : Deed => d.b) (y := { d with e := some (s.clock + 1 + x) }) hd rfl]
        have p := filterMap_set_new (·.e) (y := { d with e := some (s.clock + 1 + x) }) hd hde rfl
        have nn : s.clock + 1 + x ∉ s.deeds.map (·.b) ++ s.deeds.filterMap (·.e) := fun z => by have := h.le z; omega
        have p2 : (s.deeds.map (·.b) ++ (s.deeds.set n { d with e := some (s.clock + 1 + x) }).filterMap (·.e)).Perm ((s.clock + 1 + x) :: (s.deeds.map (·.b) ++ s.deeds.filterMap (·.e))) :=
          (p.append_left _).trans List.perm_middle
        exact p2.nodup_iff.mpr (List.nodup_cons.mpr ⟨nn, h.times⟩)
      · intro m' hm'
        have hm2 := List.mem_of_mem_erase hm'
        have ne : n ≠ m' := fun z => by subst z; exact (List.Nodup.not_mem_erase h.gnd) hm'
        obtain ⟨d', q1, q2⟩ := h.go m' hm2
        exact ⟨d', by rw [List.getElem?_set_ne ne]; exact q1, q2⟩
      · show (s.going.erase n).length ≤ (s.deeds.set n { d with e := some (s.clock + 1 + x) }).length
        rw [List.length_set]
        exact Nat.le_trans List.length_erase_le gl
    | none =>
      obtain ⟨r, o2, e2, r0, r1, ok2⟩ := tk_ok (m := 7) ok1 (by omega) (by decide) (by decide)
      have tl := h.tab
      unfold actS
      rw [if_pos (show s.table.length < 1000 by omega)]
      simp only [e2, Option.bind_some]
      refine ⟨_, rfl, ⟨ok2.mono (by omega), by simpa using fw, ?_, ?_, ?_, h.gnd, ?_, ?_, ?_, fun z => by simp at z; exact (h1 z).elim, h.pos⟩⟩
      · intro d' hd'
        rcases mem_set_or hd' with rfl | hd'
        · refine ⟨dok.b1, dok.bc, fun t' e => ?_, dok.key, fun m t' z u e => ?_, fun m t' z u e => ?_⟩
          · have e : d.e = some t' := e
            rw [hde] at e; cases e
          · simp only [Option.some.injEq, Prod.mk.injEq] at e
            obtain ⟨_, _, rfl, _⟩ := e
            split
            · exact answerT_mem _ _
            · exact again_mem _
          · simp only [Option.some.injEq, Prod.mk.injEq] at e
            obtain ⟨rfl, _⟩ := e
            exact ⟨dok.bc, Int.le_refl _⟩
        · exact h.deed d' hd'
      · have q := map_set_same (fun d : Deed => d.b) (y := { d with mo := some (s.clock, t, (if 0 < r then answerT d.sort (upOf s.table d.key) else "again"), (if 0 < r then behindT d.sort (upOf s.table d.key) else upOf s.table d.key)) }) hd rfl
        exact (show List.Pairwise (fun x y => x < y) (_ : List Int) from q ▸ h.begins)
      · have q := map_set_same (fun d : Deed => d.b) (y := { d with mo := some (s.clock, t, (if 0 < r then answerT d.sort (upOf s.table d.key) else "again"), (if 0 < r then behindT d.sort (upOf s.table d.key) else upOf s.table d.key)) }) hd rfl
        have q2 := filterMap_set_same (fun d : Deed => d.e) (y := { d with mo := some (s.clock, t, (if 0 < r then answerT d.sort (upOf s.table d.key) else "again"), (if 0 < r then behindT d.sort (upOf s.table d.key) else upOf s.table d.key)) }) hd rfl
        show ((_ : List Int) ++ _).Nodup
        rw [q, q2]; exact h.times
      · intro m' hm'
        obtain ⟨d', q1, q2⟩ := h.go m' hm'
        by_cases ne : n = m'
        · subst ne
          exact ⟨_, List.getElem?_set_self hnl, by rw [hd] at q1; cases q1; exact q2⟩
        · exact ⟨d', by rw [List.getElem?_set_ne ne]; exact q1, q2⟩
      · simpa using gl
      · exact Nat.le_trans putT_len (by omega)
theorem turn_ok (hk : ks ≠ []) (hkl : ks.length ≤ 1000) (hm0 : 1 ≤ many) (hm : many ≤ 100) (h : StOk ks many T i s) (hT : T + 4 * i ≤ 90000) (hi : i ≤ 400) (t : Int) : ∃ s', turnS m__law_take ks many t s = some s' ∧ StOk ks many T (i + 1) s' := by
  unfold turnS
  by_cases hl : (s.deeds.length : Int) < many
  · rw [if_pos hl]
    by_cases hg : s.going = []
    · rw [if_pos hg]
      exact begin_ok (j := 0) hk hkl hm h hT hl s.jar h.jar (by decide)
    · rw [if_neg hg]
      obtain ⟨r, o, e, _, _, ok⟩ := tk_ok (m := 3) h.jar (by omega) (by decide) (by decide)
      simp only [e, Option.bind_some]
      by_cases hr : r = 0
      · rw [if_pos hr]; exact begin_ok (j := 1) hk hkl hm h hT hl o ok (by decide)
      · rw [if_neg hr]
        refine on_ok (j := 1) hm h hT o ok (by decide) t (fun z => ?_) hi
        have := h.gfew
        rw [z] at this
        exact hg (List.eq_nil_of_length_eq_zero (by simpa using this))
  · rw [if_neg hl]
    refine on_ok (j := 0) hm h hT s.jar h.jar (by decide) t (fun z => ?_) hi
    rw [z] at hl
    simp at hl
    omega
theorem go_ok (hk : ks ≠ []) (hkl : ks.length ≤ 1000) (hm0 : 1 ≤ many) (hm : many ≤ 100) (hT : T ≤ 80000) : ∀ (ts : List Int) (i : Nat) (s : SSt), StOk ks many T i s → i + ts.length ≤ 400 → ∃ s', goS m__law_take ks many ts s = some s' ∧ StOk ks many T (i + ts.length) s'
  | [], i, s, h, _ => ⟨s, rfl, h⟩
  | t :: ts, i, s, h, hl => by
    rw [List.length_cons] at hl
    obtain ⟨s1, e1, h1⟩ := turn_ok hk hkl hm0 hm h (by omega) (by omega) t
    obtain ⟨s2, e2, h2⟩ := go_ok hk hkl hm0 hm hT ts (i + 1) s1 h1 (by omega)
    refine ⟨s2, ?_, by rw [List.length_cons]; have : i + (ts.length + 1) = i + 1 + ts.length := by omega
                       rw [this]; exact h2⟩
    rw [goS, e1]
    exact e2
/-- what the story gives -/
structure StoryOk (ks : List Str) (many : Int) (ds : List Deed) : Prop where
  ne : ds ≠ []
  few : (ds.length : Int) ≤ many
  deed : ∀ d ∈ ds, ∃ c, DeedOk ks c d
  begins : (ds.map (·.b)).Pairwise (· < ·)
  times : (ds.map (·.b) ++ ds.filterMap (·.e)).Nodup
theorem story_spec {o : O} {s1 : S} (h : JarOk T o) (hT : T ≤ 80000) (hs : keysS s1 = some ks) (hk : ks ≠ []) (hkl : ks.length ≤ 1000) (hm0 : 1 ≤ many) (hm : many ≤ 100) :
    ∃ ds o', m__law_story [.own o, s1, .d (.int many)] = .ok (.fr (.lst (ds.map fun d => .dct d.kvs))) [.own o', s1, .d (.int many)] ∧ StoryOk ks many ds ∧ JarOk (T + 1600) o' := by
  have h0 : StOk ks many T 0 ⟨o, [], [], [], 0⟩ := ⟨h, by show ((0 : Nat) : Int) ≤ many; omega, by simp, by simp, by simp, by simp, by simp, by simp, by simp, fun _ => rfl, Int.le_refl 0⟩
  have tl : (turns many).length = (4 * many).toNat := by simp [turns]
  obtain ⟨st, e, ok⟩ := go_ok hk hkl hm0 hm hT (turns many) 0 _ h0 (by omega)
  refine ⟨st.deeds, st.jar, ?_, ⟨fun z => ?_, ok.few, fun d hd => ⟨_, ok.deed d hd⟩, ok.begins, ok.times⟩, ok.jar.mono (by omega)⟩
  · refine (run_fr (ρ1 := [.own st.jar, s1, .d (.int many), .no, .no, .no, .no, .no, .no, .no, .no, .no]) rfl ?_).trans rfl
    show bStory m__law_take [.own o, s1, .d (.int many), .no, .no, .no, .no, .no, .no, .no, .no, .no] = _
    unfold bStory
    simp only [hs, e]
    rw [if_pos ⟨by omega, by omega⟩]
  · have := ok.one z
    omega
end L2.AL.SH
namespace L2.AL.SH
open PySem PySem.Spec PyProof.Rows L2 L2.AL TL
/-! records; a history of them is one -/
structure Rec where
  b : Int
  key : Str
  sort : Srt
  ea : Option (Int × Str)
def os : Option Str → D
  | none => .non
  | some z => .str z
def Rec.l (r : Rec) : List D := [.int r.b, oi (r.ea.map (·.1)), .str r.key, .str r.sort.str, os (r.ea.map (·.2))]
def Rec.d (r : Rec) : D := .tup r.l
structure RecOk (r : Rec) : Prop where
  b : 1 ≤ r.b
  key : nameB r.key = true
  ea : ∀ t z, r.ea = some (t, z) → r.b < t ∧ z ∈ answersT r.sort
theorem nameB_len {z : Str} (h : nameB z = true) : z.length ≤ 100000 := by have := (name_of h).2.1; omega
theorem ans_in {so : Srt} {z : Str} (h : z ∈ answersT so) : ∃ X, gIx c_ANSWERS (.str so.str) = some (.d X) ∧ gIn (.str z) X = some (eBl true) := by
  cases so <;> (simp only [answersT, List.mem_cons, List.not_mem_nil, or_false] at h; rcases h with rfl | rfl | rfl <;> exact ⟨_, rfl, rfl⟩)
theorem record_yes {r : Rec} (h : RecOk r) : m_is_record [.d r.d] = .ok (.d (.bl true)) [.d r.d] := by
  obtain ⟨b, k, so, ea⟩ := r
  have hb := int_yes b
  have hk := name_spec k (nameB_len h.key)
  have hkk : nameB k = true := h.key
  rw [hkk] at hk
  have hs : gNi (.str so.str) c_ANSWERS = some (eBl false) := by cases so <;> rfl
  have hlt : ¬ b < 1 := by have := h.b; simp at this; omega
  unfold m_is_record b_is_record
  cases ea with
  | none => simp [runF, outF, sSeq, sIf, sRet, sRetN, sSet1, sSet, sTg, sExpr, sNx, aVar, aK, aCons, aNil, aOp2, app2, aCall, valL, E.val, aT, aNotT, aAndT, aOrT, aAndV, aOrV, aNotV, aIf, aChain, aTup, aLst, keepL, keep1, freeze, toSL, toS, setL, aFn, appFn, argS, slIx, wb, aIter, D.items?, aMeth, D.tyn, aSlice, aPart, aPartN, gIsi, D.isi, gIs, gIsn, D.is?, D.seq?, aStar, O.toD, eBl, eInt, eStr, tset, tsetL, wipeS, backS, nOwn, D.imm, Rec.d, Rec.l, oi, os, gNe, D.eq?, gLen, c_RECORD, hb, hk, hs, gLt, hlt]
  | some p =>
    obtain ⟨t, z⟩ := p
    obtain ⟨h5, h6⟩ := h.ea t z rfl
    obtain ⟨X, hT1, hT2⟩ := ans_in h6
    have h5 : b < t := h5
    have hT1 : gIx c_ANSWERS (.str so.str) = some (.d X) := hT1
    have ht := int_yes t
    simp [runF, outF, sSeq, sIf, sRet, sRetN, sSet1, sSet, sTg, sExpr, sNx, aVar, aK, aCons, aNil, aOp2, app2, aCall, valL, E.val, aT, aNotT, aAndT, aOrT, aAndV, aOrV, aNotV, aIf, aChain, aTup, aLst, keepL, keep1, freeze, toSL, toS, setL, aFn, appFn, argS, slIx, wb, aIter, D.items?, aMeth, D.tyn, aSlice, aPart, aPartN, gIsi, D.isi, gIs, gIsn, D.is?, D.seq?, aStar, O.toD, eBl, eInt, eStr, tset, tsetL, wipeS, backS, nOwn, D.imm, Rec.d, Rec.l, oi, os, gNe, D.eq?, gLen, c_RECORD, hb, hk, hs, gLt, hlt, ht, h5, hT1, hT2]
structure BookOk (rs : List Rec) : Prop where
  few : rs.length ≤ 24
  row : ∀ r ∈ rs, RecOk r
  begins : (rs.map (·.b)).Pairwise (· < ·)
  times : (rs.map (·.b) ++ rs.filterMap fun r => r.ea.map (·.1)).Nodup
  keys : ∀ k, (rs.map (·.key)).countP (fun z => z == k) ≤ 8
def hasE (r : Rec) : Bool := r.ea.isSome
def fin (r : Rec) : Int := (r.ea.map (·.1)).getD 0
theorem ends_eq : ∀ rs : List Rec, (rs.filter hasE).map fin = rs.filterMap fun r => r.ea.map (·.1)
  | [] => rfl
  | r :: rs => by
    cases h : r.ea with
    | none => simp [hasE, h, ends_eq rs]
    | some p => simp [hasE, fin, h, ends_eq rs]
theorem pyL_of {α : Type} (f : α → D) (g : α → PyData) : ∀ l : List α, (∀ a ∈ l, (f a).py = some (g a)) → D.pyL (l.map f) = some (l.map g)
  | [], _ => rfl
  | a :: l, h => by
    rw [List.map_cons, D.pyL, h a List.mem_cons_self, pyL_of f g l fun b hb => h b (List.mem_cons_of_mem _ hb)]
    rfl
theorem layAll {α : Type} (g : α → PyData) (k : Nat) : ∀ l : List α, (∀ a ∈ l, (g a).canLay0 = true ∧ (g a).depth ≤ k) → PyData.canLayAll0 (l.map g) = true ∧ PyData.depthAll (l.map g) ≤ k
  | [], _ => ⟨rfl, Nat.zero_le _⟩
  | a :: l, h => by
    obtain ⟨h1, h2⟩ := h a List.mem_cons_self
    obtain ⟨h3, h4⟩ := layAll g k l fun b hb => h b (List.mem_cons_of_mem _ hb)
    simp only [List.map_cons, PyData.canLayAll0, PyData.depthAll, h1, h3, Bool.and_self, true_and]
    exact Nat.max_le.mpr ⟨h2, h4⟩
section
variable {ρ ρ1 ρ2 : List S} {t u : List S → Res Bool} {b : Bool}
theorem or_f (h : t ρ = .ok false ρ1) (h' : u ρ1 = .ok b ρ2) : aOrT t u ρ = .ok b ρ2 := by unfold aOrT; rw [h]; exact h'
end
theorem bls_all {α : Type} (p : α → Bool) (l : List α) (h : ∀ a ∈ l, p a = true) : gAll [.lst (l.map fun a => D.bl (p a))] = some (eBl true) := by
  have q := bls_map (l.map p)
  rw [List.map_map] at q
  have q : D.bls? (l.map fun a => D.bl (p a)) = some (l.map p) := q
  simp only [gAll, q, Option.map_some, List.all_map]
  congr 1
  simp only [eBl]
  congr 2
  exact List.all_eq_true.mpr fun a ha => h a ha
theorem ints_of {α : Type} (f : α → Int) (l : List α) : D.ints? (l.map fun a => D.int (f a)) = some (l.map f) := by
  have := ints_map (l.map f)
  rwa [List.map_map] at this
theorem ints_py {α : Type} (f : α → Int) (l : List α) : (D.lst (l.map fun a => D.int (f a))).py = some (.list (l.map fun a => .int (f a))) := by
  rw [D.py, pyL_of (fun a => D.int (f a)) (fun a => PyData.int (f a)) l fun a _ => rfl]; rfl
theorem ints_self {α : Type} (f : α → Int) (l : List α) : gNe (.lst (l.map fun a => D.int (f a))) (.lst (l.map fun a => D.int (f a))) = some (eBl false) := by
  have q := layAll (fun a => PyData.int (f a)) 0 l fun a _ => ⟨rfl, Nat.le_refl _⟩
  have c : (PyData.list (l.map fun a => .int (f a))).canLay0 = true := by simp only [PyData.canLay0]; exact q.1
  have sh : SeqAt.shaped (PyData.list (l.map fun a => .int (f a))) = true := by
    unfold SeqAt.shaped
    rw [c, Bool.true_and]
    refine decide_eq_true ?_
    simp only [PyData.depth]; omega
  unfold gNe D.eq?
  simp only [ints_py, sh, and_self, if_true]
  rw [PySem.SeqAt.eqv_refl _ c]
  rfl
theorem sorted_self {α : Type} (f : α → Int) (l : List α) (h : (l.map f).Pairwise (· < ·)) : gSorted [.lst (l.map fun a => D.int (f a))] = some (.fr (.lst (l.map fun a => D.int (f a)))) := by
  have e : sortI (l.map f) = l.map f := (sortI_of (List.Perm.refl _) (h.imp fun h => by omega)).symm
  simp only [gSorted, ints_of, Option.map_some, e, List.map_map]
  rfl
theorem history_spec {rs : List Rec} (h : BookOk rs) : m_is_history [.d (.tup (rs.map Rec.d))] = .ok (.d (.bl true)) [.d (.tup (rs.map Rec.d))] := by
  obtain ⟨X, hX⟩ : ∃ X : D, X = .tup (rs.map Rec.d) := ⟨_, rfl⟩
  have few : rs.length ≤ sizeLine := small_line (by have := h.few; omega)
  have iterX : ∀ (ρ : List S), ρ[0]? = some (.d X) → aIter (aVar 0) ρ = .ok (rs.map Rec.d) ρ := fun ρ e => by
    unfold aIter
    rw [var_d e, Res.bind_ok, hX]
    rfl
  have c1 : aLc [1] (aIter (aVar 0)) (.nm 1) aYes (aFn m_is_record (aCons (aVar 1) aNil)) [.d X, .no, .no, .no, .no, .no, .no] = .ok (.fr (.lst (rs.map fun _ => .bl true))) [.d X, .no, .no, .no, .no, .no, .no] := by
    refine aLc_all Rec.d (fun _ => D.bl true) rs (ρ1 := [.d X, .no, .no, .no, .no, .no, .no]) (iterX _ rfl) rfl (fun r hr => ?_) few
    exact ⟨_, .d (.bl true), rfl, fn1 (var_d rfl) (record_yes (h.row r hr)), rfl, rfl⟩
  have c2 : aLc [4] (aIter (aVar 0)) (.nm 4) aYes (aOp2 gIx (aVar 4) (aK (.int 0))) [.d X, .no, .no, .no, .no, .no, .no] = .ok (.fr (.lst (rs.map fun r => .int r.b))) [.d X, .no, .no, .no, .no, .no, .no] := by
    refine aLc_all Rec.d (fun r => D.int r.b) rs (ρ1 := [.d X, .no, .no, .no, .no, .no, .no]) (iterX _ rfl) rfl (fun r hr => ?_) few
    exact ⟨_, .d (.int r.b), rfl, rfl, rfl, rfl⟩
  have c3 : aLc [4] (aIter (aVar 0)) (.nm 4) aYes (aOp2 gIx (aVar 4) (aK (.int 2))) [.d X, .no, .no, .no, .no, .no, .no] = .ok (.fr (.lst (rs.map fun r => .str r.key))) [.d X, .no, .no, .no, .no, .no, .no] := by
    refine aLc_all Rec.d (fun r => D.str r.key) rs (ρ1 := [.d X, .no, .no, .no, .no, .no, .no]) (iterX _ rfl) rfl (fun r hr => ?_) few
    exact ⟨_, .d (.str r.key), rfl, rfl, rfl, rfl⟩
  obtain ⟨B, hB⟩ : ∃ B : List D, B = rs.map fun r => .int r.b := ⟨_, rfl⟩
  obtain ⟨Ks, hK⟩ : ∃ K : List D, K = rs.map fun r => .str r.key := ⟨_, rfl⟩
  have c4 : aLc [4] (aIter (aVar 0)) (.nm 4) (aT (aOp2 gIsn (aOp2 gIx (aVar 4) (aK (.int 1))) (aK .non))) (aOp2 gIx (aVar 4) (aK (.int 1))) [.d X, .no, .own (.lst B), .own (.lst Ks), .no, .no, .no] = .ok (.fr (.lst ((rs.filter hasE).map fun r => .int (fin r)))) [.d X, .no, .own (.lst B), .own (.lst Ks), .no, .no, .no] := by
    refine aLc_map Rec.d (fun r => D.int (fin r)) hasE rs (ρ1 := [.d X, .no, .own (.lst B), .own (.lst Ks), .no, .no, .no]) (iterX _ rfl) rfl (fun r hr => ?_) few
    obtain ⟨b, k, so, ea⟩ := r
    cases ea with
    | none => exact ⟨_, .d .non, rfl, rfl, (fun z => by simp [hasE] at z), rfl⟩
    | some p => exact ⟨_, .d (.int p.1), rfl, rfl, fun _ => ⟨rfl, rfl⟩, rfl⟩
  obtain ⟨T, hT⟩ : ∃ T : List D, T = B ++ (rs.filter hasE).map fun r => .int (fin r) := ⟨_, rfl⟩
  have lenT : (rs.map (·.b)).length + ((rs.filter hasE).map fin).length ≤ 48 := by
    have := List.length_filter_le hasE rs
    have := h.few
    rw [List.length_map, List.length_map]; omega
  have addT : gAdd (.lst B) (.lst ((rs.filter hasE).map fun r => .int (fin r))) = some (.fr (.lst T)) := by
    have : B.length + ((rs.filter hasE).map fun r => D.int (fin r)).length ≤ sizeLine := by
      rw [hB, List.length_map, List.length_map]
      rw [List.length_map, List.length_map] at lenT
      exact small_line (by omega)
    simp only [gAdd, if_pos this, hT]
  have intsT : D.ints? T = some (rs.map (·.b) ++ (rs.filter hasE).map fin) := by
    have q := ints_map (rs.map (·.b) ++ (rs.filter hasE).map fin)
    rw [List.map_append, List.map_map, List.map_map] at q
    rw [hT, hB]
    exact q
  have setT : gLenSet [.lst T] = some (eInt T.length) := by
    have lenTT : T.length = (rs.map (·.b) ++ (rs.filter hasE).map fin).length := by rw [hT, hB]; simp
    have small : (rs.map (·.b) ++ (rs.filter hasE).map fin).length + 1 < 4096 := by rw [List.length_append]; omega
    have fm := RZ.firstMet_nodup (show (rs.map (·.b) ++ (rs.filter hasE).map fin).Nodup by rw [ends_eq]; exact h.times) _ (Nat.le_refl _)
    rw [List.take_length] at fm
    simp only [gLenSet, intsT, Option.bind_some, if_pos small, fm, lenTT]
  have cnt : ∀ r ∈ rs, gCount (.lst Ks) [.str r.key] = some (eInt ((rs.map (·.key)).countP fun z => z == r.key : Nat)) := fun r hr => by
    have fl : (D.str r.key).flat = true ∧ Ks.all D.flat = true := ⟨rfl, by rw [hK, List.all_map]; exact List.all_eq_true.mpr fun _ _ => rfl⟩
    simp only [gCount]
    rw [if_pos fl, hK, List.countP_map, List.countP_map]
    rfl
  have c5 : aLc [6] (aIter (aVar 3)) (.nm 6) aYes (aOp2 gLe (aMeth "list" gCount (aVar 3) (aCons (aVar 6) aNil)) (aK c_MOST_OF_A_KEY)) [.d X, .no, .own (.lst B), .own (.lst Ks), .no, .own (.lst T), .no] = .ok (.fr (.lst (rs.map fun _ => .bl true))) [.d X, .no, .own (.lst B), .d (.lst Ks), .no, .own (.lst T), .no] := by
    refine aLc_all (fun r => D.str r.key) (fun _ => D.bl true) rs (ρ1 := [.d X, .no, .own (.lst B), .d (.lst Ks), .no, .own (.lst T), .no]) ?_ rfl (fun r hr => ?_) few
    · simp [runF, outF, sSeq, sIf, sRet, sRetN, sSet1, sSet, sTg, sExpr, sNx, aVar, aK, aCons, aNil, aOp2, app2, aCall, valL, E.val, aT, aNotT, aAndT, aOrT, aAndV, aOrV, aNotV, aIf, aChain, aTup, aLst, keepL, keep1, freeze, toSL, toS, setL, aFn, appFn, argS, slIx, wb, aIter, D.items?, aMeth, D.tyn, aSlice, aPart, aPartN, gIsi, D.isi, gIs, gIsn, D.is?, D.seq?, aStar, O.toD, eBl, eInt, eStr, tset, tsetL, wipeS, backS, nOwn, D.imm, hK]
    · refine ⟨[.d X, .no, .own (.lst B), .d (.lst Ks), .no, .own (.lst T), .d (.str r.key)], .d (.bl true), rfl, ?_, rfl, rfl⟩
      have hc := cnt r hr
      have hle : (((rs.map (·.key)).countP fun z => z == r.key : Nat) : Int) ≤ 8 := by have := h.keys r.key; omega
      rw [List.countP_map] at hc hle
      simp [runF, outF, sSeq, sIf, sRet, sRetN, sSet1, sSet, sTg, sExpr, sNx, aVar, aK, aCons, aNil, aOp2, app2, aCall, valL, E.val, aT, aNotT, aAndT, aOrT, aAndV, aOrV, aNotV, aIf, aChain, aTup, aLst, keepL, keep1, freeze, toSL, toS, setL, aFn, appFn, argS, slIx, wb, aIter, D.items?, aMeth, D.tyn, aSlice, aPart, aPartN, gIsi, D.isi, gIs, gIsn, D.is?, D.seq?, aStar, O.toD, eBl, eInt, eStr, tset, tsetL, wipeS, backS, nOwn, D.imm, hc, gLe, c_MOST_OF_A_KEY, hle]
  have few24 : ¬ (24 : Int) < rs.length := by have := h.few; omega
  refine (run_rt (ρ1 := [.d X, .no, .own (.lst B), .d (.lst Ks), .no, .own (.lst T), .no]) rfl ?_).trans (by rw [hX]; rfl)
  unfold b_is_history
  rw [← hX]
  show sSeq _ _ [.d X, .no, .no, .no, .no, .no, .no] = _
  rw [seq_nx (ρ1 := [.d X, .no, .no, .no, .no, .no, .no])]
  · rw [seq_nx (ρ1 := [.d X, .no, .own (.lst B), .own (.lst Ks), .no, .no, .no])]
    · rw [seq_nx (ρ1 := [.d X, .no, .own (.lst B), .own (.lst Ks), .no, .own (.lst T), .no])]
      · rw [seq_nx (ρ1 := [.d X, .no, .own (.lst B), .own (.lst Ks), .no, .own (.lst T), .no])]
        · refine ret_of ?_
          have q := bls_all (fun _ : Rec => true) rs fun _ _ => rfl
          simp [aCall, aCons, c5, aNil, valL, E.val, O.toD, q]
        · have s1 := sorted_self (fun r : Rec => r.b) rs h.begins
          have s2 := ints_self (fun r : Rec => r.b) rs
          rw [← hB] at s1 s2
          have s3 : gNe (.int T.length) (.int T.length) = some (eBl false) := by simp [gNe, D.eq?]
          rw [if_f (ρ1 := [.d X, .no, .own (.lst B), .own (.lst Ks), .no, .own (.lst T), .no])]
          · rfl
          · refine or_f (aT_of (ρ1 := [.d X, .no, .own (.lst B), .own (.lst Ks), .no, .own (.lst T), .no]) ?_) (aT_of ?_)
            · simp [runF, outF, sSeq, sIf, sRet, sRetN, sSet1, sSet, sTg, sExpr, sNx, aVar, aK, aCons, aNil, aOp2, app2, aCall, valL, E.val, aT, aNotT, aAndT, aOrT, aAndV, aOrV, aNotV, aIf, aChain, aTup, aLst, keepL, keep1, freeze, toSL, toS, setL, aFn, appFn, argS, slIx, wb, aIter, D.items?, aMeth, D.tyn, aSlice, aPart, aPartN, gIsi, D.isi, gIs, gIsn, D.is?, D.seq?, aStar, O.toD, eBl, eInt, eStr, tset, tsetL, wipeS, backS, nOwn, D.imm, s1, s2]
            · simp [runF, outF, sSeq, sIf, sRet, sRetN, sSet1, sSet, sTg, sExpr, sNx, aVar, aK, aCons, aNil, aOp2, app2, aCall, valL, E.val, aT, aNotT, aAndT, aOrT, aAndV, aOrV, aNotV, aIf, aChain, aTup, aLst, keepL, keep1, freeze, toSL, toS, setL, aFn, appFn, argS, slIx, wb, aIter, D.items?, aMeth, D.tyn, aSlice, aPart, aPartN, gIsi, D.isi, gIs, gIsn, D.is?, D.seq?, aStar, O.toD, eBl, eInt, eStr, tset, tsetL, wipeS, backS, nOwn, D.imm, setT, gLen, s3]
      · refine set_o (ρ1 := [.d X, .no, .own (.lst B), .own (.lst Ks), .no, .no, .no]) ?_ (by simp)
        simp [aOp2, aVar, c4, app2, E.val, O.toD, addT]
    · simp [sSet, aCons, c2, c3, aNil, toSL, toS, setL, hB, hK]
  · rw [if_f (ρ1 := [.d X, .no, .no, .no, .no, .no, .no])]
    · rfl
    · refine or_f (ρ1 := [.d X, .no, .no, .no, .no, .no, .no]) (aNotT_of (b := true) (aT_of ?_)) (or_f (ρ1 := [.d X, .no, .no, .no, .no, .no, .no]) (aT_of ?_) (aNotT_of (b := true) (aT_of ?_)))
      · rw [hX]; simp [runF, outF, sSeq, sIf, sRet, sRetN, sSet1, sSet, sTg, sExpr, sNx, aVar, aK, aCons, aNil, aOp2, app2, aCall, valL, E.val, aT, aNotT, aAndT, aOrT, aAndV, aOrV, aNotV, aIf, aChain, aTup, aLst, keepL, keep1, freeze, toSL, toS, setL, aFn, appFn, argS, slIx, wb, aIter, D.items?, aMeth, D.tyn, aSlice, aPart, aPartN, gIsi, D.isi, gIs, gIsn, D.is?, D.seq?, aStar, O.toD, eBl, eInt, eStr, tset, tsetL, wipeS, backS, nOwn, D.imm]
      · rw [hX]; simp [runF, outF, sSeq, sIf, sRet, sRetN, sSet1, sSet, sTg, sExpr, sNx, aVar, aK, aCons, aNil, aOp2, app2, aCall, valL, E.val, aT, aNotT, aAndT, aOrT, aAndV, aOrV, aNotV, aIf, aChain, aTup, aLst, keepL, keep1, freeze, toSL, toS, setL, aFn, appFn, argS, slIx, wb, aIter, D.items?, aMeth, D.tyn, aSlice, aPart, aPartN, gIsi, D.isi, gIs, gIsn, D.is?, D.seq?, aStar, O.toD, eBl, eInt, eStr, tset, tsetL, wipeS, backS, nOwn, D.imm, gLen, gGt, c_MOST_RECORDS, few24]
      · have q := bls_all (fun _ : Rec => true) rs fun _ _ => rfl
        simp [aCall, aCons, c1, aNil, valL, E.val, O.toD, q]
/-! the told story -/
def Deed.rec (d : Deed) : Rec := ⟨d.b, d.key, d.sort, match d.e, d.mo with
  | some t, some (_, _, z, _) => some (t, z)
  | _, _ => none⟩
theorem kg_begin {d : Deed} : kget d.kvs (.inr "begin") = some (.int d.b) := by simp [kget, Deed.kvs, ofString_eq]
theorem kg_end {d : Deed} : kget d.kvs (.inr "end") = some (oi d.e) := by simp [kget, Deed.kvs, ofString_eq]
theorem kg_said {d : Deed} {c t : Int} {z : Str} {u : Bool} (h : d.mo = some (c, t, z, u)) : kget d.kvs (.inr "said") = some (.str z) := by simp [kget, Deed.kvs, ofString_eq, h]
theorem told_spec {ks : List Str} {ds : List Deed} (hl : ds.length ≤ 1000) (h : ∀ d ∈ ds, ∃ c, DeedOk ks c d) : m__law_told [.own (.lst (ds.map fun d => .dct d.kvs))] = .ok (.d (.tup (ds.map fun d => (Deed.rec d).d))) [.d (.lst (ds.map fun d => .dct d.kvs))] := by
  obtain ⟨X, hX⟩ : ∃ X : List D, X = ds.map fun d => .dct d.kvs := ⟨_, rfl⟩
  rw [← hX]
  have body : ∀ (ys : List D) (d : Deed) (s : S), ys.length < 1000 → (∃ c, DeedOk ks c d) → (sExpr (aMut "list" 1 uAppend (aCons (aTup (aCons (aOp2 gIx (aVar 2) (aK (.str "begin"))) (aCons (aOp2 gIx (aVar 2) (aK (.str "end"))) (aCons (aOp2 gIx (aVar 2) (aK (.str "key"))) (aCons (aOp2 gIx (aVar 2) (aK (.str "sort"))) (aCons (aIf (aT (aOp2 gIs (aOp2 gIx (aVar 2) (aK (.str "end"))) (aK .non))) (aK .non) (aOp2 gIx (aVar 2) (aK (.str "said")))) aNil)))))) aNil))) [.d (.lst X), .own (.lst ys), .d (.dct d.kvs)] = .ok .nx [.d (.lst X), .own (.lst (ys ++ [(Deed.rec d).d])), .d (.dct d.kvs)] := by
    intro ys d s hy ⟨c, dk⟩
    have sz : ys.length < sizeLine := Nat.lt_of_lt_of_le hy (by rw [sizeLine_eq]; decide)
    cases he : d.e with
    | none =>
      have g := kg_end (d := d)
      rw [he] at g
      simp [runF, outF, sSeq, sIf, sRet, sRetN, sSet1, sSet, sTg, sExpr, sNx, aVar, aK, aCons, aNil, aOp2, app2, aCall, valL, E.val, aT, aNotT, aAndT, aOrT, aAndV, aOrV, aNotV, aIf, aChain, aTup, aLst, keepL, keep1, freeze, toSL, toS, setL, aFn, appFn, argS, slIx, wb, aIter, D.items?, aMeth, D.tyn, aSlice, aPart, aPartN, gIsi, D.isi, gIs, gIsn, D.is?, D.seq?, aStar, O.toD, eBl, eInt, eStr, tset, tsetL, wipeS, backS, nOwn, D.imm, gIx, D.key?, kg_begin, g, kg_key, kg_sort, oi, aMut, O.tyn, uAppend, sz, le5, Deed.rec, Rec.d, Rec.l, he, os]
    | some t =>
      have g := kg_end (d := d)
      rw [he] at g
      have nm := (dk.ends t he).2.2
      cases hm : d.mo with
      | none => exact absurd hm nm
      | some m =>
        obtain ⟨c1, t1, z, u⟩ := m
        have q := kg_said hm
        simp [runF, outF, sSeq, sIf, sRet, sRetN, sSet1, sSet, sTg, sExpr, sNx, aVar, aK, aCons, aNil, aOp2, app2, aCall, valL, E.val, aT, aNotT, aAndT, aOrT, aAndV, aOrV, aNotV, aIf, aChain, aTup, aLst, keepL, keep1, freeze, toSL, toS, setL, aFn, appFn, argS, slIx, wb, aIter, D.items?, aMeth, D.tyn, aSlice, aPart, aPartN, gIsi, D.isi, gIs, gIsn, D.is?, D.seq?, aStar, O.toD, eBl, eInt, eStr, tset, tsetL, wipeS, backS, nOwn, D.imm, gIx, D.key?, kg_begin, g, kg_key, kg_sort, q, oi, aMut, O.tyn, uAppend, sz, le5, Deed.rec, Rec.d, Rec.l, he, hm, os]
  have hit : aIter (aVar 0) [.own (.lst X), .own (.lst []), .no] = .ok X [.d (.lst X), .own (.lst []), .no] := by simp [runF, outF, sSeq, sIf, sRet, sRetN, sSet1, sSet, sTg, sExpr, sNx, aVar, aK, aCons, aNil, aOp2, app2, aCall, valL, E.val, aT, aNotT, aAndT, aOrT, aAndV, aOrV, aNotV, aIf, aChain, aTup, aLst, keepL, keep1, freeze, toSL, toS, setL, aFn, appFn, argS, slIx, wb, aIter, D.items?, aMeth, D.tyn, aSlice, aPart, aPartN, gIsi, D.isi, gIs, gIsn, D.is?, D.seq?, aStar, O.toD, eBl, eInt, eStr, tset, tsetL, wipeS, backS, nOwn, D.imm]
  obtain ⟨ρ', e, s, e2⟩ := sFor_ex (t := .nm 2) (body := sExpr (aMut "list" 1 uAppend (aCons (aTup (aCons (aOp2 gIx (aVar 2) (aK (.str "begin"))) (aCons (aOp2 gIx (aVar 2) (aK (.str "end"))) (aCons (aOp2 gIx (aVar 2) (aK (.str "key"))) (aCons (aOp2 gIx (aVar 2) (aK (.str "sort"))) (aCons (aIf (aT (aOp2 gIs (aOp2 gIx (aVar 2) (aK (.str "end"))) (aK .non))) (aK .non) (aOp2 gIx (aVar 2) (aK (.str "said")))) aNil)))))) aNil)))
    (I := fun i ρ => ∃ s, ρ = [.d (.lst X), .own (.lst ((ds.take i).map fun d => (Deed.rec d).d)), s]) hit (by
      rintro i x ρ hx ⟨s, rfl⟩
      rw [hX, List.getElem?_map] at hx
      obtain ⟨d, hd, rfl⟩ := Option.map_eq_some_iff.mp hx
      have hil := (List.getElem?_eq_some_iff.mp hd).1
      refine ⟨_, _, rfl, body _ d s (by simp; omega) (h d (List.mem_of_getElem? hd)), .d (.dct d.kvs), ?_⟩
      rw [List.take_add_one, hd, List.map_append]
      rfl) ⟨.no, by simp⟩
  subst e2
  rw [hX, List.length_map, List.take_length] at e
  have dl : ds.length ≤ sizeLine := small_line (by omega)
  unfold m__law_told b__law_told
  refine (run_rt (ρ1 := [.d (.lst X), .own (.lst (ds.map fun d => (Deed.rec d).d)), s]) rfl ?_).trans (by rfl)
  show sSeq _ _ [.own (.lst X), .no, .no] = _
  rw [seq_nx (ρ1 := [.own (.lst X), .own (.lst []), .no]) (by simp [runF, outF, sSeq, sIf, sRet, sRetN, sSet1, sSet, sTg, sExpr, sNx, aVar, aK, aCons, aNil, aOp2, app2, aCall, valL, E.val, aT, aNotT, aAndT, aOrT, aAndV, aOrV, aNotV, aIf, aChain, aTup, aLst, keepL, keep1, freeze, toSL, toS, setL, aFn, appFn, argS, slIx, wb, aIter, D.items?, aMeth, D.tyn, aSlice, aPart, aPartN, gIsi, D.isi, gIs, gIsn, D.is?, D.seq?, aStar, O.toD, eBl, eInt, eStr, tset, tsetL, wipeS, backS, nOwn, D.imm]), seq_nx (ρ1 := [.d (.lst X), .own (.lst (ds.map fun d => (Deed.rec d).d)), s]) (by rw [hX]; exact e)]
  refine ret_of ?_
  simp [runF, outF, sSeq, sIf, sRet, sRetN, sSet1, sSet, sTg, sExpr, sNx, aVar, aK, aCons, aNil, aOp2, app2, aCall, valL, E.val, aT, aNotT, aAndT, aOrT, aAndV, aOrV, aNotV, aIf, aChain, aTup, aLst, keepL, keep1, freeze, toSL, toS, setL, aFn, appFn, argS, slIx, wb, aIter, D.items?, aMeth, D.tyn, aSlice, aPart, aPartN, gIsi, D.isi, gIs, gIsn, D.is?, D.seq?, aStar, O.toD, eBl, eInt, eStr, tset, tsetL, wipeS, backS, nOwn, D.imm, gTuple, dl]
end L2.AL.SH
namespace L2.AL
open PySem PySem.Spec PyProof.Rows
theorem aLcO_map {α : Type} {t : Tg} {c : List S → Res Bool} {f : List S → Res E} {vs : List Nat} {i : Nat} (F g : α → D) (p : α → Bool) (l : List α) {ρ : List S} (hi : ρ[i]? = some (.own (.lst (l.map F)))) (hno : nOwn (ρ.set i .no) vs = true)
    (h : ∀ a ∈ l, ∃ ρ2 v, tset t (F a) (wipeS (ρ.set i .no) vs) = some ρ2 ∧ c ρ2 = .ok (p a) ρ2 ∧ (p a = true → f ρ2 = .ok v ρ2 ∧ keep1 v ρ2 = some (g a, ρ2)) ∧ wipeS ρ2 vs = wipeS (ρ.set i .no) vs) (hl : l.length ≤ sizeLine) :
    aLcO i vs t c f ρ = .ok (.fr (.lst ((l.filter p).map g))) ((backS (ρ.set i .no) (wipeS (ρ.set i .no) vs) vs).set i (.own (.lst (l.map F)))) := by
  unfold aLcO
  rw [hi]
  simp only
  rw [if_pos hno, lcGo_map F g p l [] h (by simpa using hl)]
  rfl
end L2.AL
namespace L2.AL.SH
open PySem PySem.Spec PyProof.Rows L2 L2.AL TL
/-! the wild book -/
structure RecsOk (rs : List Rec) : Prop where
  row : ∀ r ∈ rs, RecOk r
  begins : (rs.map (·.b)).Pairwise (· < ·)
  times : (rs.map (·.b) ++ rs.filterMap fun r => r.ea.map (·.1)).Nodup
theorem answers_spec (so : Srt) : m__law_answers [.d (.str so.str)] = .ok (.d (.tup ((answersT so).map .str))) [.d (.str so.str)] := by
  cases so <;> simp [runF, outF, sSeq, sIf, sRet, sRetN, sSet1, sSet, sTg, sExpr, sNx, aVar, aK, aCons, aNil, aOp2, app2, aCall, valL, E.val, aT, aNotT, aAndT, aOrT, aAndV, aOrV, aNotV, aIf, aChain, aTup, aLst, keepL, keep1, freeze, toSL, toS, setL, aFn, appFn, argS, slIx, wb, aIter, D.items?, aMeth, D.tyn, aSlice, aPart, aPartN, gIsi, D.isi, gIs, gIsn, D.is?, D.seq?, aStar, O.toD, eBl, eInt, eStr, tset, tsetL, wipeS, backS, nOwn, D.imm, m__law_answers, b__law_answers, Srt.str, ofString_eq, gEq, D.eq?, le3, answersT]
theorem of_tup {T : Nat} {o : O} {xs : List D} (h : JarOk T o) (hT : T ≤ 100000) (hne : xs ≠ []) (hl : xs.length ≤ 1000) :
    ∃ x o', m__law_of [.own o, .d (.tup xs)] = .ok (.d x) [.own o', .d (.tup xs)] ∧ x ∈ xs ∧ JarOk (T + 1) o' := by
  have pos : 0 < xs.length := List.length_pos_iff.mpr hne
  obtain ⟨r, o', e, h0, h1, ok⟩ := take_spec (m := (xs.length : Int)) h hT (by omega) (by omega)
  have hr : r.toNat < xs.length := by omega
  have hi : gIx (.tup xs) (.int r) = some (.d xs[r.toNat]) := by
    simp only [gIx, atI, ixN]
    rw [if_pos h0, if_pos h1]
    simp [hr]
  refine ⟨xs[r.toNat], o', ?_, List.getElem_mem _, ok⟩
  refine (run_rt (ρ1 := [.own o', .d (.tup xs)]) rfl (ret_of ?_)).trans rfl
  simp [runF, outF, sSeq, sIf, sRet, sRetN, sSet1, sSet, sTg, sExpr, sNx, aVar, aK, aCons, aNil, aOp2, app2, aCall, valL, E.val, aT, aNotT, aAndT, aOrT, aAndV, aOrV, aNotV, aIf, aChain, aTup, aLst, keepL, keep1, freeze, toSL, toS, setL, aFn, appFn, argS, slIx, wb, aIter, D.items?, aMeth, D.tyn, aSlice, aPart, aPartN, gIsi, D.isi, gIs, gIsn, D.is?, D.seq?, aStar, O.toD, eBl, eInt, eStr, tset, tsetL, wipeS, backS, nOwn, D.imm, gLen, e, hi]
theorem filterMap_set_none {α β : Type} (f : α → Option β) : ∀ {l : List α} {n : Nat} {y : α}, f y = none → ((l.set n y).filterMap f).Sublist (l.filterMap f)
  | [], _, _, _ => by simp
  | a :: l, 0, y, e => by
    simp only [List.set_cons_zero, List.filterMap_cons, e]
    cases f a with
    | none => exact List.Sublist.refl _
    | some b => exact List.sublist_cons_self _ _
  | a :: l, n + 1, y, e => by
    have q := filterMap_set_none f (l := l) (n := n) e
    simp only [List.set_cons_succ, List.filterMap_cons]
    cases f a with
    | none => exact q
    | some b => exact q.cons_cons _
theorem RecsOk.set {rs : List Rec} {n : Nat} {r : Rec} {ea : Option (Int × Str)} (h : RecsOk rs) (hr : rs[n]? = some r) (h1 : ∀ t z, ea = some (t, z) → r.b < t ∧ z ∈ answersT r.sort)
    (h2 : ∀ t z, ea = some (t, z) → r.ea.map (·.1) = some t ∨ (r.ea = none ∧ t ∉ rs.map (·.b) ++ rs.filterMap fun r => r.ea.map (·.1))) : RecsOk (rs.set n { r with ea := ea }) := by
  have ro := h.row r (List.mem_of_getElem? hr)
  have mb := map_set_same (fun r : Rec => r.b) (y := { r with ea := ea }) hr rfl
  refine ⟨fun r' hr' => ?_, ?_, ?_⟩
  · rcases mem_set_or hr' with rfl | hr'
    · exact ⟨ro.b, ro.key, h1⟩
    · exact h.row r' hr'
  · rw [mb]; exact h.begins
  · rw [mb]
    cases ea with
    | none =>
      have sl := filterMap_set_none (fun r : Rec => r.ea.map (·.1)) (l := rs) (n := n) (y := { r with ea := none }) rfl
      exact h.times.sublist ((List.Sublist.refl _).append sl)
    | some p =>
      obtain ⟨t, z⟩ := p
      rcases h2 t z rfl with q | ⟨q, nn⟩
      · rw [filterMap_set_same (fun r : Rec => r.ea.map (·.1)) (y := { r with ea := some (t, z) }) hr (by rw [q]; rfl)]
        exact h.times
      · have pm := filterMap_set_new (fun r : Rec => r.ea.map (·.1)) (y := { r with ea := some (t, z) }) (t := t) hr (by rw [q]; rfl) rfl
        have p2 := (pm.append_left (rs.map (·.b))).trans List.perm_middle
        exact p2.nodup_iff.mpr (List.nodup_cons.mpr ⟨nn, h.times⟩)
def lc1 : List S → Res E := aLcO 3 [11] (.nm 11) aYes (aOp2 gIx (aVar 11) (aK (.int 0)))
def lc2 : List S → Res E := aLcO 3 [11] (.nm 11) (aT (aOp2 gIsn (aOp2 gIx (aVar 11) (aK (.int 1))) (aK .non))) (aOp2 gIx (aVar 11) (aK (.int 1)))
section
variable {rs : List Rec} {o : O} {s1 s4 s5 s6 s7 s8 s9 s10 : S} {many : Int}
def wl (o : O) (s1 : S) (many : Int) (rs : List Rec) (s4 s5 s6 s7 s8 s9 s10 : S) : List S := [.own o, s1, .d (.int many), .own (.lst (rs.map Rec.d)), s4, s5, s6, s7, s8, s9, s10, .no]
theorem lc1_eq (hl : rs.length ≤ 1000) : lc1 (wl o s1 many rs s4 s5 s6 s7 s8 s9 s10) = .ok (.fr (.lst ((rs.map (·.b)).map .int))) (wl o s1 many rs s4 s5 s6 s7 s8 s9 s10) := by
  have q := aLcO_map (t := .nm 11) (c := aYes) (f := aOp2 gIx (aVar 11) (aK (.int 0))) (vs := [11]) (i := 3) Rec.d (fun r => .int r.b) (fun _ => true) rs (ρ := wl o s1 many rs s4 s5 s6 s7 s8 s9 s10) rfl rfl (fun r hr => ⟨_, .d (.int r.b), rfl, rfl, fun _ => ⟨rfl, rfl⟩, rfl⟩) (small_line (by omega))
  refine q.trans ?_
  rw [List.filter_eq_self.mpr (fun _ _ => rfl), List.map_map]
  rfl
theorem lc2_eq (hl : rs.length ≤ 1000) : lc2 (wl o s1 many rs s4 s5 s6 s7 s8 s9 s10) = .ok (.fr (.lst ((rs.filterMap fun r => r.ea.map (·.1)).map .int))) (wl o s1 many rs s4 s5 s6 s7 s8 s9 s10) := by
  have q := aLcO_map (t := .nm 11) (c := aT (aOp2 gIsn (aOp2 gIx (aVar 11) (aK (.int 1))) (aK .non))) (f := aOp2 gIx (aVar 11) (aK (.int 1))) (vs := [11]) (i := 3) Rec.d (fun r => .int (fin r)) hasE rs (ρ := wl o s1 many rs s4 s5 s6 s7 s8 s9 s10) rfl rfl (fun r hr => by
    obtain ⟨b, k, so, ea⟩ := r
    cases ea with
    | none => exact ⟨_, .d .non, rfl, rfl, (fun z => by simp [hasE] at z), rfl⟩
    | some p => exact ⟨_, .d (.int p.1), rfl, rfl, fun _ => ⟨rfl, rfl⟩, rfl⟩) (small_line (by omega))
  refine q.trans ?_
  rw [← ends_eq, List.map_map]
  rfl
theorem max_ge {ns : List Int} (h : ns ≠ []) : ∃ m, maxI ns = some m ∧ ∀ x ∈ ns, x ≤ m := by
  cases ns with
  | nil => exact absurd rfl h
  | cons n r =>
    have q := (foldl_max r n).1
    exact ⟨_, rfl, fun x hx => by
      rcases List.mem_cons.mp hx with rfl | hx
      · exact q.1
      · exact q.2 x hx⟩
end
end L2.AL.SH
namespace L2.AL.SH
open PySem PySem.Spec PyProof.Rows L2 L2.AL TL
/-! the wild book's turns -/
def wA : List S → Res E := aFn m__law_of (aCons (aVar 0) (aCons (aFn m__law_answers (aCons (aVar 9) aNil)) aNil))
def wMax : List S → Res Fl := sSet1 7 (aOp2 gAdd (aK (.int 1)) (aCall (gAlt gMax gMaxL) (aCons (aOp2 gAdd lc1 lc2) aNil)))
def wPut : List S → Res Fl := sPut 3 (aVar 5) (aTup (aCons (aVar 6) (aCons (aVar 7) (aCons (aVar 8) (aCons (aVar 9) (aCons wA aNil))))))
def wNo : List S → Res Fl := sPut 3 (aVar 5) (aTup (aCons (aVar 6) (aCons (aK .non) (aCons (aVar 8) (aCons (aVar 9) (aCons (aK .non) aNil))))))
def wBody : List S → Res Fl := sSeq (sSet1 5 (aFn m__law_take (aCons (aVar 0) (aCons (aCall gLen (aCons (aVar 3) aNil)) aNil))))
  (sSeq (sTg (.tp [(.nm 6), (.nm 7), (.nm 8), (.nm 9), (.nm 10)]) (aOp2 gIx (aVar 3) (aVar 5)))
  (sIf (aT (aOp2 gIs (aVar 7) (aK .non))) (sSeq wMax wPut) (sIf (aT (aOp2 gEq (aFn m__law_take (aCons (aVar 0) (aCons (aK (.int 8)) aNil))) (aK (.int 0)))) wNo wPut)))
section
variable {rs : List Rec} {o : O} {s1 s4 s5 s6 s7 s8 s9 s10 : S} {many : Int} {T : Nat} {n : Nat}
theorem wA_eq {so : Srt} (ok : JarOk T o) (hT : T ≤ 100000) : ∃ z o', wA (wl o s1 many rs s4 s5 s6 s7 s8 (.d (.str so.str)) s10) = .ok (.d (.str z)) (wl o' s1 many rs s4 s5 s6 s7 s8 (.d (.str so.str)) s10) ∧ z ∈ answersT so ∧ JarOk (T + 1) o' := by
  obtain ⟨x, o', e, hx, ok'⟩ := of_tup (xs := (answersT so).map .str) ok hT (by cases so <;> simp [answersT]) (by cases so <;> simp [answersT])
  obtain ⟨z, hz, rfl⟩ := List.mem_map.mp hx
  have a := answers_spec so
  exact ⟨z, o', by simp [runF, outF, sSeq, sIf, sRet, sRetN, sSet1, sSet, sTg, sExpr, sNx, aVar, aK, aCons, aNil, aOp2, app2, aCall, valL, E.val, aT, aNotT, aAndT, aOrT, aAndV, aOrV, aNotV, aIf, aChain, aTup, aLst, keepL, keep1, freeze, toSL, toS, setL, aFn, appFn, argS, slIx, wb, aIter, D.items?, aMeth, D.tyn, aSlice, aPart, aPartN, gIsi, D.isi, gIs, gIsn, D.is?, D.seq?, aStar, O.toD, eBl, eInt, eStr, tset, tsetL, wipeS, backS, nOwn, D.imm, wA, wl, a, e], hz, ok'⟩
theorem ix_nat {xs : List D} {x : D} (h : xs[n]? = some x) : gIx (.lst xs) (.int n) = some (.d x) := by
  have hl := (List.getElem?_eq_some_iff.mp h).1
  simp only [gIx, atI, ixN]
  rw [if_pos (by omega), if_pos (by omega)]
  simp [h]
theorem put_nat {xs : List D} {x : D} (h : n < xs.length) : putO (.lst xs) (.int n) x = some (.lst (xs.set n x)) := by
  simp only [putO, ixN]
  rw [if_pos (by omega), if_pos (by omega)]
  simp
theorem wPut_eq {b t : Int} {k : Str} {so : Srt} (hn : n < rs.length) (ok : JarOk T o) (hT : T ≤ 100000) : ∃ z o', wPut (wl o s1 many rs s4 (.d (.int n)) (.d (.int b)) (.d (.int t)) (.d (.str k)) (.d (.str so.str)) s10) =
    .ok .nx (wl o' s1 many (rs.set n ⟨b, k, so, some (t, z)⟩) s4 (.d (.int n)) (.d (.int b)) (.d (.int t)) (.d (.str k)) (.d (.str so.str)) s10) ∧ z ∈ answersT so ∧ JarOk (T + 1) o' := by
  obtain ⟨z, o', e, hz, ok'⟩ := wA_eq (rs := rs) (s1 := s1) (s4 := s4) (s5 := .d (.int n)) (s6 := .d (.int b)) (s7 := .d (.int t)) (s8 := .d (.str k)) (so := so) (s10 := s10) (many := many) ok hT
  refine ⟨z, o', ?_, hz, ok'⟩
  have q := put_nat (xs := rs.map Rec.d) (x := Rec.d ⟨b, k, so, some (t, z)⟩) (by rw [List.length_map]; exact hn)
  have q2 : (rs.set n ⟨b, k, so, some (t, z)⟩).map Rec.d = (rs.map Rec.d).set n (Rec.d ⟨b, k, so, some (t, z)⟩) := List.map_set
  simp only [wl] at e
  simp only [wPut, wl, q2]
  simp only [Rec.d, Rec.l, oi, os, Option.map_some] at q ⊢
  simp [runF, outF, sSeq, sIf, sRet, sRetN, sSet1, sSet, sTg, sExpr, sNx, aVar, aK, aCons, aNil, aOp2, app2, aCall, valL, E.val, aT, aNotT, aAndT, aOrT, aAndV, aOrV, aNotV, aIf, aChain, aTup, aLst, keepL, keep1, freeze, toSL, toS, setL, aFn, appFn, argS, slIx, wb, aIter, D.items?, aMeth, D.tyn, aSlice, aPart, aPartN, gIsi, D.isi, gIs, gIsn, D.is?, D.seq?, aStar, O.toD, eBl, eInt, eStr, tset, tsetL, wipeS, backS, nOwn, D.imm, sPut, e, le5, q]
theorem wNo_eq {b : Int} {k : Str} {so : Srt} (hn : n < rs.length) : wNo (wl o s1 many rs s4 (.d (.int n)) (.d (.int b)) s7 (.d (.str k)) (.d (.str so.str)) s10) =
    .ok .nx (wl o s1 many (rs.set n ⟨b, k, so, none⟩) s4 (.d (.int n)) (.d (.int b)) s7 (.d (.str k)) (.d (.str so.str)) s10) := by
  have q := put_nat (xs := rs.map Rec.d) (x := Rec.d ⟨b, k, so, none⟩) (by rw [List.length_map]; exact hn)
  have q2 : (rs.set n ⟨b, k, so, none⟩).map Rec.d = (rs.map Rec.d).set n (Rec.d ⟨b, k, so, none⟩) := List.map_set
  simp only [wNo, wl, q2]
  simp only [Rec.d, Rec.l, oi, os, Option.map_none] at q ⊢
  simp [runF, outF, sSeq, sIf, sRet, sRetN, sSet1, sSet, sTg, sExpr, sNx, aVar, aK, aCons, aNil, aOp2, app2, aCall, valL, E.val, aT, aNotT, aAndT, aOrT, aAndV, aOrV, aNotV, aIf, aChain, aTup, aLst, keepL, keep1, freeze, toSL, toS, setL, aFn, appFn, argS, slIx, wb, aIter, D.items?, aMeth, D.tyn, aSlice, aPart, aPartN, gIsi, D.isi, gIs, gIsn, D.is?, D.seq?, aStar, O.toD, eBl, eInt, eStr, tset, tsetL, wipeS, backS, nOwn, D.imm, sPut, le5, q]
theorem wMax_eq (hne : rs ≠ []) (hl : rs.length ≤ 1000) : ∃ m : Int, (∀ x ∈ rs.map (·.b) ++ rs.filterMap fun r => r.ea.map (·.1), x < m) ∧ wMax (wl o s1 many rs s4 s5 s6 s7 s8 s9 s10) = .ok .nx (wl o s1 many rs s4 s5 s6 (.d (.int m)) s8 s9 s10) := by
  obtain ⟨m, e, hm⟩ := max_ge (ns := rs.map (·.b) ++ rs.filterMap fun r => r.ea.map (·.1)) (by simp [hne])
  refine ⟨1 + m, fun x hx => by have := hm x hx; omega, ?_⟩
  have fl : (rs.filterMap fun r => r.ea.map (·.1)).length ≤ rs.length := List.length_filterMap_le _ _
  have ga : gAdd (.lst ((rs.map (·.b)).map .int)) (.lst ((rs.filterMap fun r => r.ea.map (·.1)).map .int)) = some (.fr (.lst ((rs.map (·.b) ++ rs.filterMap fun r => r.ea.map (·.1)).map .int))) := by
    simp only [gAdd]
    rw [if_pos (by rw [List.length_map, List.length_map, List.length_map]; exact small_line (by omega)), List.map_append]
  have gm : gAlt gMax gMaxL [.lst ((rs.map (·.b) ++ rs.filterMap fun r => r.ea.map (·.1)).map .int)] = some (eInt m) := by
    have q := ints_map (rs.map (·.b) ++ rs.filterMap fun r => r.ea.map (·.1))
    simp only [gAlt, gMax, gMaxL, q, Option.bind_some, e, Option.map_some]
  have a1 := lc1_eq (rs := rs) (o := o) (s1 := s1) (s4 := s4) (s5 := s5) (s6 := s6) (s7 := s7) (s8 := s8) (s9 := s9) (s10 := s10) (many := many) hl
  have a2 := lc2_eq (rs := rs) (o := o) (s1 := s1) (s4 := s4) (s5 := s5) (s6 := s6) (s7 := s7) (s8 := s8) (s9 := s9) (s10 := s10) (many := many) hl
  have a3 : aOp2 gAdd lc1 lc2 (wl o s1 many rs s4 s5 s6 s7 s8 s9 s10) = .ok (.fr (.lst ((rs.map (·.b) ++ rs.filterMap fun r => r.ea.map (·.1)).map .int))) (wl o s1 many rs s4 s5 s6 s7 s8 s9 s10) := by
    rw [aOp2, a1]
    simp only [Res.bind_ok, a2, app2, E.val, O.toD, ga]
  have a4 : aCall (gAlt gMax gMaxL) (aCons (aOp2 gAdd lc1 lc2) aNil) (wl o s1 many rs s4 s5 s6 s7 s8 s9 s10) = .ok (.d (.int m)) (wl o s1 many rs s4 s5 s6 s7 s8 s9 s10) := by
    simp only [aCall, aCons, a3, Res.bind_ok, aNil, valL, E.val, O.toD, Option.bind_some, gm, eInt]
  refine (set_d (x := .int (1 + m)) (ρ1 := wl o s1 many rs s4 s5 s6 s7 s8 s9 s10) ?_ (by simp [wl])).trans rfl
  rw [aOp2, aK]
  simp only [Res.bind_ok, a4, app2, E.val]
  rfl
theorem wild_turn (h : RecsOk rs) (hne : rs ≠ []) (hl : rs.length ≤ 100) (ok : JarOk T o) (hT : T ≤ 90000) : ∃ rs' o' t5 t6 t7 t8 t9 t10, wBody (wl o s1 many rs s4 s5 s6 s7 s8 s9 s10) = .ok .nx (wl o' s1 many rs' s4 t5 t6 t7 t8 t9 t10) ∧
    RecsOk rs' ∧ rs'.map (·.key) = rs.map (·.key) ∧ JarOk (T + 3) o' := by
  have pos : 0 < rs.length := List.length_pos_iff.mpr hne
  obtain ⟨r, o1, e1, r0, r1, ok1⟩ := take_spec (m := (rs.length : Int)) ok (by omega) (by omega) (by omega)
  obtain ⟨n, rfl⟩ := Int.eq_ofNat_of_zero_le r0
  have hn : n < rs.length := by omega
  obtain ⟨rec, hr⟩ : ∃ rec, rs[n]? = some rec := ⟨rs[n], List.getElem?_eq_getElem hn⟩
  have hx : (rs.map Rec.d)[n]? = some rec.d := by rw [List.getElem?_map, hr]; rfl
  have st1 : sSet1 5 (aFn m__law_take (aCons (aVar 0) (aCons (aCall gLen (aCons (aVar 3) aNil)) aNil))) (wl o s1 many rs s4 s5 s6 s7 s8 s9 s10) = .ok .nx (wl o1 s1 many rs s4 (.d (.int n)) s6 s7 s8 s9 s10) := by
    simp [runF, outF, sSeq, sIf, sRet, sRetN, sSet1, sSet, sTg, sExpr, sNx, aVar, aK, aCons, aNil, aOp2, app2, aCall, valL, E.val, aT, aNotT, aAndT, aOrT, aAndV, aOrV, aNotV, aIf, aChain, aTup, aLst, keepL, keep1, freeze, toSL, toS, setL, aFn, appFn, argS, slIx, wb, aIter, D.items?, aMeth, D.tyn, aSlice, aPart, aPartN, gIsi, D.isi, gIs, gIsn, D.is?, D.seq?, aStar, O.toD, eBl, eInt, eStr, tset, tsetL, wipeS, backS, nOwn, D.imm, wl, gLen, e1]
  have st2 : sTg (.tp [(.nm 6), (.nm 7), (.nm 8), (.nm 9), (.nm 10)]) (aOp2 gIx (aVar 3) (aVar 5)) (wl o1 s1 many rs s4 (.d (.int n)) s6 s7 s8 s9 s10) =
      .ok .nx (wl o1 s1 many rs s4 (.d (.int n)) (.d (.int rec.b)) (.d (oi (rec.ea.map (·.1)))) (.d (.str rec.key)) (.d (.str rec.sort.str)) (.d (os (rec.ea.map (·.2))))) := by
    have q := ix_nat hx
    simp only [wl]
    simp only [Rec.d, Rec.l] at q ⊢
    simp [runF, outF, sSeq, sIf, sRet, sRetN, sSet1, sSet, sTg, sExpr, sNx, aVar, aK, aCons, aNil, aOp2, app2, aCall, valL, E.val, aT, aNotT, aAndT, aOrT, aAndV, aOrV, aNotV, aIf, aChain, aTup, aLst, keepL, keep1, freeze, toSL, toS, setL, aFn, appFn, argS, slIx, wb, aIter, D.items?, aMeth, D.tyn, aSlice, aPart, aPartN, gIsi, D.isi, gIs, gIsn, D.is?, D.seq?, aStar, O.toD, eBl, eInt, eStr, tset, tsetL, wipeS, backS, nOwn, D.imm, q]
  obtain ⟨b, k, so, ea⟩ := rec
  have kk : ∀ ea', (rs.set n ⟨b, k, so, ea'⟩).map (·.key) = rs.map (·.key) := fun ea' => map_set_same (fun r : Rec => r.key) hr rfl
  have row := h.row _ (List.mem_of_getElem? hr)
  have lt0 := h.begins
  unfold wBody
  rw [seq_nx st1, seq_nx st2]
  cases ea with
  | none =>
    obtain ⟨m, hm, e3⟩ := wMax_eq (rs := rs) (o := o1) (s1 := s1) (s4 := s4) (s5 := .d (.int n)) (s6 := .d (.int b)) (s7 := .d .non) (s8 := .d (.str k)) (s9 := .d (.str so.str)) (s10 := .d .non) (many := many) hne (by omega)
    obtain ⟨z, o2, e4, hz, ok2⟩ := wPut_eq (b := b) (t := m) (k := k) (so := so) (s1 := s1) (s4 := s4) (s10 := .d .non) (many := many) hn ok1 (by omega)
    refine ⟨rs.set n ⟨b, k, so, some (m, z)⟩, o2, .d (.int n), .d (.int b), .d (.int m), .d (.str k), .d (.str so.str), .d .non, ?_, ?_, kk _, ok2.mono (by omega)⟩
    · show sIf _ _ _ (wl o1 s1 many rs s4 (.d (.int n)) (.d (.int b)) (.d .non) (.d (.str k)) (.d (.str so.str)) (.d .non)) = _
      rw [if_t (ρ1 := wl o1 s1 many rs s4 (.d (.int n)) (.d (.int b)) (.d .non) (.d (.str k)) (.d (.str so.str)) (.d .non)) (by simp [runF, outF, sSeq, sIf, sRet, sRetN, sSet1, sSet, sTg, sExpr, sNx, aVar, aK, aCons, aNil, aOp2, app2, aCall, valL, E.val, aT, aNotT, aAndT, aOrT, aAndV, aOrV, aNotV, aIf, aChain, aTup, aLst, keepL, keep1, freeze, toSL, toS, setL, aFn, appFn, argS, slIx, wb, aIter, D.items?, aMeth, D.tyn, aSlice, aPart, aPartN, gIsi, D.isi, gIs, gIsn, D.is?, D.seq?, aStar, O.toD, eBl, eInt, eStr, tset, tsetL, wipeS, backS, nOwn, D.imm, wl]), seq_nx e3]
      exact e4
    · refine h.set (ea := some (m, z)) hr (fun t z' e => ?_) fun t z' e => ?_
      · cases e
        exact ⟨hm b (List.mem_append_left _ (List.mem_map.mpr ⟨_, List.mem_of_getElem? hr, rfl⟩)), hz⟩
      · cases e
        exact .inr ⟨rfl, fun q => by have := hm m q; omega⟩
  | some p =>
    obtain ⟨t, z0⟩ := p
    obtain ⟨r2, o2, e2, _, _, ok2⟩ := take_spec (m := 8) ok1 (by omega) (by decide) (by decide)
    show ∃ rs' o' t5 t6 t7 t8 t9 t10, sIf _ _ _ (wl o1 s1 many rs s4 (.d (.int n)) (.d (.int b)) (.d (.int t)) (.d (.str k)) (.d (.str so.str)) (.d (.str z0))) = _ ∧ _
    rw [if_f (ρ1 := wl o1 s1 many rs s4 (.d (.int n)) (.d (.int b)) (.d (.int t)) (.d (.str k)) (.d (.str so.str)) (.d (.str z0))) (by simp [runF, outF, sSeq, sIf, sRet, sRetN, sSet1, sSet, sTg, sExpr, sNx, aVar, aK, aCons, aNil, aOp2, app2, aCall, valL, E.val, aT, aNotT, aAndT, aOrT, aAndV, aOrV, aNotV, aIf, aChain, aTup, aLst, keepL, keep1, freeze, toSL, toS, setL, aFn, appFn, argS, slIx, wb, aIter, D.items?, aMeth, D.tyn, aSlice, aPart, aPartN, gIsi, D.isi, gIs, gIsn, D.is?, D.seq?, aStar, O.toD, eBl, eInt, eStr, tset, tsetL, wipeS, backS, nOwn, D.imm, wl])]
    have c : aT (aOp2 gEq (aFn m__law_take (aCons (aVar 0) (aCons (aK (.int 8)) aNil))) (aK (.int 0))) (wl o1 s1 many rs s4 (.d (.int n)) (.d (.int b)) (.d (.int t)) (.d (.str k)) (.d (.str so.str)) (.d (.str z0))) =
        .ok (decide (r2 = 0)) (wl o2 s1 many rs s4 (.d (.int n)) (.d (.int b)) (.d (.int t)) (.d (.str k)) (.d (.str so.str)) (.d (.str z0))) := by
      simp [runF, outF, sSeq, sIf, sRet, sRetN, sSet1, sSet, sTg, sExpr, sNx, aVar, aK, aCons, aNil, aOp2, app2, aCall, valL, E.val, aT, aNotT, aAndT, aOrT, aAndV, aOrV, aNotV, aIf, aChain, aTup, aLst, keepL, keep1, freeze, toSL, toS, setL, aFn, appFn, argS, slIx, wb, aIter, D.items?, aMeth, D.tyn, aSlice, aPart, aPartN, gIsi, D.isi, gIs, gIsn, D.is?, D.seq?, aStar, O.toD, eBl, eInt, eStr, tset, tsetL, wipeS, backS, nOwn, D.imm, wl, e2, geq_int]
    by_cases h0 : r2 = 0
    · rw [decide_eq_true h0] at c
      refine ⟨rs.set n ⟨b, k, so, none⟩, o2, _, _, _, _, _, _, (if_t c).trans (wNo_eq hn), ?_, kk _, ok2.mono (by omega)⟩
      exact h.set (ea := none) hr (fun t z' e => by cases e) fun t z' e => by cases e
    · rw [decide_eq_false h0] at c
      obtain ⟨z, o3, e4, hz, ok3⟩ := wPut_eq (rs := rs) (b := b) (t := t) (k := k) (so := so) (s1 := s1) (s4 := s4) (s10 := .d (.str z0)) (many := many) hn ok2 (by omega)
      refine ⟨rs.set n ⟨b, k, so, some (t, z)⟩, o3, _, _, _, _, _, _, (if_f c).trans e4, ?_, kk _, ok3.mono (by omega)⟩
      refine h.set (ea := some (t, z)) hr (fun t' z' e => ?_) fun t' z' e => ?_
      · cases e
        exact ⟨(row.ea t z0 rfl).1, hz⟩
      · cases e
        exact .inl rfl
end
end L2.AL.SH
namespace L2.AL.SH
open PySem PySem.Spec PyProof.Rows L2 L2.AL TL
variable {T : Nat} {o : O} {s1 : S} {ks : List Str} {many : Int}
theorem story_recs {ds : List Deed} (h : StoryOk ks many ds) (hk : ∀ k ∈ ks, nameB k = true) : RecsOk (ds.map Deed.rec) := by
  have ends : ∀ l : List Deed, (∀ d ∈ l, ∃ c, DeedOk ks c d) → (l.map Deed.rec).filterMap (fun r => r.ea.map (·.1)) = l.filterMap (·.e) := by
    intro l
    induction l with
    | nil => intro _; rfl
    | cons d l ih =>
      intro hl
      have q := ih fun x hx => hl x (List.mem_cons_of_mem _ hx)
      obtain ⟨c, dk⟩ := hl d List.mem_cons_self
      rw [List.map_cons, List.filterMap_cons, List.filterMap_cons, q]
      cases he : d.e with
      | none => simp [Deed.rec, he]
      | some t =>
        cases hm : d.mo with
        | none => exact absurd hm (dk.ends t he).2.2
        | some m => obtain ⟨_, _, z, _⟩ := m; simp [Deed.rec, he, hm]
  refine ⟨fun r hr => ?_, ?_, ?_⟩
  · obtain ⟨d, hd, rfl⟩ := List.mem_map.mp hr
    obtain ⟨c, dk⟩ := h.deed d hd
    refine ⟨dk.b1, hk _ dk.key, fun t z e => ?_⟩
    cases he : d.e with
    | none => simp [Deed.rec, he] at e
    | some t' =>
      cases hm : d.mo with
      | none => exact absurd hm (dk.ends t' he).2.2
      | some m =>
        obtain ⟨m1, m2, z', m4⟩ := m
        simp [Deed.rec, he, hm] at e
        obtain ⟨rfl, rfl⟩ := e
        exact ⟨(dk.ends _ he).1, dk.said _ _ _ _ hm⟩
  · rw [List.map_map]; exact h.begins
  · rw [List.map_map, ends ds h.deed]; exact h.times
theorem wild_spec (h : JarOk T o) (hT : T ≤ 80000) (hs : keysS s1 = some ks) (hk : ks ≠ []) (hkl : ks.length ≤ 1000) (hkn : ∀ k ∈ ks, nameB k = true) (hm0 : 1 ≤ many) (hm : many ≤ 100) :
    ∃ rs o', m__law_wild [.own o, s1, .d (.int many)] = .ok (.d (.tup (rs.map Rec.d))) [.own o', s1, .d (.int many)] ∧ RecsOk rs ∧ rs ≠ [] ∧ (rs.length : Int) ≤ many ∧ (∀ r ∈ rs, r.key ∈ ks) ∧ JarOk (T + 1700) o' := by
  obtain ⟨ds, o1, e1, sk, ok1⟩ := story_spec h hT hs hk hkl hm0 hm
  have few := sk.few
  have e2 := told_spec (by omega) sk.deed
  have R0 := story_recs sk hkn
  obtain ⟨x, o2, e3, hx, ok2⟩ := of_lst (xs := [.int 0, .int 1, .int 1, .int 2]) ok1 (by omega) (by simp) (by simp) (.own (.lst [.int 0, .int 1, .int 1, .int 2])) (.inl rfl)
  obtain ⟨j, rfl, j0, j2⟩ : ∃ j : Int, x = .int j ∧ 0 ≤ j ∧ j ≤ 2 := by
    simp at hx
    rcases hx with rfl | rfl | rfl <;> exact ⟨_, rfl, by decide, by decide⟩
  have st1 : sSet1 3 (aCall (gAlt gList gListN) (aCons (aFn m__law_told (aCons (aFn m__law_story (aCons (aVar 0) (aCons (aVar 1) (aCons (aVar 2) aNil)))) aNil)) aNil)) [.own o, s1, .d (.int many), .no, .no, .no, .no, .no, .no, .no, .no, .no] = .ok .nx (wl o1 s1 many (ds.map Deed.rec) .no .no .no .no .no .no .no) := by
    have q : (ds.map fun d => (Deed.rec d).d) = (ds.map Deed.rec).map Rec.d := by rw [List.map_map]; rfl
    rw [q] at e2
    rcases keys_of hs with rfl | rfl <;> simp [runF, outF, sSeq, sIf, sRet, sRetN, sSet1, sSet, sTg, sExpr, sNx, aVar, aK, aCons, aNil, aOp2, app2, aCall, valL, E.val, aT, aNotT, aAndT, aOrT, aAndV, aOrV, aNotV, aIf, aChain, aTup, aLst, keepL, keep1, freeze, toSL, toS, setL, aFn, appFn, argS, slIx, wb, aIter, D.items?, aMeth, D.tyn, aSlice, aPart, aPartN, gIsi, D.isi, gIs, gIsn, D.is?, D.seq?, aStar, O.toD, eBl, eInt, eStr, tset, tsetL, wipeS, backS, nOwn, D.imm, wl, e1, e2, gAlt, gList]
  have it : aRng1 (aCons (aFn m__law_of (aCons (aVar 0) (aCons (aLst (aCons (aK (.int 0)) (aCons (aK (.int 1)) (aCons (aK (.int 1)) (aCons (aK (.int 2)) aNil))))) aNil))) aNil) (wl o1 s1 many (ds.map Deed.rec) .no .no .no .no .no .no .no) = .ok (rangeD 0 j.toNat) (wl o2 s1 many (ds.map Deed.rec) .no .no .no .no .no .no .no) := by
    simp [runF, outF, sSeq, sIf, sRet, sRetN, sSet1, sSet, sTg, sExpr, sNx, aVar, aK, aCons, aNil, aOp2, app2, aCall, valL, E.val, aT, aNotT, aAndT, aOrT, aAndV, aOrV, aNotV, aIf, aChain, aTup, aLst, keepL, keep1, freeze, toSL, toS, setL, aFn, appFn, argS, slIx, wb, aIter, D.items?, aMeth, D.tyn, aSlice, aPart, aPartN, gIsi, D.isi, gIs, gIsn, D.is?, D.seq?, aStar, O.toD, eBl, eInt, eStr, tset, tsetL, wipeS, backS, nOwn, D.imm, wl, aRng1, le4, e3]
    omega
  obtain ⟨ρ', e4, rs, o3, t4, t5, t6, t7, t8, t9, t10, rfl, R1, l1, k1, ok3⟩ := sFor_ex (t := .nm 4) (body := wBody) (I := fun i ρ => ∃ rs o3 t4 t5 t6 t7 t8 t9 t10, ρ = wl o3 s1 many rs t4 t5 t6 t7 t8 t9 t10 ∧ RecsOk rs ∧ rs.length = ds.length ∧ rs.map (·.key) = (ds.map Deed.rec).map (·.key) ∧ JarOk (T + 1601 + 3 * i) o3) it (by
      rintro i x ρ hx ⟨rs, o3, t4, t5, t6, t7, t8, t9, t10, rfl, R1, l1, k1, ok3⟩
      obtain ⟨rfl, hi⟩ := rangeD_get hx
      have hne : rs ≠ [] := fun z => sk.ne (List.eq_nil_of_length_eq_zero (by rw [← l1, z]; rfl))
      obtain ⟨rs', o4, u5, u6, u7, u8, u9, u10, e5, R2, k2, ok4⟩ := wild_turn (s1 := s1) (s4 := .d (.int (0 + (i : Int)))) (s5 := t5) (s6 := t6) (s7 := t7) (s8 := t8) (s9 := t9) (s10 := t10) (many := many) R1 hne (by omega) ok3 (by omega)
      refine ⟨_, _, rfl, e5, rs', o4, _, _, _, _, _, _, _, rfl, R2, ?_, k2.trans k1, ok4.mono (by omega)⟩
      rw [← l1]
      have := congrArg List.length k2
      simpa using this) ⟨ds.map Deed.rec, o2, _, _, _, _, _, _, _, rfl, R0, List.length_map _, rfl, ok2.mono (by omega)⟩
  rw [rangeD_len] at ok3
  have hne : rs ≠ [] := fun z => sk.ne (List.eq_nil_of_length_eq_zero (by rw [← l1, z]; rfl))
  refine ⟨rs, o3, ?_, R1, hne, by omega, fun r hr => ?_, ok3.mono (by omega)⟩
  · unfold m__law_wild b__law_wild
    refine (run_rt (ρ1 := wl o3 s1 many rs t4 t5 t6 t7 t8 t9 t10) rfl ?_).trans rfl
    show sSeq _ (sSeq (sFor _ (.nm 4) wBody) _) [.own o, s1, .d (.int many), .no, .no, .no, .no, .no, .no, .no, .no, .no] = _
    rw [seq_nx st1, seq_nx e4]
    refine ret_of ?_
    simp [runF, outF, sSeq, sIf, sRet, sRetN, sSet1, sSet, sTg, sExpr, sNx, aVar, aK, aCons, aNil, aOp2, app2, aCall, valL, E.val, aT, aNotT, aAndT, aOrT, aAndV, aOrV, aNotV, aIf, aChain, aTup, aLst, keepL, keep1, freeze, toSL, toS, setL, aFn, appFn, argS, slIx, wb, aIter, D.items?, aMeth, D.tyn, aSlice, aPart, aPartN, gIsi, D.isi, gIs, gIsn, D.is?, D.seq?, aStar, O.toD, eBl, eInt, eStr, tset, tsetL, wipeS, backS, nOwn, D.imm, wl, gTuple]
  · have : r.key ∈ rs.map (·.key) := List.mem_map.mpr ⟨r, hr, rfl⟩
    rw [k1, List.map_map] at this
    obtain ⟨d, hd, e⟩ := List.mem_map.mp this
    obtain ⟨c, dk⟩ := sk.deed d hd
    rw [← e]
    exact dk.key
end L2.AL.SH
/-! SH8: two searches of one graph meet the same states; a sort of them is one. -/
namespace L2.AL.SH
open PySem PySem.Spec PyProof.Rows L2 L2.AL TL
section
variable {α : Type} [DecidableEq α]
inductive Come (next : α → List α) (s0 : α) : α → Prop where
  | base : Come next s0 s0
  | step {x y : α} : Come next s0 x → y ∈ next x → Come next s0 y
variable {next : α → List α} {s0 : α}
/-- the program's turn: each new state is noted and waits -/
def pTurn (p : List α × List α) (ys : List α) : List α × List α := ys.foldl (fun p y => if y ∈ p.1 then p else (p.1 ++ [y], p.2 ++ [y])) p
theorem pTurn_new : ∀ (ys : List α) (f w : List α), ∃ new, pTurn (f, w) ys = (f ++ new, w ++ new) ∧ new.Nodup ∧ (∀ x ∈ new, x ∈ ys ∧ x ∉ f) ∧ ∀ y ∈ ys, y ∈ f ++ new
  | [], f, w => ⟨[], by simp [pTurn], by simp, by simp, by simp⟩
  | y :: ys, f, w => by
    by_cases h : y ∈ f
    · obtain ⟨new, e, h1, h2, h3⟩ := pTurn_new ys f w
      refine ⟨new, ?_, h1, fun x hx => ⟨List.mem_cons_of_mem _ (h2 x hx).1, (h2 x hx).2⟩, fun z hz => ?_⟩
      · unfold pTurn at e ⊢
        rw [List.foldl_cons, if_pos h]; exact e
      · rcases List.mem_cons.mp hz with rfl | hz
        · exact List.mem_append_left _ h
        · exact h3 z hz
    · obtain ⟨new, e, h1, h2, h3⟩ := pTurn_new ys (f ++ [y]) (w ++ [y])
      refine ⟨y :: new, ?_, List.nodup_cons.mpr ⟨fun z => (h2 y z).2 (by simp), h1⟩, fun x hx => ?_, fun z hz => ?_⟩
      · unfold pTurn at e ⊢
        rw [List.foldl_cons, if_neg h]
        simpa using e
      · rcases List.mem_cons.mp hx with rfl | hx
        · exact ⟨List.mem_cons_self, h⟩
        · have := h2 x hx
          exact ⟨List.mem_cons_of_mem _ this.1, fun z => this.2 (List.mem_append_left _ z)⟩
      · rcases List.mem_cons.mp hz with rfl | hz
        · simp
        · simpa using h3 z hz
structure PInv (next : α → List α) (s0 : α) (f w : List α) : Prop where
  nd : f.Nodup
  sub : ∀ x ∈ w, x ∈ f
  come : ∀ x ∈ f, Come next s0 x
  start : s0 ∈ f
  done : ∀ x ∈ f, x ∉ w → ∀ y ∈ next x, y ∈ f
  wnd : w.Nodup
theorem PInv.turn {f w new : List α} {h : α} (I : PInv next s0 f (w ++ [h])) (e : pTurn (f, w) (next h) = (f ++ new, w ++ new)) (h1 : new.Nodup) (h2 : ∀ x ∈ new, x ∈ next h ∧ x ∉ f) (h3 : ∀ y ∈ next h, y ∈ f ++ new) : PInv next s0 (f ++ new) (w ++ new) := by
  have hh := I.sub h (by simp)
  have wn := List.nodup_append.mp I.wnd
  refine ⟨List.nodup_append.mpr ⟨I.nd, h1, fun a ha b hb => fun z => (h2 b hb).2 (z ▸ ha)⟩, fun x hx => ?_, fun x hx => ?_, List.mem_append_left _ I.start, fun x hx hw y hy => ?_, List.nodup_append.mpr ⟨wn.1, h1, fun a ha b hb z => (h2 b hb).2 (z ▸ I.sub a (List.mem_append_left _ ha))⟩⟩
  · rcases List.mem_append.mp hx with hx | hx
    · exact List.mem_append_left _ (I.sub x (List.mem_append_left _ hx))
    · exact List.mem_append_right _ hx
  · rcases List.mem_append.mp hx with hx | hx
    · exact I.come x hx
    · exact .step (I.come h hh) (h2 x hx).1
  · simp only [List.mem_append, not_or] at hw
    rcases List.mem_append.mp hx with hx | hx
    · by_cases e : x = h
      · subst e; exact h3 y hy
      · exact List.mem_append_left _ (I.done x hx (by simp [hw.1, e]) y hy)
    · exact absurd hx hw.2
theorem PInv.all {f : List α} (I : PInv next s0 f []) : ∀ x, Come next s0 x → x ∈ f := fun x h => by
  induction h with
  | base => exact I.start
  | step _ hy ih => exact I.done _ ih (by simp) _ hy
/-- the law's search: a state is taken off, and where it is new its successors wait -/
structure LInv (next : α → List α) (s0 : α) (f w : List α) : Prop where
  nd : f.Nodup
  come : ∀ x, x ∈ f ∨ x ∈ w → Come next s0 x
  start : s0 ∈ f ∨ s0 ∈ w
  done : ∀ x ∈ f, ∀ y ∈ next x, y ∈ f ∨ y ∈ w
theorem LInv.old {f w : List α} {h : α} (I : LInv next s0 f (w ++ [h])) (hh : h ∈ f) : LInv next s0 f w := by
  refine ⟨I.nd, fun x hx => I.come x (hx.imp id (List.mem_append_left _)), ?_, fun x hx y hy => ?_⟩
  · rcases I.start with z | z
    · exact .inl z
    · rcases List.mem_append.mp z with z | z
      · exact .inr z
      · simp at z; subst z; exact .inl hh
  · rcases I.done x hx y hy with z | z
    · exact .inl z
    · rcases List.mem_append.mp z with z | z
      · exact .inr z
      · simp at z; subst z; exact .inl hh
theorem LInv.new {f w : List α} {h : α} (I : LInv next s0 f (w ++ [h])) (hh : h ∉ f) : LInv next s0 (f ++ [h]) (w ++ next h) := by
  have hc := I.come h (.inr (by simp))
  refine ⟨List.nodup_append.mpr ⟨I.nd, by simp, fun a ha b hb z => by simp at hb; subst hb; exact hh (z ▸ ha)⟩, fun x hx => ?_, ?_, fun x hx y hy => ?_⟩
  · rcases hx with hx | hx
    · rcases List.mem_append.mp hx with hx | hx
      · exact I.come x (.inl hx)
      · simp at hx; subst hx; exact hc
    · rcases List.mem_append.mp hx with hx | hx
      · exact I.come x (.inr (List.mem_append_left _ hx))
      · exact .step hc hx
  · rcases I.start with z | z
    · exact .inl (List.mem_append_left _ z)
    · rcases List.mem_append.mp z with z | z
      · exact .inr (List.mem_append_left _ z)
      · simp at z; subst z; exact .inl (by simp)
  · rcases List.mem_append.mp hx with hx | hx
    · rcases I.done x hx y hy with z | z
      · exact .inl (List.mem_append_left _ z)
      · rcases List.mem_append.mp z with z | z
        · exact .inr (List.mem_append_left _ z)
        · simp at z; subst z; exact .inl (by simp)
    · simp at hx; subst hx; exact .inr (List.mem_append_right _ hy)
theorem LInv.all {f : List α} (I : LInv next s0 f []) : ∀ x, Come next s0 x → x ∈ f := fun x h => by
  induction h with
  | base => exact I.start.resolve_right (by simp)
  | step _ hy ih => exact (I.done _ ih _ hy).resolve_right (by simp)
theorem perm_of {f g : List α} (hf : f.Nodup) (hg : g.Nodup) (h : ∀ x, x ∈ f ↔ x ∈ g) : f.Perm g := by
  refine List.perm_iff_count.mpr fun a => ?_
  rw [hf.count, hg.count]
  by_cases e : a ∈ f
  · rw [if_pos e, if_pos ((h a).mp e)]
  · rw [if_neg e, if_neg fun z => e ((h a).mpr z)]
end
/-! ### a sort of data with an order -/
section
open PySem.W
variable {α : Type} [DecidableEq α] [DatumOrd α]
theorem sortD_same (f : α → D) (hf : ∀ a, (f a).py = some (Datum.toD a)) (anti : ∀ a b : α, DatumOrd.lt a b = false → DatumOrd.lt b a = false → a = b) {l m : List α} (p : l.Perm m) : sortD (l.map f) = sortD (m.map f) := by
  have pd : ∀ a, (f a).pyd = Datum.toD a := fun a => by unfold D.pyd; rw [hf]; rfl
  have le : ∀ a b : α, D.sle (f a) (f b) = !DatumOrd.lt b a := fun a b => by unfold D.sle; rw [pd, pd, DatumOrd.lt_eq]
  have tr : ∀ a b c : α, (!DatumOrd.lt b a) = true → (!DatumOrd.lt c b) = true → (!DatumOrd.lt c a) = true := fun a b c h1 h2 => by
    simp only [Bool.not_eq_true', ← DatumOrd.lt_eq] at h1 h2 ⊢
    cases h : dataLt (Datum.toD c) (Datum.toD a) with
    | false => rfl
    | true =>
      unfold dataLt at h h1 h2
      rcases lex_negTrans _ (keyToks (Datum.toD b)) _ h with z | z
      · rw [h2] at z; cases z
      · rw [h1] at z; cases z
  have to : ∀ a b : α, ((!DatumOrd.lt b a) || !DatumOrd.lt a b) = true := fun a b => by
    simp only [← DatumOrd.lt_eq, Bool.or_eq_true, Bool.not_eq_true']
    cases h : dataLt (Datum.toD b) (Datum.toD a) with
    | false => exact .inl rfl
    | true =>
      refine .inr ?_
      cases h' : dataLt (Datum.toD a) (Datum.toD b) with
      | false => rfl
      | true =>
        unfold dataLt at h h'
        have := lex_trans _ _ _ h h'
        rw [lex_irrefl] at this; cases this
  have e : ∀ k : List α, sortD (k.map f) = (k.mergeSort fun a b => !DatumOrd.lt b a).map f := fun k => by
    unfold sortD
    exact (List.map_mergeSort (fun a _ b _ => (le a b).symm)).symm
  rw [e, e]
  congr 1
  exact PySem.W.Srt.the_of_perm (fun a b : α => !DatumOrd.lt b a) tr to (fun x y h1 h2 => anti x y (by simpa using h2) (by simpa using h1)) ((List.mergeSort_perm _ _).trans p) (List.pairwise_mergeSort tr to l)
theorem listLt_anti : ∀ xs ys : List Int, listLt xs ys = false → listLt ys xs = false → xs = ys
  | [], [], _, _ => rfl
  | [], _ :: _, h, _ => by simp [listLt] at h
  | _ :: _, [], _, h => by simp [listLt] at h
  | x :: xs, y :: ys, h, h' => by
    by_cases e : x = y
    · subst e
      simp only [listLt, if_true] at h h'
      rw [listLt_anti xs ys h h']
    · rw [listLt, if_neg e] at h
      rw [listLt, if_neg (Ne.symm e)] at h'
      have h : decide (x < y) = false := h
      have h' : decide (y < x) = false := h'
      simp at h h'
      omega
end
end L2.AL.SH
namespace L2.AL.SH
open PySem PySem.Spec PyProof.Rows L2 L2.AL TL
/-! what the small defs tell of a record -/
def countsT (r : Rec) : Bool := match r.ea with
  | some (_, z) => !decide (z = Str.ofString "again")
  | none => false
def mayT (r : Rec) : Bool := countsT r || (r.ea.isNone && !decide (r.sort = .look))
def ansT (r : Rec) : Str := match r.ea with
  | some (_, z) => z
  | none => "done"
/-- the row behind a call, if it may stand there -/
def rowT (r : Rec) (u : Bool) : Option Bool := if answerT r.sort u = ansT r then some (behindT r.sort u) else none
def ob : Option Bool → D
  | none => .non
  | some b => .bl b
theorem gne_str (x y : Str) : gNe (.str x) (.str y) = some (eBl (!decide (x = y))) := by unfold gNe D.eq?; rw [dec_beq]; rfl
theorem geq_str (x y : Str) : gEq (.str x) (.str y) = some (eBl (decide (x = y))) := by unfold gEq D.eq?; rw [dec_beq]; rfl
theorem geq_bl (x y : Bool) : gEq (.bl x) (.bl y) = some (eBl (decide (x = y))) := by unfold gEq D.eq?; rw [dec_beq]; rfl
theorem answer_spec (so : Srt) (u : Bool) : m__law_answer [.d (.str (Srt.str so)), .d (.bl u)] = .ok (.d (.str (answerT so u))) [.d (.str (Srt.str so)), .d (.bl u)] := by
  cases so <;> cases u <;> simp [runF, outF, sSeq, sIf, sRet, sRetN, sSet1, sSet, sTg, sExpr, sNx, aVar, aK, aCons, aNil, aOp2, app2, aCall, valL, E.val, aT, aNotT, aAndT, aOrT, aAndV, aOrV, aNotV, aIf, aChain, aTup, aLst, keepL, keep1, freeze, toSL, toS, setL, aFn, appFn, argS, slIx, wb, aIter, D.items?, aMeth, D.tyn, aSlice, aPart, aPartN, gIsi, D.isi, gIs, gIsn, D.is?, D.seq?, aStar, O.toD, eBl, eInt, eStr, tset, tsetL, wipeS, backS, nOwn, D.imm, m__law_answer, b__law_answer, aDict, aPairs, kmerge, kput, kget, gIx, D.key?, Srt.str, answerT, ofString_eq, gInt, atI, ixN, le2]
theorem behind_spec (so : Srt) (u : Bool) : m__law_behind [.d (.str (Srt.str so)), .d (.bl u)] = .ok (.d (.bl (behindT so u))) [.d (.str (Srt.str so)), .d (.bl u)] := by
  cases so <;> cases u <;> simp [runF, outF, sSeq, sIf, sRet, sRetN, sSet1, sSet, sTg, sExpr, sNx, aVar, aK, aCons, aNil, aOp2, app2, aCall, valL, E.val, aT, aNotT, aAndT, aOrT, aAndV, aOrV, aNotV, aIf, aChain, aTup, aLst, keepL, keep1, freeze, toSL, toS, setL, aFn, appFn, argS, slIx, wb, aIter, D.items?, aMeth, D.tyn, aSlice, aPart, aPartN, gIsi, D.isi, gIs, gIsn, D.is?, D.seq?, aStar, O.toD, eBl, eInt, eStr, tset, tsetL, wipeS, backS, nOwn, D.imm, m__law_behind, b__law_behind, Srt.str, behindT, ofString_eq, gEq, D.eq?]
theorem ix_l0 {r : Rec} : gIx r.d (.int 0) = some (.d (.int r.b)) := rfl
theorem ix_l1 {r : Rec} : gIx r.d (.int 1) = some (.d (oi (r.ea.map (·.1)))) := rfl
theorem ix_l2 {r : Rec} : gIx r.d (.int 2) = some (.d (.str r.key)) := rfl
theorem ix_l3 {r : Rec} : gIx r.d (.int 3) = some (.d (.str r.sort.str)) := rfl
theorem ix_l4 {r : Rec} : gIx r.d (.int 4) = some (.d (os (r.ea.map (·.2)))) := rfl
theorem counts_spec (r : Rec) : m__law_counts [.d r.d] = .ok (.d (.bl (countsT r))) [.d r.d] := by
  have h := ix_l4 (r := r)
  unfold m__law_counts b__law_counts
  cases e : r.ea with
  | none => rw [e] at h; simp [runF, outF, sSeq, sIf, sRet, sRetN, sSet1, sSet, sTg, sExpr, sNx, aVar, aK, aCons, aNil, aOp2, app2, aCall, valL, E.val, aT, aNotT, aAndT, aOrT, aAndV, aOrV, aNotV, aIf, aChain, aTup, aLst, keepL, keep1, freeze, toSL, toS, setL, aFn, appFn, argS, slIx, wb, aIter, D.items?, aMeth, D.tyn, aSlice, aPart, aPartN, gIsi, D.isi, gIs, gIsn, D.is?, D.seq?, aStar, O.toD, eBl, eInt, eStr, tset, tsetL, wipeS, backS, nOwn, D.imm, h, os, countsT, e]
  | some p => obtain ⟨t, z⟩ := p; rw [e] at h; simp [runF, outF, sSeq, sIf, sRet, sRetN, sSet1, sSet, sTg, sExpr, sNx, aVar, aK, aCons, aNil, aOp2, app2, aCall, valL, E.val, aT, aNotT, aAndT, aOrT, aAndV, aOrV, aNotV, aIf, aChain, aTup, aLst, keepL, keep1, freeze, toSL, toS, setL, aFn, appFn, argS, slIx, wb, aIter, D.items?, aMeth, D.tyn, aSlice, aPart, aPartN, gIsi, D.isi, gIs, gIsn, D.is?, D.seq?, aStar, O.toD, eBl, eInt, eStr, tset, tsetL, wipeS, backS, nOwn, D.imm, h, os, countsT, e, gne_str]
theorem has_spec (r : Rec) : m_has_counted [.d r.d] = .ok (.d (.bl (countsT r))) [.d r.d] := by
  have h := ix_l4 (r := r)
  have h1 := ix_l1 (r := r)
  unfold m_has_counted b_has_counted
  cases e : r.ea with
  | none => rw [e] at h h1; simp [runF, outF, sSeq, sIf, sRet, sRetN, sSet1, sSet, sTg, sExpr, sNx, aVar, aK, aCons, aNil, aOp2, app2, aCall, valL, E.val, aT, aNotT, aAndT, aOrT, aAndV, aOrV, aNotV, aIf, aChain, aTup, aLst, keepL, keep1, freeze, toSL, toS, setL, aFn, appFn, argS, slIx, wb, aIter, D.items?, aMeth, D.tyn, aSlice, aPart, aPartN, gIsi, D.isi, gIs, gIsn, D.is?, D.seq?, aStar, O.toD, eBl, eInt, eStr, tset, tsetL, wipeS, backS, nOwn, D.imm, h, h1, os, oi, countsT, e]
  | some p => obtain ⟨t, z⟩ := p; rw [e] at h h1; simp [runF, outF, sSeq, sIf, sRet, sRetN, sSet1, sSet, sTg, sExpr, sNx, aVar, aK, aCons, aNil, aOp2, app2, aCall, valL, E.val, aT, aNotT, aAndT, aOrT, aAndV, aOrV, aNotV, aIf, aChain, aTup, aLst, keepL, keep1, freeze, toSL, toS, setL, aFn, appFn, argS, slIx, wb, aIter, D.items?, aMeth, D.tyn, aSlice, aPart, aPartN, gIsi, D.isi, gIs, gIsn, D.is?, D.seq?, aStar, O.toD, eBl, eInt, eStr, tset, tsetL, wipeS, backS, nOwn, D.imm, h, h1, os, oi, countsT, e, gne_str, c_AGAIN]
theorem look_eq {so : Srt} : decide (so.str = Str.ofString "look") = decide (so = .look) := by cases so <;> simp [Srt.str, ofString_eq]
theorem may_spec (r : Rec) : m__law_may [.d r.d] = .ok (.d (.bl (mayT r))) [.d r.d] := by
  have h1 := ix_l1 (r := r)
  have h3 := ix_l3 (r := r)
  have c := counts_spec r
  have q := gne_str r.sort.str (Str.ofString "look")
  rw [look_eq] at q
  unfold m__law_may b__law_may
  cases hc : countsT r with
  | true => rw [hc] at c; simp [runF, outF, sSeq, sIf, sRet, sRetN, sSet1, sSet, sTg, sExpr, sNx, aVar, aK, aCons, aNil, aOp2, app2, aCall, valL, E.val, aT, aNotT, aAndT, aOrT, aAndV, aOrV, aNotV, aIf, aChain, aTup, aLst, keepL, keep1, freeze, toSL, toS, setL, aFn, appFn, argS, slIx, wb, aIter, D.items?, aMeth, D.tyn, aSlice, aPart, aPartN, gIsi, D.isi, gIs, gIsn, D.is?, D.seq?, aStar, O.toD, eBl, eInt, eStr, tset, tsetL, wipeS, backS, nOwn, D.imm, c, mayT, hc]
  | false =>
    rw [hc] at c
    cases e : r.ea with
    | none => rw [e] at h1; simp [runF, outF, sSeq, sIf, sRet, sRetN, sSet1, sSet, sTg, sExpr, sNx, aVar, aK, aCons, aNil, aOp2, app2, aCall, valL, E.val, aT, aNotT, aAndT, aOrT, aAndV, aOrV, aNotV, aIf, aChain, aTup, aLst, keepL, keep1, freeze, toSL, toS, setL, aFn, appFn, argS, slIx, wb, aIter, D.items?, aMeth, D.tyn, aSlice, aPart, aPartN, gIsi, D.isi, gIs, gIsn, D.is?, D.seq?, aStar, O.toD, eBl, eInt, eStr, tset, tsetL, wipeS, backS, nOwn, D.imm, c, mayT, hc, e, h1, h3, oi, q]
    | some p => rw [e] at h1; simp [runF, outF, sSeq, sIf, sRet, sRetN, sSet1, sSet, sTg, sExpr, sNx, aVar, aK, aCons, aNil, aOp2, app2, aCall, valL, E.val, aT, aNotT, aAndT, aOrT, aAndV, aOrV, aNotV, aIf, aChain, aTup, aLst, keepL, keep1, freeze, toSL, toS, setL, aFn, appFn, argS, slIx, wb, aIter, D.items?, aMeth, D.tyn, aSlice, aPart, aPartN, gIsi, D.isi, gIs, gIsn, D.is?, D.seq?, aStar, O.toD, eBl, eInt, eStr, tset, tsetL, wipeS, backS, nOwn, D.imm, c, mayT, hc, e, h1, h3, oi, q]
theorem stand_spec (r : Rec) : m_may_stand [.d r.d] = .ok (.d (.bl (mayT r))) [.d r.d] := by
  have h1 := ix_l1 (r := r)
  have h3 := ix_l3 (r := r)
  have c := has_spec r
  have q := gne_str r.sort.str (Str.ofString "look")
  rw [look_eq] at q
  unfold m_may_stand b_may_stand
  cases hc : countsT r with
  | true => rw [hc] at c; simp [runF, outF, sSeq, sIf, sRet, sRetN, sSet1, sSet, sTg, sExpr, sNx, aVar, aK, aCons, aNil, aOp2, app2, aCall, valL, E.val, aT, aNotT, aAndT, aOrT, aAndV, aOrV, aNotV, aIf, aChain, aTup, aLst, keepL, keep1, freeze, toSL, toS, setL, aFn, appFn, argS, slIx, wb, aIter, D.items?, aMeth, D.tyn, aSlice, aPart, aPartN, gIsi, D.isi, gIs, gIsn, D.is?, D.seq?, aStar, O.toD, eBl, eInt, eStr, tset, tsetL, wipeS, backS, nOwn, D.imm, c, mayT, hc]
  | false =>
    rw [hc] at c
    cases e : r.ea with
    | none => rw [e] at h1; simp [runF, outF, sSeq, sIf, sRet, sRetN, sSet1, sSet, sTg, sExpr, sNx, aVar, aK, aCons, aNil, aOp2, app2, aCall, valL, E.val, aT, aNotT, aAndT, aOrT, aAndV, aOrV, aNotV, aIf, aChain, aTup, aLst, keepL, keep1, freeze, toSL, toS, setL, aFn, appFn, argS, slIx, wb, aIter, D.items?, aMeth, D.tyn, aSlice, aPart, aPartN, gIsi, D.isi, gIs, gIsn, D.is?, D.seq?, aStar, O.toD, eBl, eInt, eStr, tset, tsetL, wipeS, backS, nOwn, D.imm, c, mayT, hc, e, h1, h3, oi, q, c_LOOK]
    | some p => rw [e] at h1; simp [runF, outF, sSeq, sIf, sRet, sRetN, sSet1, sSet, sTg, sExpr, sNx, aVar, aK, aCons, aNil, aOp2, app2, aCall, valL, E.val, aT, aNotT, aAndT, aOrT, aAndV, aOrV, aNotV, aIf, aChain, aTup, aLst, keepL, keep1, freeze, toSL, toS, setL, aFn, appFn, argS, slIx, wb, aIter, D.items?, aMeth, D.tyn, aSlice, aPart, aPartN, gIsi, D.isi, gIs, gIsn, D.is?, D.seq?, aStar, O.toD, eBl, eInt, eStr, tset, tsetL, wipeS, backS, nOwn, D.imm, c, mayT, hc, e, h1, h3, oi, q, c_LOOK]
theorem row_spec {r : Rec} {u : Bool} (hr : RecOk r) (hm : mayT r = true) : m_row_behind [.d r.d, .d (.bl u)] = .ok (.d (ob (rowT r u))) [.d r.d, .d (.bl u)] := by
  obtain ⟨b, k, so, ea⟩ := r
  unfold m_row_behind b_row_behind
  cases ea with
  | none =>
    cases so <;> cases u <;> simp [mayT, countsT] at hm <;>
      simp [runF, outF, sSeq, sIf, sRet, sRetN, sSet1, sSet, sTg, sExpr, sNx, aVar, aK, aCons, aNil, aOp2, app2, aCall, valL, E.val, aT, aNotT, aAndT, aOrT, aAndV, aOrV, aNotV, aIf, aChain, aTup, aLst, keepL, keep1, freeze, toSL, toS, setL, aFn, appFn, argS, slIx, wb, aIter, D.items?, aMeth, D.tyn, aSlice, aPart, aPartN, gIsi, D.isi, gIs, gIsn, D.is?, D.seq?, aStar, O.toD, eBl, eInt, eStr, tset, tsetL, wipeS, backS, nOwn, D.imm, Rec.d, Rec.l, oi, os, Srt.str, geq_str, geq_bl, ofString_eq, rowT, ansT, answerT, behindT, ob, gIn, D.in?, D.flat, D.inF, D.eqf, gEq, D.eq?, D.py, SeqAt.shaped, le2]
  | some p =>
    obtain ⟨t, z⟩ := p
    have hz := (hr.ea t z rfl).2
    cases so <;> cases u <;> simp only [answersT, List.mem_cons, List.not_mem_nil, or_false] at hz <;> rcases hz with rfl | rfl | rfl <;> simp [mayT, countsT] at hm <;>
      simp [runF, outF, sSeq, sIf, sRet, sRetN, sSet1, sSet, sTg, sExpr, sNx, aVar, aK, aCons, aNil, aOp2, app2, aCall, valL, E.val, aT, aNotT, aAndT, aOrT, aAndV, aOrV, aNotV, aIf, aChain, aTup, aLst, keepL, keep1, freeze, toSL, toS, setL, aFn, appFn, argS, slIx, wb, aIter, D.items?, aMeth, D.tyn, aSlice, aPart, aPartN, gIsi, D.isi, gIs, gIsn, D.is?, D.seq?, aStar, O.toD, eBl, eInt, eStr, tset, tsetL, wipeS, backS, nOwn, D.imm, Rec.d, Rec.l, oi, os, Srt.str, geq_str, geq_bl, ofString_eq, rowT, ansT, answerT, behindT, ob, gIn, D.in?, D.flat, D.inF, D.eqf, gEq, D.eq?, D.py, SeqAt.shaped, le2]
end L2.AL.SH
namespace L2.AL.SH
open PySem PySem.Spec PyProof.Rows L2 L2.AL TL
/-! the states behind a state: the law's way -/
def at_ (rs : List Rec) (i : Nat) : Rec := (rs[i]?).getD ⟨0, "", .put, none⟩
def numsT (rs : List Rec) (k : Str) : List Nat := (List.range rs.length).filter fun i => decide ((at_ rs i).key = k)
abbrev Stt := List Nat × Bool
def sD (s : Stt) : D := .tup [.tup (s.1.map nI), .bl s.2]
def insT (done : List Nat) (n : Nat) : List Nat := (done ++ [n]).mergeSort fun a b => decide (a ≤ b)
def endT (r : Rec) : Int := (r.ea.map (·.1)).getD 0
def leftT (rs : List Rec) (nums : List Nat) (s : Stt) : List Nat := nums.filter fun m => !decide (m ∈ s.1) && countsT (at_ rs m)
def freeT (rs : List Rec) (nums : List Nat) (s : Stt) (n : Nat) : Bool := (!decide (n ∈ s.1) && mayT (at_ rs n)) && (leftT rs nums s).all fun m => decide ((at_ rs n).b < endT (at_ rs m))
def goT (rs : List Rec) (nums : List Nat) (s : Stt) (n : Nat) : Option Stt := if freeT rs nums s n = true then (rowT (at_ rs n) s.2).map fun u => (insT s.1 n, u) else none
def nextT (rs : List Rec) (nums : List Nat) (s : Stt) : List Stt := nums.filterMap (goT rs nums s)
def bookD (rs : List Rec) : D := .tup (rs.map Rec.d)
structure NumsOk (rs : List Rec) (nums : List Nat) : Prop where
  asc : nums.Pairwise (· < ·)
  lt : ∀ n ∈ nums, n < rs.length
  few : nums.length ≤ 8
theorem ix_book {rs : List Rec} {n : Nat} (h : n < rs.length) : gIx (bookD rs) (.int n) = some (.d (at_ rs n).d) := by
  have e : (rs.map Rec.d)[n]? = some (at_ rs n).d := by
    rw [List.getElem?_map, List.getElem?_eq_getElem h]
    simp [at_, List.getElem?_eq_getElem h]
  simp only [bookD, gIx, atI, ixN]
  rw [if_pos (by omega), if_pos (by rw [List.length_map]; omega)]
  simp only [Int.toNat_natCast, Option.bind_some, e, Option.map_some]
theorem inF_nI (m : Nat) : ∀ ns : List Nat, D.inF (nI m) (ns.map nI) = decide (m ∈ ns)
  | [] => rfl
  | n :: ns => by
    have q := inF_nI m ns
    unfold D.inF at q ⊢
    rw [List.map_cons, List.any_cons, q]
    have e : D.eqf (nI n) (nI m) = decide (m = n) := by
      unfold nI
      rw [D.eqf]
      rw [Bool.eq_iff_iff]; simp; omega
    rw [e, Bool.eq_iff_iff]
    simp
theorem flat_nI (ns : List Nat) : (ns.map nI).all D.flat = true := by
  rw [List.all_map]; exact List.all_eq_true.mpr fun _ _ => rfl
theorem in_nI (m : Nat) (ns : List Nat) : gIn (.int m) (.tup (ns.map nI)) = some (eBl (decide (m ∈ ns))) := by
  have f := flat_nI ns
  have q := inF_nI m ns
  unfold nI at q
  simp only [gIn, D.in?, D.flat, f, and_self, if_true, Option.map_some]
  rw [← q]; rfl
theorem ni_nI (m : Nat) (ns : List Nat) : gNi (.int m) (.tup (ns.map nI)) = some (eBl (!decide (m ∈ ns))) := by
  have f := flat_nI ns
  have q := inF_nI m ns
  unfold nI at q
  simp only [gNi, D.in?, D.flat, f, and_self, if_true, Option.map_some]
  rw [← q]; rfl
theorem sle_nI (a b : Nat) : D.sle (nI a) (nI b) = decide (a ≤ b) := by
  have e : ∀ c : Nat, (nI c).pyd = .int c := fun c => rfl
  unfold D.sle
  rw [e, e, PySem.W.dataLt_int]
  rw [Bool.eq_iff_iff]; simp
theorem sortD_nI (ns : List Nat) : sortD (ns.map nI) = (ns.mergeSort fun a b => decide (a ≤ b)).map nI := by
  unfold sortD
  exact (List.map_mergeSort (fun a _ b _ => (sle_nI a b).symm)).symm
theorem sorted_tup (ns : List Nat) : gSorted [.tup (ns.map nI)] = some (.fr (.lst ((ns.mergeSort fun a b => decide (a ≤ b)).map nI))) := by
  have ok : sortOk (ns.map nI) = true := by
    unfold sortOk
    simp only [Bool.and_eq_true, Bool.or_eq_true, List.all_eq_true, List.mem_map, forall_exists_index, and_imp, forall_apply_eq_imp_iff₂]
    refine ⟨⟨fun a _ => ⟨rfl, ?_⟩, fun a _ b _ => ?_⟩, .inr fun a _ => rfl⟩
    · exact decide_eq_true (by show PyData.depth (.int a) ≤ 60; simp [PyData.depth])
    · show PySem.W.alike (.int a) (.int b) = true
      simp only [PySem.W.alike]
  simp only [gSorted, if_pos ok, sortD_nI]
theorem sorted_lst (ns : List Nat) : gSorted [.lst (ns.map nI)] = some (.fr (.lst ((ns.mergeSort fun a b => decide (a ≤ b)).map nI))) := by
  have e : sortI (ns.map fun n : Nat => (n : Int)) = (ns.mergeSort fun a b => decide (a ≤ b)).map fun n : Nat => (n : Int) := by
    unfold sortI
    refine (List.map_mergeSort (fun a _ b _ => ?_)).symm
    rw [Bool.eq_iff_iff]; simp
  simp only [gSorted, ints_nI, e, List.map_map]
  rfl
theorem any_bls {α : Type} (p : α → Bool) (l : List α) : gAny [.lst (l.map fun a => D.bl (p a))] = some (eBl (l.any p)) := by
  have q := bls_map (l.map p)
  rw [List.map_map] at q
  have q : D.bls? (l.map fun a => D.bl (p a)) = some (l.map p) := q
  simp only [gAny, q, Option.map_some, List.any_map]
  rfl
theorem app_eq {ρ : List S} {i : Nat} {F : List D} {x : D} {f : List S → Res E} (h : ρ[i]? = some (.own (.lst F))) (hf : f ρ = .ok (.d x) ρ) (sz : F.length < sizeLine) : sExpr (aMut "list" i uAppend (aCons f aNil)) ρ = .ok .nx (ρ.set i (.own (.lst (F ++ [x])))) := by
  simp [sExpr, aMut, h, O.tyn, aCons, hf, aNil, keepL, keep1, uAppend, sz]
def lBody : List S → Res Fl := (sSeq (sTg (.tp [(.nm 7), (.nm 8), (.nm 9), (.nm 10), (.nm 11)]) (aOp2 gIx (aVar 0) (aVar 6)))
  (sSeq (sSet1 12 (aLc [13] (aIter (aVar 1)) (.nm 13) (aAndT (aT (aOp2 gNi (aVar 13) (aVar 3))) (aT (aFn m__law_counts (aCons (aOp2 gIx (aVar 0) (aVar 13)) aNil)))) (aVar 13)))
  (sSeq (sSet1 14 (aAndV (aOp2 gNi (aVar 6) (aVar 3)) (aFn m__law_may (aCons (aOp2 gIx (aVar 0) (aVar 6)) aNil))))
  (sIf (aAndT (aTruth (aVar 14)) (aNotT (aT (aCall gAny (aCons (aLc [13] (aIter (aVar 12)) (.nm 13) aYes (aOp2 gLt (aOp2 gIx (aOp2 gIx (aVar 0) (aVar 13)) (aK (.int 1))) (aVar 7))) aNil))))) (sIf (aT (aOp2 gEq (aFn m__law_answer (aCons (aVar 10) (aCons (aVar 4) aNil))) (aIf (aT (aOp2 gIs (aVar 11) (aK .non))) (aK (.str "done")) (aVar 11)))) (sExpr (aMut "list" 5 uAppend (aCons (aTup (aCons (aCall gTuple (aCons (aCall gSorted (aCons (aOp2 gAdd (aVar 3) (aTup (aCons (aVar 6) aNil))) aNil)) aNil)) (aCons (aFn m__law_behind (aCons (aVar 10) (aCons (aVar 4) aNil))) aNil))) aNil))) sNx) sNx))))
def nl (rs : List Rec) (nums : List Nat) (s : Stt) (F : List D) (s6 s7 s8 s9 s10 s11 s12 s14 : S) : List S :=
  [.d (bookD rs), .d (.lst (nums.map nI)), .d (sD s), .d (.tup (s.1.map nI)), .d (.bl s.2), .own (.lst F), s6, s7, s8, s9, s10, s11, s12, .no, s14]
section
variable {rs : List Rec} {nums : List Nat} {s : Stt} {F : List D} {s6 s7 s8 s9 s10 s11 s12 s14 : S} {n : Nat}
theorem bne {m : Nat} (hR : RecsOk rs) (hn : n < rs.length) (hm : m < rs.length) (hc : countsT (at_ rs m) = true) : endT (at_ rs m) ≠ (at_ rs n).b := by
  have e1 : at_ rs n = rs[n] := by simp [at_, List.getElem?_eq_getElem hn]
  have e2 : at_ rs m = rs[m] := by simp [at_, List.getElem?_eq_getElem hm]
  cases he : (at_ rs m).ea with
  | none => rw [countsT, he] at hc; cases hc
  | some p =>
    have h1 : (at_ rs n).b ∈ rs.map (·.b) := List.mem_map.mpr ⟨rs[n], List.getElem_mem _, by rw [e1]⟩
    have h2 : p.1 ∈ rs.filterMap fun r => r.ea.map (·.1) := List.mem_filterMap.mpr ⟨rs[m], List.getElem_mem _, by rw [← e2, he]; rfl⟩
    have := (List.nodup_append.mp hR.times).2.2 _ h1 _ h2
    rw [endT, he]
    exact fun z => this z.symm
theorem left_eq (hN : NumsOk rs nums) (h12 : ∀ o, s12 = .own o → True) : aLc [13] (aIter (aVar 1)) (.nm 13) (aAndT (aT (aOp2 gNi (aVar 13) (aVar 3))) (aT (aFn m__law_counts (aCons (aOp2 gIx (aVar 0) (aVar 13)) aNil)))) (aVar 13) (nl rs nums s F s6 s7 s8 s9 s10 s11 s12 s14) =
    .ok (.fr (.lst ((leftT rs nums s).map nI))) (nl rs nums s F s6 s7 s8 s9 s10 s11 s12 s14) := by
  refine (aLc_map nI nI (fun m => !decide (m ∈ s.1) && countsT (at_ rs m)) nums (ρ1 := nl rs nums s F s6 s7 s8 s9 s10 s11 s12 s14) (by simp [runF, outF, sSeq, sIf, sRet, sRetN, sSet1, sSet, sTg, sExpr, sNx, aVar, aK, aCons, aNil, aOp2, app2, aCall, valL, E.val, aT, aNotT, aAndT, aOrT, aAndV, aOrV, aNotV, aIf, aChain, aTup, aLst, keepL, keep1, freeze, toSL, toS, setL, aFn, appFn, argS, slIx, wb, aIter, D.items?, aMeth, D.tyn, aSlice, aPart, aPartN, gIsi, D.isi, gIs, gIsn, D.is?, D.seq?, aStar, O.toD, eBl, eInt, eStr, tset, tsetL, wipeS, backS, nOwn, D.imm, nl]) rfl (fun m hm => ?_) (small_line (by have := hN.few; omega))).trans rfl
  have hb := ix_book (hN.lt m hm)
  have hc := counts_spec (at_ rs m)
  have hi := ni_nI m s.1
  refine ⟨_, .d (nI m), rfl, ?_, fun _ => ⟨rfl, rfl⟩, rfl⟩
  cases hmem : decide (m ∈ s.1) with
  | true => rw [hmem] at hi; simp [runF, outF, sSeq, sIf, sRet, sRetN, sSet1, sSet, sTg, sExpr, sNx, aVar, aK, aCons, aNil, aOp2, app2, aCall, valL, E.val, aT, aNotT, aAndT, aOrT, aAndV, aOrV, aNotV, aIf, aChain, aTup, aLst, keepL, keep1, freeze, toSL, toS, setL, aFn, appFn, argS, slIx, wb, aIter, D.items?, aMeth, D.tyn, aSlice, aPart, aPartN, gIsi, D.isi, gIs, gIsn, D.is?, D.seq?, aStar, O.toD, eBl, eInt, eStr, tset, tsetL, wipeS, backS, nOwn, D.imm, nl, nI, hi]
  | false => rw [hmem] at hi; simp [runF, outF, sSeq, sIf, sRet, sRetN, sSet1, sSet, sTg, sExpr, sNx, aVar, aK, aCons, aNil, aOp2, app2, aCall, valL, E.val, aT, aNotT, aAndT, aOrT, aAndV, aOrV, aNotV, aIf, aChain, aTup, aLst, keepL, keep1, freeze, toSL, toS, setL, aFn, appFn, argS, slIx, wb, aIter, D.items?, aMeth, D.tyn, aSlice, aPart, aPartN, gIsi, D.isi, gIs, gIsn, D.is?, D.seq?, aStar, O.toD, eBl, eInt, eStr, tset, tsetL, wipeS, backS, nOwn, D.imm, nl, nI, hi, hb, hc]
theorem any_eq (hN : NumsOk rs nums) (hR : RecsOk rs) (hn : n < rs.length) : aCall gAny (aCons (aLc [13] (aIter (aVar 12)) (.nm 13) aYes (aOp2 gLt (aOp2 gIx (aOp2 gIx (aVar 0) (aVar 13)) (aK (.int 1))) (aVar 7))) aNil) (nl rs nums s F s6 (.d (.int (at_ rs n).b)) s8 s9 s10 s11 (.own (.lst ((leftT rs nums s).map nI))) s14) =
    .ok (.d (.bl (!(leftT rs nums s).all fun m => decide ((at_ rs n).b < endT (at_ rs m))))) (nl rs nums s F s6 (.d (.int (at_ rs n).b)) s8 s9 s10 s11 (.d (.lst ((leftT rs nums s).map nI))) s14) := by
  have e := aLc_all (it := aIter (aVar 12)) (t := .nm 13) (f := aOp2 gLt (aOp2 gIx (aOp2 gIx (aVar 0) (aVar 13)) (aK (.int 1))) (aVar 7)) (vs := [13]) nI (fun m => .bl (decide (endT (at_ rs m) < (at_ rs n).b))) (leftT rs nums s) (ρ := nl rs nums s F s6 (.d (.int (at_ rs n).b)) s8 s9 s10 s11 (.own (.lst ((leftT rs nums s).map nI))) s14)
    (ρ1 := nl rs nums s F s6 (.d (.int (at_ rs n).b)) s8 s9 s10 s11 (.d (.lst ((leftT rs nums s).map nI))) s14) (by simp [runF, outF, sSeq, sIf, sRet, sRetN, sSet1, sSet, sTg, sExpr, sNx, aVar, aK, aCons, aNil, aOp2, app2, aCall, valL, E.val, aT, aNotT, aAndT, aOrT, aAndV, aOrV, aNotV, aIf, aChain, aTup, aLst, keepL, keep1, freeze, toSL, toS, setL, aFn, appFn, argS, slIx, wb, aIter, D.items?, aMeth, D.tyn, aSlice, aPart, aPartN, gIsi, D.isi, gIs, gIsn, D.is?, D.seq?, aStar, O.toD, eBl, eInt, eStr, tset, tsetL, wipeS, backS, nOwn, D.imm, nl]) rfl (fun m hm => by
      have hm' := (List.mem_filter.mp hm).1
      have hcm := (List.mem_filter.mp hm).2
      rw [Bool.and_eq_true] at hcm
      have hb := ix_book (hN.lt m hm')
      have h1 := ix_l1 (r := at_ rs m)
      refine ⟨_, .d (.bl (decide (endT (at_ rs m) < (at_ rs n).b))), rfl, ?_, rfl, rfl⟩
      cases he : (at_ rs m).ea with
      | none => have := hcm.2; rw [countsT, he] at this; cases this
      | some p => rw [he] at h1; simp [runF, outF, sSeq, sIf, sRet, sRetN, sSet1, sSet, sTg, sExpr, sNx, aVar, aK, aCons, aNil, aOp2, app2, aCall, valL, E.val, aT, aNotT, aAndT, aOrT, aAndV, aOrV, aNotV, aIf, aChain, aTup, aLst, keepL, keep1, freeze, toSL, toS, setL, aFn, appFn, argS, slIx, wb, aIter, D.items?, aMeth, D.tyn, aSlice, aPart, aPartN, gIsi, D.isi, gIs, gIsn, D.is?, D.seq?, aStar, O.toD, eBl, eInt, eStr, tset, tsetL, wipeS, backS, nOwn, D.imm, nl, nI, hb, h1, oi, gLt, endT, he]) (small_line (by have := hN.few; have := List.length_filter_le (fun m => !decide (m ∈ s.1) && countsT (at_ rs m)) nums; unfold leftT; omega))
  have q := any_bls (fun m => decide (endT (at_ rs m) < (at_ rs n).b)) (leftT rs nums s)
  have bb : ((leftT rs nums s).any fun m => decide (endT (at_ rs m) < (at_ rs n).b)) = !(leftT rs nums s).all fun m => decide ((at_ rs n).b < endT (at_ rs m)) := by
    have ne : ∀ m ∈ leftT rs nums s, endT (at_ rs m) ≠ (at_ rs n).b := fun m hm => by
      have hm' := (List.mem_filter.mp hm).1
      have hcm := (List.mem_filter.mp hm).2
      rw [Bool.and_eq_true] at hcm
      exact bne hR hn (hN.lt m hm') hcm.2
    rw [Bool.eq_iff_iff, List.any_eq_true, Bool.not_eq_true', List.all_eq_false]
    constructor
    · rintro ⟨m, hm, h⟩
      exact ⟨m, hm, by simp at h ⊢; omega⟩
    · rintro ⟨m, hm, h⟩
      have := ne m hm
      exact ⟨m, hm, by simp at h ⊢; omega⟩
  rw [bb] at q
  rw [aCall, aCons, e]
  simp only [Res.bind_ok, aNil, valL, E.val, O.toD, Option.bind_some, q]
  rfl
theorem truth14 {b : Bool} : aTruth (aVar 14) (nl rs nums s F s6 s7 s8 s9 s10 s11 s12 (.d (.bl b))) = .ok b (nl rs nums s F s6 s7 s8 s9 s10 s11 s12 (.d (.bl b))) := by cases b <;> rfl
theorem next_turn (hN : NumsOk rs nums) (hR : RecsOk rs) (hn : n ∈ nums) (hs : s.1.length ≤ 1000) (hF : F.length ≤ 1000) : ∃ t7 t8 t9 t10 t11 t12 t14, lBody (nl rs nums s F (.d (.int n)) s7 s8 s9 s10 s11 s12 s14) =
    .ok .nx (nl rs nums s (F ++ ((goT rs nums s n).toList.map sD)) (.d (.int n)) t7 t8 t9 t10 t11 t12 t14) := by
  have hl := hN.lt n hn
  have hb := ix_book hl
  obtain ⟨r, hr⟩ : ∃ r, r = at_ rs n := ⟨_, rfl⟩
  have row : RecOk r := by
    rw [hr]
    have : at_ rs n = rs[n] := by simp [at_, List.getElem?_eq_getElem hl]
    rw [this]
    exact hR.row _ (List.getElem_mem _)
  have st1 : sTg (.tp [(.nm 7), (.nm 8), (.nm 9), (.nm 10), (.nm 11)]) (aOp2 gIx (aVar 0) (aVar 6)) (nl rs nums s F (.d (.int n)) s7 s8 s9 s10 s11 s12 s14) =
      .ok .nx (nl rs nums s F (.d (.int n)) (.d (.int r.b)) (.d (oi (r.ea.map (·.1)))) (.d (.str r.key)) (.d (.str r.sort.str)) (.d (os (r.ea.map (·.2)))) s12 s14) := by
    rw [← hr] at hb
    simp only [nl]
    simp only [Rec.d, Rec.l] at hb
    simp [runF, outF, sSeq, sIf, sRet, sRetN, sSet1, sSet, sTg, sExpr, sNx, aVar, aK, aCons, aNil, aOp2, app2, aCall, valL, E.val, aT, aNotT, aAndT, aOrT, aAndV, aOrV, aNotV, aIf, aChain, aTup, aLst, keepL, keep1, freeze, toSL, toS, setL, aFn, appFn, argS, slIx, wb, aIter, D.items?, aMeth, D.tyn, aSlice, aPart, aPartN, gIsi, D.isi, gIs, gIsn, D.is?, D.seq?, aStar, O.toD, eBl, eInt, eStr, tset, tsetL, wipeS, backS, nOwn, D.imm, hb]
  have st2 := left_eq (rs := rs) (nums := nums) (s := s) (F := F) (s6 := .d (.int n)) (s7 := .d (.int r.b)) (s8 := .d (oi (r.ea.map (·.1)))) (s9 := .d (.str r.key)) (s10 := .d (.str r.sort.str)) (s11 := .d (os (r.ea.map (·.2)))) (s12 := s12) (s14 := s14) hN (fun _ _ => trivial)
  have st3 : sSet1 14 (aAndV (aOp2 gNi (aVar 6) (aVar 3)) (aFn m__law_may (aCons (aOp2 gIx (aVar 0) (aVar 6)) aNil))) (nl rs nums s F (.d (.int n)) (.d (.int r.b)) (.d (oi (r.ea.map (·.1)))) (.d (.str r.key)) (.d (.str r.sort.str)) (.d (os (r.ea.map (·.2)))) (.own (.lst ((leftT rs nums s).map nI))) s14) =
      .ok .nx (nl rs nums s F (.d (.int n)) (.d (.int r.b)) (.d (oi (r.ea.map (·.1)))) (.d (.str r.key)) (.d (.str r.sort.str)) (.d (os (r.ea.map (·.2)))) (.own (.lst ((leftT rs nums s).map nI))) (.d (.bl (!decide (n ∈ s.1) && mayT r)))) := by
    have hi := ni_nI n s.1
    have hm := may_spec (at_ rs n)
    rw [← hr] at hb hm
    cases hmem : decide (n ∈ s.1) with
    | true => rw [hmem] at hi; simp [runF, outF, sSeq, sIf, sRet, sRetN, sSet1, sSet, sTg, sExpr, sNx, aVar, aK, aCons, aNil, aOp2, app2, aCall, valL, E.val, aT, aNotT, aAndT, aOrT, aAndV, aOrV, aNotV, aIf, aChain, aTup, aLst, keepL, keep1, freeze, toSL, toS, setL, aFn, appFn, argS, slIx, wb, aIter, D.items?, aMeth, D.tyn, aSlice, aPart, aPartN, gIsi, D.isi, gIs, gIsn, D.is?, D.seq?, aStar, O.toD, eBl, eInt, eStr, tset, tsetL, wipeS, backS, nOwn, D.imm, nl, hi]
    | false => rw [hmem] at hi; simp [runF, outF, sSeq, sIf, sRet, sRetN, sSet1, sSet, sTg, sExpr, sNx, aVar, aK, aCons, aNil, aOp2, app2, aCall, valL, E.val, aT, aNotT, aAndT, aOrT, aAndV, aOrV, aNotV, aIf, aChain, aTup, aLst, keepL, keep1, freeze, toSL, toS, setL, aFn, appFn, argS, slIx, wb, aIter, D.items?, aMeth, D.tyn, aSlice, aPart, aPartN, gIsi, D.isi, gIs, gIsn, D.is?, D.seq?, aStar, O.toD, eBl, eInt, eStr, tset, tsetL, wipeS, backS, nOwn, D.imm, nl, hi, hb, hm]
  unfold lBody
  rw [seq_nx st1, seq_nx (set_o st2 (by simp [nl]))]
  show ∃ t7 t8 t9 t10 t11 t12 t14, sSeq _ _ (nl rs nums s F (.d (.int n)) (.d (.int r.b)) (.d (oi (r.ea.map (·.1)))) (.d (.str r.key)) (.d (.str r.sort.str)) (.d (os (r.ea.map (·.2)))) (.own (.lst ((leftT rs nums s).map nI))) s14) = _
  rw [seq_nx st3]
  cases hfree : (!decide (n ∈ s.1) && mayT r) with
  | false =>
    have hgo : goT rs nums s n = none := by unfold goT freeT; rw [← hr, hfree]; rfl
    refine ⟨.d (.int r.b), .d (oi (r.ea.map (·.1))), .d (.str r.key), .d (.str r.sort.str), .d (os (r.ea.map (·.2))), .own (.lst ((leftT rs nums s).map nI)), .d (.bl false), (if_f (ρ1 := nl rs nums s F (.d (.int n)) (.d (.int r.b)) (.d (oi (r.ea.map (·.1)))) (.d (.str r.key)) (.d (.str r.sort.str)) (.d (os (r.ea.map (·.2)))) (.own (.lst ((leftT rs nums s).map nI))) (.d (.bl false))) ?_).trans ?_⟩
    · unfold aAndT; rw [truth14]; rfl
    · rw [hgo]; simp [runF, outF, sSeq, sIf, sRet, sRetN, sSet1, sSet, sTg, sExpr, sNx, aVar, aK, aCons, aNil, aOp2, app2, aCall, valL, E.val, aT, aNotT, aAndT, aOrT, aAndV, aOrV, aNotV, aIf, aChain, aTup, aLst, keepL, keep1, freeze, toSL, toS, setL, aFn, appFn, argS, slIx, wb, aIter, D.items?, aMeth, D.tyn, aSlice, aPart, aPartN, gIsi, D.isi, gIs, gIsn, D.is?, D.seq?, aStar, O.toD, eBl, eInt, eStr, tset, tsetL, wipeS, backS, nOwn, D.imm]
  | true =>
    have an := any_eq (F := F) (s := s) (s6 := .d (.int n)) (s8 := .d (oi (r.ea.map (·.1)))) (s9 := .d (.str r.key)) (s10 := .d (.str r.sort.str)) (s11 := .d (os (r.ea.map (·.2)))) (s14 := .d (.bl true)) hN hR hl
    rw [← hr] at an
    cases hall : ((leftT rs nums s).all fun m => decide (r.b < endT (at_ rs m))) with
    | false =>
      rw [hall] at an
      have hgo : goT rs nums s n = none := by unfold goT freeT; rw [← hr, hfree, hall]; rfl
      refine ⟨.d (.int r.b), .d (oi (r.ea.map (·.1))), .d (.str r.key), .d (.str r.sort.str), .d (os (r.ea.map (·.2))), .d (.lst ((leftT rs nums s).map nI)), .d (.bl true), (if_f (ρ1 := nl rs nums s F (.d (.int n)) (.d (.int r.b)) (.d (oi (r.ea.map (·.1)))) (.d (.str r.key)) (.d (.str r.sort.str)) (.d (os (r.ea.map (·.2)))) (.d (.lst ((leftT rs nums s).map nI))) (.d (.bl true))) ?_).trans ?_⟩
      · unfold aAndT
        rw [truth14]
        simp only [Res.bind_ok, if_true]
        exact aNotT_of (aT_of an)
      · rw [hgo]; simp [runF, outF, sSeq, sIf, sRet, sRetN, sSet1, sSet, sTg, sExpr, sNx, aVar, aK, aCons, aNil, aOp2, app2, aCall, valL, E.val, aT, aNotT, aAndT, aOrT, aAndV, aOrV, aNotV, aIf, aChain, aTup, aLst, keepL, keep1, freeze, toSL, toS, setL, aFn, appFn, argS, slIx, wb, aIter, D.items?, aMeth, D.tyn, aSlice, aPart, aPartN, gIsi, D.isi, gIs, gIsn, D.is?, D.seq?, aStar, O.toD, eBl, eInt, eStr, tset, tsetL, wipeS, backS, nOwn, D.imm]
    | true =>
      rw [hall] at an
      have c1 : aAndT (aTruth (aVar 14)) (aNotT (aT (aCall gAny (aCons (aLc [13] (aIter (aVar 12)) (.nm 13) aYes (aOp2 gLt (aOp2 gIx (aOp2 gIx (aVar 0) (aVar 13)) (aK (.int 1))) (aVar 7))) aNil)))) (nl rs nums s F (.d (.int n)) (.d (.int r.b)) (.d (oi (r.ea.map (·.1)))) (.d (.str r.key)) (.d (.str r.sort.str)) (.d (os (r.ea.map (·.2)))) (.own (.lst ((leftT rs nums s).map nI))) (.d (.bl true))) =
          .ok true (nl rs nums s F (.d (.int n)) (.d (.int r.b)) (.d (oi (r.ea.map (·.1)))) (.d (.str r.key)) (.d (.str r.sort.str)) (.d (os (r.ea.map (·.2)))) (.d (.lst ((leftT rs nums s).map nI))) (.d (.bl true))) := by
        unfold aAndT
        rw [truth14]
        simp only [Res.bind_ok, if_true]
        exact aNotT_of (aT_of an)
      have c2 : aT (aOp2 gEq (aFn m__law_answer (aCons (aVar 10) (aCons (aVar 4) aNil))) (aIf (aT (aOp2 gIs (aVar 11) (aK .non))) (aK (.str "done")) (aVar 11))) (nl rs nums s F (.d (.int n)) (.d (.int r.b)) (.d (oi (r.ea.map (·.1)))) (.d (.str r.key)) (.d (.str r.sort.str)) (.d (os (r.ea.map (·.2)))) (.d (.lst ((leftT rs nums s).map nI))) (.d (.bl true))) =
          .ok (decide (answerT r.sort s.2 = ansT r)) (nl rs nums s F (.d (.int n)) (.d (.int r.b)) (.d (oi (r.ea.map (·.1)))) (.d (.str r.key)) (.d (.str r.sort.str)) (.d (os (r.ea.map (·.2)))) (.d (.lst ((leftT rs nums s).map nI))) (.d (.bl true))) := by
        have a := answer_spec r.sort s.2
        have g := geq_str (answerT r.sort s.2) (ansT r)
        cases he : r.ea with
        | none => rw [ansT, he] at g; simp [runF, outF, sSeq, sIf, sRet, sRetN, sSet1, sSet, sTg, sExpr, sNx, aVar, aK, aCons, aNil, aOp2, app2, aCall, valL, E.val, aT, aNotT, aAndT, aOrT, aAndV, aOrV, aNotV, aIf, aChain, aTup, aLst, keepL, keep1, freeze, toSL, toS, setL, aFn, appFn, argS, slIx, wb, aIter, D.items?, aMeth, D.tyn, aSlice, aPart, aPartN, gIsi, D.isi, gIs, gIsn, D.is?, D.seq?, aStar, O.toD, eBl, eInt, eStr, tset, tsetL, wipeS, backS, nOwn, D.imm, nl, a, os, oi, g, ansT, he]
        | some p => obtain ⟨t, z⟩ := p; rw [ansT, he] at g; simp [runF, outF, sSeq, sIf, sRet, sRetN, sSet1, sSet, sTg, sExpr, sNx, aVar, aK, aCons, aNil, aOp2, app2, aCall, valL, E.val, aT, aNotT, aAndT, aOrT, aAndV, aOrV, aNotV, aIf, aChain, aTup, aLst, keepL, keep1, freeze, toSL, toS, setL, aFn, appFn, argS, slIx, wb, aIter, D.items?, aMeth, D.tyn, aSlice, aPart, aPartN, gIsi, D.isi, gIs, gIsn, D.is?, D.seq?, aStar, O.toD, eBl, eInt, eStr, tset, tsetL, wipeS, backS, nOwn, D.imm, nl, a, os, oi, g, ansT, he]
      by_cases hans : answerT r.sort s.2 = ansT r
      · have hgo : goT rs nums s n = some (insT s.1 n, behindT r.sort s.2) := by unfold goT freeT rowT; rw [← hr, hfree, hall, if_pos hans]; rfl
        rw [decide_eq_true hans] at c2
        refine ⟨.d (.int r.b), .d (oi (r.ea.map (·.1))), .d (.str r.key), .d (.str r.sort.str), .d (os (r.ea.map (·.2))), .d (.lst ((leftT rs nums s).map nI)), .d (.bl true), (if_t c1).trans ((if_t c2).trans ?_)⟩
        rw [hgo]
        have a := behind_spec r.sort s.2
        have ga : gAdd (.tup (s.1.map nI)) (.tup [.int n]) = some (.d (.tup ((s.1 ++ [n]).map nI))) := by
          simp only [gAdd]
          rw [if_pos (by simp; exact small_line (by omega))]
          simp [nI]
        have so := sorted_tup (s.1 ++ [n])
        have sz : F.length < sizeLine := Nat.lt_of_le_of_lt hF (by rw [sizeLine_eq]; decide)
        have l1 : (1 : Nat) ≤ sizeLine := le1
        have q1 : aOp2 gAdd (aVar 3) (aTup (aCons (aVar 6) aNil)) (nl rs nums s F (.d (.int n)) (.d (.int r.b)) (.d (oi (r.ea.map (·.1)))) (.d (.str r.key)) (.d (.str r.sort.str)) (.d (os (r.ea.map (·.2)))) (.d (.lst ((leftT rs nums s).map nI))) (.d (.bl true))) = .ok (.d (.tup ((s.1 ++ [n]).map nI))) (nl rs nums s F (.d (.int n)) (.d (.int r.b)) (.d (oi (r.ea.map (·.1)))) (.d (.str r.key)) (.d (.str r.sort.str)) (.d (os (r.ea.map (·.2)))) (.d (.lst ((leftT rs nums s).map nI))) (.d (.bl true))) := by
          simp [runF, outF, sSeq, sIf, sRet, sRetN, sSet1, sSet, sTg, sExpr, sNx, aVar, aK, aCons, aNil, aOp2, app2, aCall, valL, E.val, aT, aNotT, aAndT, aOrT, aAndV, aOrV, aNotV, aIf, aChain, aTup, aLst, keepL, keep1, freeze, toSL, toS, setL, aFn, appFn, argS, slIx, wb, aIter, D.items?, aMeth, D.tyn, aSlice, aPart, aPartN, gIsi, D.isi, gIs, gIsn, D.is?, D.seq?, aStar, O.toD, eBl, eInt, eStr, tset, tsetL, wipeS, backS, nOwn, D.imm, nl, l1, ga]
        have q2 : aCall gTuple (aCons (aCall gSorted (aCons (aOp2 gAdd (aVar 3) (aTup (aCons (aVar 6) aNil))) aNil)) aNil) (nl rs nums s F (.d (.int n)) (.d (.int r.b)) (.d (oi (r.ea.map (·.1)))) (.d (.str r.key)) (.d (.str r.sort.str)) (.d (os (r.ea.map (·.2)))) (.d (.lst ((leftT rs nums s).map nI))) (.d (.bl true))) = .ok (.d (.tup ((insT s.1 n).map nI))) (nl rs nums s F (.d (.int n)) (.d (.int r.b)) (.d (oi (r.ea.map (·.1)))) (.d (.str r.key)) (.d (.str r.sort.str)) (.d (os (r.ea.map (·.2)))) (.d (.lst ((leftT rs nums s).map nI))) (.d (.bl true))) := by
          simp only [aCall, aCons, q1, Res.bind_ok, aNil, valL, E.val, Option.bind_some, so, O.toD, gTuple, insT]
        have q3 : aFn m__law_behind (aCons (aVar 10) (aCons (aVar 4) aNil)) (nl rs nums s F (.d (.int n)) (.d (.int r.b)) (.d (oi (r.ea.map (·.1)))) (.d (.str r.key)) (.d (.str r.sort.str)) (.d (os (r.ea.map (·.2)))) (.d (.lst ((leftT rs nums s).map nI))) (.d (.bl true))) = .ok (.d (.bl (behindT r.sort s.2))) (nl rs nums s F (.d (.int n)) (.d (.int r.b)) (.d (oi (r.ea.map (·.1)))) (.d (.str r.key)) (.d (.str r.sort.str)) (.d (os (r.ea.map (·.2)))) (.d (.lst ((leftT rs nums s).map nI))) (.d (.bl true))) := by
          simp [runF, outF, sSeq, sIf, sRet, sRetN, sSet1, sSet, sTg, sExpr, sNx, aVar, aK, aCons, aNil, aOp2, app2, aCall, valL, E.val, aT, aNotT, aAndT, aOrT, aAndV, aOrV, aNotV, aIf, aChain, aTup, aLst, keepL, keep1, freeze, toSL, toS, setL, aFn, appFn, argS, slIx, wb, aIter, D.items?, aMeth, D.tyn, aSlice, aPart, aPartN, gIsi, D.isi, gIs, gIsn, D.is?, D.seq?, aStar, O.toD, eBl, eInt, eStr, tset, tsetL, wipeS, backS, nOwn, D.imm, nl, a]
        have q4 : aTup (aCons (aCall gTuple (aCons (aCall gSorted (aCons (aOp2 gAdd (aVar 3) (aTup (aCons (aVar 6) aNil))) aNil)) aNil)) (aCons (aFn m__law_behind (aCons (aVar 10) (aCons (aVar 4) aNil))) aNil)) (nl rs nums s F (.d (.int n)) (.d (.int r.b)) (.d (oi (r.ea.map (·.1)))) (.d (.str r.key)) (.d (.str r.sort.str)) (.d (os (r.ea.map (·.2)))) (.d (.lst ((leftT rs nums s).map nI))) (.d (.bl true))) = .ok (.d (sD (insT s.1 n, behindT r.sort s.2))) (nl rs nums s F (.d (.int n)) (.d (.int r.b)) (.d (oi (r.ea.map (·.1)))) (.d (.str r.key)) (.d (.str r.sort.str)) (.d (os (r.ea.map (·.2)))) (.d (.lst ((leftT rs nums s).map nI))) (.d (.bl true))) := by
          simp only [aTup, aCons, q2, q3, Res.bind_ok, aNil, keepL, keep1, List.length_cons, List.length_nil]
          rw [if_pos le2]
          rfl
        exact (app_eq (i := 5) (F := F) rfl q4 sz).trans rfl
      · have hgo : goT rs nums s n = none := by unfold goT freeT rowT; rw [← hr, hfree, hall, if_neg hans]; rfl
        rw [decide_eq_false hans] at c2
        refine ⟨.d (.int r.b), .d (oi (r.ea.map (·.1))), .d (.str r.key), .d (.str r.sort.str), .d (os (r.ea.map (·.2))), .d (.lst ((leftT rs nums s).map nI)), .d (.bl true), (if_t c1).trans ((if_f c2).trans ?_)⟩
        rw [hgo]; simp [runF, outF, sSeq, sIf, sRet, sRetN, sSet1, sSet, sTg, sExpr, sNx, aVar, aK, aCons, aNil, aOp2, app2, aCall, valL, E.val, aT, aNotT, aAndT, aOrT, aAndV, aOrV, aNotV, aIf, aChain, aTup, aLst, keepL, keep1, freeze, toSL, toS, setL, aFn, appFn, argS, slIx, wb, aIter, D.items?, aMeth, D.tyn, aSlice, aPart, aPartN, gIsi, D.isi, gIs, gIsn, D.is?, D.seq?, aStar, O.toD, eBl, eInt, eStr, tset, tsetL, wipeS, backS, nOwn, D.imm]
end
end L2.AL.SH
namespace L2.AL.SH
open PySem PySem.Spec PyProof.Rows L2 L2.AL TL
section
variable {rs : List Rec} {nums : List Nat} {s : Stt} {F : List D} {s6 s7 s8 s9 s10 s11 s12 s14 sN : S} {n : Nat} {k : Str}
theorem go_len {β : Type} (f : Nat → Option β) (hN : NumsOk rs nums) (i : Nat) : ((nums.take i).filterMap f).length ≤ 8 := by
  have h1 := List.length_filterMap_le f (nums.take i)
  have h2 : (nums.take i).length ≤ nums.length := by rw [List.length_take]; omega
  have := hN.few
  omega
theorem take_go {β : Type} (f : Nat → Option β) {i : Nat} (h : nums[i]? = some n) : (nums.take (i + 1)).filterMap f = (nums.take i).filterMap f ++ (f n).toList := by
  rw [List.take_add_one, h, List.filterMap_append]
  cases e : f n <;> simp [e]
theorem run_sl {np nl j : Nat} {f : List S → Res Fl} {ρ ρ1 : List S} {o : O} (hρ : ρ.length = np) (h : f (ρ ++ List.replicate nl .no) = .ok (.rt (.sl j)) ρ1) (hj : np ≤ j) (ho : ρ1[j]? = some (.own o)) : runF np nl f ρ = .ok (.fr o) (ρ1.take np) := by
  unfold runF
  rw [if_pos hρ, h, outF, if_neg (by omega)]
  simp only [ho]
theorem next_spec (hN : NumsOk rs nums) (hR : RecsOk rs) (hs : s.1.length ≤ 1000) (hS : sN = .own (.lst (nums.map nI)) ∨ sN = .d (.lst (nums.map nI))) :
    m__law_next [.d (bookD rs), sN, .d (sD s)] = .ok (.fr (.lst ((nextT rs nums s).map sD))) [.d (bookD rs), .d (.lst (nums.map nI)), .d (sD s)] := by
  obtain ⟨ρ', e, t6, t7, t8, t9, t10, t11, t12, t14, rfl⟩ := sFor_ex (t := .nm 6) (body := lBody) (it := aIter (aVar 1)) (ρ := [.d (bookD rs), sN, .d (sD s), .d (.tup (s.1.map nI)), .d (.bl s.2), .own (.lst []), .no, .no, .no, .no, .no, .no, .no, .no, .no]) (ρ1 := nl rs nums s [] .no .no .no .no .no .no .no .no)
    (I := fun i ρ => ∃ t6 t7 t8 t9 t10 t11 t12 t14, ρ = nl rs nums s (((nums.take i).filterMap (goT rs nums s)).map sD) t6 t7 t8 t9 t10 t11 t12 t14) (xs := nums.map nI) (by rcases hS with rfl | rfl <;> simp [runF, outF, sSeq, sIf, sRet, sRetN, sSet1, sSet, sTg, sExpr, sNx, aVar, aK, aCons, aNil, aOp2, app2, aCall, valL, E.val, aT, aNotT, aAndT, aOrT, aAndV, aOrV, aNotV, aIf, aChain, aTup, aLst, keepL, keep1, freeze, toSL, toS, setL, aFn, appFn, argS, slIx, wb, aIter, D.items?, aMeth, D.tyn, aSlice, aPart, aPartN, gIsi, D.isi, gIs, gIsn, D.is?, D.seq?, aStar, O.toD, eBl, eInt, eStr, tset, tsetL, wipeS, backS, nOwn, D.imm, nl]) (by
      rintro i x ρ hx ⟨t6, t7, t8, t9, t10, t11, t12, t14, rfl⟩
      rw [List.getElem?_map] at hx
      obtain ⟨n, hn, rfl⟩ := Option.map_eq_some_iff.mp hx
      have gl := go_len (goT rs nums s) hN i
      obtain ⟨u7, u8, u9, u10, u11, u12, u14, e⟩ := next_turn (s7 := t7) (s8 := t8) (s9 := t9) (s10 := t10) (s11 := t11) (s12 := t12) (s14 := t14) (F := ((nums.take i).filterMap (goT rs nums s)).map sD) hN hR (List.mem_of_getElem? hn) hs (by rw [List.length_map]; omega)
      refine ⟨_, _, rfl, e, .d (nI n), u7, u8, u9, u10, u11, u12, u14, ?_⟩
      rw [take_go _ hn, List.map_append]
      rfl) ⟨_, _, _, _, _, _, _, _, rfl⟩
  rw [List.length_map, List.take_length] at e
  unfold m__law_next b__law_next
  refine (run_sl (o := .lst ((nextT rs nums s).map sD)) (j := 5) (ρ1 := nl rs nums s ((nums.filterMap (goT rs nums s)).map sD) t6 t7 t8 t9 t10 t11 t12 t14) rfl ?_ (by show 3 ≤ 5; omega) rfl).trans rfl
  show sSeq _ (sSeq (sFor _ _ lBody) _) [.d (bookD rs), sN, .d (sD s), .no, .no, .no, .no, .no, .no, .no, .no, .no, .no, .no, .no] = _
  rw [seq_nx (ρ1 := [.d (bookD rs), sN, .d (sD s), .d (.tup (s.1.map nI)), .d (.bl s.2), .own (.lst []), .no, .no, .no, .no, .no, .no, .no, .no, .no]) (by rcases hS with rfl | rfl <;> simp [runF, outF, sSeq, sIf, sRet, sRetN, sSet1, sSet, sTg, sExpr, sNx, aVar, aK, aCons, aNil, aOp2, app2, aCall, valL, E.val, aT, aNotT, aAndT, aOrT, aAndV, aOrV, aNotV, aIf, aChain, aTup, aLst, keepL, keep1, freeze, toSL, toS, setL, aFn, appFn, argS, slIx, wb, aIter, D.items?, aMeth, D.tyn, aSlice, aPart, aPartN, gIsi, D.isi, gIs, gIsn, D.is?, D.seq?, aStar, O.toD, eBl, eInt, eStr, tset, tsetL, wipeS, backS, nOwn, D.imm, sD, gIx, atI, ixN]), seq_nx e]
  rfl
/-! ### the program's way -/
def pD (p : Nat × Stt) : D := .tup [nI p.1, sD p.2]
def ledT (rs : List Rec) (nums : List Nat) (s : Stt) (n : Nat) : Option (Nat × Stt) := (goT rs nums s n).map fun t => (n, t)
def mBody : List S → Res Fl := (sSeq (sSet1 8 (aOp2 gIx (aVar 0) (aVar 7)))
  (sIf (aAndT (aT (aOp2 gNi (aVar 7) (aVar 3))) (aAndT (aT (aFn m_may_stand (aCons (aVar 8) aNil))) (aT (aCall gAll (aCons (aLc [9] (aIter (aVar 6)) (.nm 9) aYes (aOp2 gLt (aOp2 gIx (aVar 8) (aK (.int 0))) (aVar 9))) aNil))))) (sSeq (sSet1 10 (aFn m_row_behind (aCons (aVar 8) (aCons (aVar 4) aNil))))
  (sIf (aT (aOp2 gIsn (aVar 10) (aK .non))) (sExpr (aMut "list" 5 uAppend (aCons (aTup (aCons (aVar 7) (aCons (aTup (aCons (aCall gTuple (aCons (aCall gSorted (aCons (aLst (aStar (aVar 3) (aCons (aVar 7) aNil))) aNil)) aNil)) (aCons (aVar 10) aNil))) aNil))) aNil))) sNx)) sNx))
def endsD (rs : List Rec) (nums : List Nat) (s : Stt) : List D := (leftT rs nums s).map fun m => .int (endT (at_ rs m))
/-- the slots; the ends stand as the name's own list or frozen -/
def ml (rs : List Rec) (nums : List Nat) (s : Stt) (F : List D) (sE s7 s8 s10 : S) : List S :=
  [.d (bookD rs), .d (.lst (nums.map nI)), .d (sD s), .d (.tup (s.1.map nI)), .d (.bl s.2), .own (.lst F), sE, s7, s8, .no, s10]
theorem keepL_ds : ∀ (xs : List D) (ρ : List S), keepL (xs.map E.d) ρ = some (xs, ρ)
  | [], _ => rfl
  | x :: xs, ρ => by
    rw [List.map_cons, keepL, keep1]
    simp only [keepL_ds xs ρ]
theorem ends_spec (hN : NumsOk rs nums) (hS : sN = .own (.lst (nums.map nI)) ∨ sN = .d (.lst (nums.map nI))) : aLc [7] (aIter (aVar 1)) (.nm 7) (aAndT (aT (aOp2 gNi (aVar 7) (aVar 3))) (aT (aFn m_has_counted (aCons (aOp2 gIx (aVar 0) (aVar 7)) aNil)))) (aOp2 gIx (aOp2 gIx (aVar 0) (aVar 7)) (aK (.int 1))) [.d (bookD rs), sN, .d (sD s), .d (.tup (s.1.map nI)), .d (.bl s.2), .own (.lst []), .no, .no, .no, .no, .no] =
    .ok (.fr (.lst (endsD rs nums s))) (ml rs nums s [] .no .no .no .no) := by
  refine (aLc_map nI (fun m => D.int (endT (at_ rs m))) (fun m => !decide (m ∈ s.1) && countsT (at_ rs m)) nums (ρ1 := ml rs nums s [] .no .no .no .no) (by rcases hS with rfl | rfl <;> simp [runF, outF, sSeq, sIf, sRet, sRetN, sSet1, sSet, sTg, sExpr, sNx, aVar, aK, aCons, aNil, aOp2, app2, aCall, valL, E.val, aT, aNotT, aAndT, aOrT, aAndV, aOrV, aNotV, aIf, aChain, aTup, aLst, keepL, keep1, freeze, toSL, toS, setL, aFn, appFn, argS, slIx, wb, aIter, D.items?, aMeth, D.tyn, aSlice, aPart, aPartN, gIsi, D.isi, gIs, gIsn, D.is?, D.seq?, aStar, O.toD, eBl, eInt, eStr, tset, tsetL, wipeS, backS, nOwn, D.imm, ml]) rfl (fun m hm => ?_) (small_line (by have := hN.few; omega))).trans rfl
  have hb := ix_book (hN.lt m hm)
  have hc := has_spec (at_ rs m)
  have h1 := ix_l1 (r := at_ rs m)
  have hi := ni_nI m s.1
  refine ⟨[.d (bookD rs), .d (.lst (nums.map nI)), .d (sD s), .d (.tup (s.1.map nI)), .d (.bl s.2), .own (.lst []), .no, .d (nI m), .no, .no, .no], .d (.int (endT (at_ rs m))), rfl, ?_, fun hp => ⟨?_, rfl⟩, rfl⟩
  · cases hmem : decide (m ∈ s.1) with
    | true => rw [hmem] at hi; simp [runF, outF, sSeq, sIf, sRet, sRetN, sSet1, sSet, sTg, sExpr, sNx, aVar, aK, aCons, aNil, aOp2, app2, aCall, valL, E.val, aT, aNotT, aAndT, aOrT, aAndV, aOrV, aNotV, aIf, aChain, aTup, aLst, keepL, keep1, freeze, toSL, toS, setL, aFn, appFn, argS, slIx, wb, aIter, D.items?, aMeth, D.tyn, aSlice, aPart, aPartN, gIsi, D.isi, gIs, gIsn, D.is?, D.seq?, aStar, O.toD, eBl, eInt, eStr, tset, tsetL, wipeS, backS, nOwn, D.imm, nI, hi]
    | false => rw [hmem] at hi; simp [runF, outF, sSeq, sIf, sRet, sRetN, sSet1, sSet, sTg, sExpr, sNx, aVar, aK, aCons, aNil, aOp2, app2, aCall, valL, E.val, aT, aNotT, aAndT, aOrT, aAndV, aOrV, aNotV, aIf, aChain, aTup, aLst, keepL, keep1, freeze, toSL, toS, setL, aFn, appFn, argS, slIx, wb, aIter, D.items?, aMeth, D.tyn, aSlice, aPart, aPartN, gIsi, D.isi, gIs, gIsn, D.is?, D.seq?, aStar, O.toD, eBl, eInt, eStr, tset, tsetL, wipeS, backS, nOwn, D.imm, nI, hi, hb, hc]
  · rw [Bool.and_eq_true] at hp
    cases he : (at_ rs m).ea with
    | none => have := hp.2; rw [countsT, he] at this; cases this
    | some p => rw [he] at h1; simp [runF, outF, sSeq, sIf, sRet, sRetN, sSet1, sSet, sTg, sExpr, sNx, aVar, aK, aCons, aNil, aOp2, app2, aCall, valL, E.val, aT, aNotT, aAndT, aOrT, aAndV, aOrV, aNotV, aIf, aChain, aTup, aLst, keepL, keep1, freeze, toSL, toS, setL, aFn, appFn, argS, slIx, wb, aIter, D.items?, aMeth, D.tyn, aSlice, aPart, aPartN, gIsi, D.isi, gIs, gIsn, D.is?, D.seq?, aStar, O.toD, eBl, eInt, eStr, tset, tsetL, wipeS, backS, nOwn, D.imm, nI, hb, h1, oi, endT, he]
theorem led_turn (hN : NumsOk rs nums) (hR : RecsOk rs) (hn : n ∈ nums) (hs : s.1.length ≤ 1000) (hF : F.length ≤ 1000) {sE : S} (hE : sE = .own (.lst (endsD rs nums s)) ∨ sE = .d (.lst (endsD rs nums s))) : ∃ tE t8 t10, mBody (ml rs nums s F sE (.d (.int n)) s8 s10) =
    .ok .nx (ml rs nums s (F ++ ((ledT rs nums s n).toList.map pD)) tE (.d (.int n)) t8 t10) ∧ (tE = .own (.lst (endsD rs nums s)) ∨ tE = .d (.lst (endsD rs nums s))) := by
  have hl := hN.lt n hn
  have hb := ix_book hl
  obtain ⟨r, hr⟩ : ∃ r, r = at_ rs n := ⟨_, rfl⟩
  have row : RecOk r := by
    rw [hr]
    have : at_ rs n = rs[n] := by simp [at_, List.getElem?_eq_getElem hl]
    rw [this]
    exact hR.row _ (List.getElem_mem _)
  rw [← hr] at hb
  have st1 : sSet1 8 (aOp2 gIx (aVar 0) (aVar 7)) (ml rs nums s F sE (.d (.int n)) s8 s10) = .ok .nx (ml rs nums s F sE (.d (.int n)) (.d r.d) s10) := by
    simp [runF, outF, sSeq, sIf, sRet, sRetN, sSet1, sSet, sTg, sExpr, sNx, aVar, aK, aCons, aNil, aOp2, app2, aCall, valL, E.val, aT, aNotT, aAndT, aOrT, aAndV, aOrV, aNotV, aIf, aChain, aTup, aLst, keepL, keep1, freeze, toSL, toS, setL, aFn, appFn, argS, slIx, wb, aIter, D.items?, aMeth, D.tyn, aSlice, aPart, aPartN, gIsi, D.isi, gIs, gIsn, D.is?, D.seq?, aStar, O.toD, eBl, eInt, eStr, tset, tsetL, wipeS, backS, nOwn, D.imm, ml, hb]
  have hi := ni_nI n s.1
  have hm := stand_spec r
  unfold mBody
  rw [seq_nx st1]
  have a1 : aT (aOp2 gNi (aVar 7) (aVar 3)) (ml rs nums s F sE (.d (.int n)) (.d r.d) s10) = .ok (!decide (n ∈ s.1)) (ml rs nums s F sE (.d (.int n)) (.d r.d) s10) := by
    simp [runF, outF, sSeq, sIf, sRet, sRetN, sSet1, sSet, sTg, sExpr, sNx, aVar, aK, aCons, aNil, aOp2, app2, aCall, valL, E.val, aT, aNotT, aAndT, aOrT, aAndV, aOrV, aNotV, aIf, aChain, aTup, aLst, keepL, keep1, freeze, toSL, toS, setL, aFn, appFn, argS, slIx, wb, aIter, D.items?, aMeth, D.tyn, aSlice, aPart, aPartN, gIsi, D.isi, gIs, gIsn, D.is?, D.seq?, aStar, O.toD, eBl, eInt, eStr, tset, tsetL, wipeS, backS, nOwn, D.imm, ml, hi]
  have a2 : aT (aFn m_may_stand (aCons (aVar 8) aNil)) (ml rs nums s F sE (.d (.int n)) (.d r.d) s10) = .ok (mayT r) (ml rs nums s F sE (.d (.int n)) (.d r.d) s10) := by
    simp [runF, outF, sSeq, sIf, sRet, sRetN, sSet1, sSet, sTg, sExpr, sNx, aVar, aK, aCons, aNil, aOp2, app2, aCall, valL, E.val, aT, aNotT, aAndT, aOrT, aAndV, aOrV, aNotV, aIf, aChain, aTup, aLst, keepL, keep1, freeze, toSL, toS, setL, aFn, appFn, argS, slIx, wb, aIter, D.items?, aMeth, D.tyn, aSlice, aPart, aPartN, gIsi, D.isi, gIs, gIsn, D.is?, D.seq?, aStar, O.toD, eBl, eInt, eStr, tset, tsetL, wipeS, backS, nOwn, D.imm, ml, hm]
  cases h1 : decide (n ∈ s.1) with
  | true =>
    have hgo : ledT rs nums s n = none := by unfold ledT goT freeT; rw [h1]; rfl
    refine ⟨sE, .d r.d, s10, (if_f (ρ1 := ml rs nums s F sE (.d (.int n)) (.d r.d) s10) ?_).trans ?_, hE⟩
    · unfold aAndT; rw [a1, h1]; rfl
    · rw [hgo]; simp [runF, outF, sSeq, sIf, sRet, sRetN, sSet1, sSet, sTg, sExpr, sNx, aVar, aK, aCons, aNil, aOp2, app2, aCall, valL, E.val, aT, aNotT, aAndT, aOrT, aAndV, aOrV, aNotV, aIf, aChain, aTup, aLst, keepL, keep1, freeze, toSL, toS, setL, aFn, appFn, argS, slIx, wb, aIter, D.items?, aMeth, D.tyn, aSlice, aPart, aPartN, gIsi, D.isi, gIs, gIsn, D.is?, D.seq?, aStar, O.toD, eBl, eInt, eStr, tset, tsetL, wipeS, backS, nOwn, D.imm]
  | false =>
    cases h2 : mayT r with
    | false =>
      have hgo : ledT rs nums s n = none := by unfold ledT goT freeT; rw [← hr, h1, h2]; rfl
      refine ⟨sE, .d r.d, s10, (if_f (ρ1 := ml rs nums s F sE (.d (.int n)) (.d r.d) s10) ?_).trans ?_, hE⟩
      · unfold aAndT; rw [a1, h1]
        simp only [Res.bind_ok, Bool.not_false, if_true]
        rw [a2, h2]; rfl
      · rw [hgo]; simp [runF, outF, sSeq, sIf, sRet, sRetN, sSet1, sSet, sTg, sExpr, sNx, aVar, aK, aCons, aNil, aOp2, app2, aCall, valL, E.val, aT, aNotT, aAndT, aOrT, aAndV, aOrV, aNotV, aIf, aChain, aTup, aLst, keepL, keep1, freeze, toSL, toS, setL, aFn, appFn, argS, slIx, wb, aIter, D.items?, aMeth, D.tyn, aSlice, aPart, aPartN, gIsi, D.isi, gIs, gIsn, D.is?, D.seq?, aStar, O.toD, eBl, eInt, eStr, tset, tsetL, wipeS, backS, nOwn, D.imm]
    | true =>
      have e := aLc_all (it := aIter (aVar 6)) (t := .nm 9) (f := aOp2 gLt (aOp2 gIx (aVar 8) (aK (.int 0))) (aVar 9)) (vs := [9]) (fun m => D.int (endT (at_ rs m))) (fun m => .bl (decide (r.b < endT (at_ rs m)))) (leftT rs nums s) (ρ := ml rs nums s F sE (.d (.int n)) (.d r.d) s10)
        (ρ1 := ml rs nums s F (.d (.lst (endsD rs nums s))) (.d (.int n)) (.d r.d) s10) (by rcases hE with rfl | rfl <;> simp [runF, outF, sSeq, sIf, sRet, sRetN, sSet1, sSet, sTg, sExpr, sNx, aVar, aK, aCons, aNil, aOp2, app2, aCall, valL, E.val, aT, aNotT, aAndT, aOrT, aAndV, aOrV, aNotV, aIf, aChain, aTup, aLst, keepL, keep1, freeze, toSL, toS, setL, aFn, appFn, argS, slIx, wb, aIter, D.items?, aMeth, D.tyn, aSlice, aPart, aPartN, gIsi, D.isi, gIs, gIsn, D.is?, D.seq?, aStar, O.toD, eBl, eInt, eStr, tset, tsetL, wipeS, backS, nOwn, D.imm, ml, endsD]) rfl (fun m hm => ⟨_, .d (.bl (decide (r.b < endT (at_ rs m)))), rfl, (by simp [runF, outF, sSeq, sIf, sRet, sRetN, sSet1, sSet, sTg, sExpr, sNx, aVar, aK, aCons, aNil, aOp2, app2, aCall, valL, E.val, aT, aNotT, aAndT, aOrT, aAndV, aOrV, aNotV, aIf, aChain, aTup, aLst, keepL, keep1, freeze, toSL, toS, setL, aFn, appFn, argS, slIx, wb, aIter, D.items?, aMeth, D.tyn, aSlice, aPart, aPartN, gIsi, D.isi, gIs, gIsn, D.is?, D.seq?, aStar, O.toD, eBl, eInt, eStr, tset, tsetL, wipeS, backS, nOwn, D.imm, ml, ix_l0, gLt]), rfl, rfl⟩)
        (small_line (by have := hN.few; have := List.length_filter_le (fun m => !decide (m ∈ s.1) && countsT (at_ rs m)) nums; unfold leftT; omega))
      have bl : gAll [.lst ((leftT rs nums s).map fun m => D.bl (decide (r.b < endT (at_ rs m))))] = some (eBl ((leftT rs nums s).all fun m => decide (r.b < endT (at_ rs m)))) := by
        have q := bls_map ((leftT rs nums s).map fun m => decide (r.b < endT (at_ rs m)))
        rw [List.map_map] at q
        have q : D.bls? ((leftT rs nums s).map fun m => D.bl (decide (r.b < endT (at_ rs m)))) = some ((leftT rs nums s).map fun m => decide (r.b < endT (at_ rs m))) := q
        simp only [gAll, q, Option.map_some, List.all_map]
        rfl
      have a3 : aT (aCall gAll (aCons (aLc [9] (aIter (aVar 6)) (.nm 9) aYes (aOp2 gLt (aOp2 gIx (aVar 8) (aK (.int 0))) (aVar 9))) aNil)) (ml rs nums s F sE (.d (.int n)) (.d r.d) s10) = .ok ((leftT rs nums s).all fun m => decide (r.b < endT (at_ rs m))) (ml rs nums s F (.d (.lst (endsD rs nums s))) (.d (.int n)) (.d r.d) s10) := by
        refine aT_of ?_
        rw [aCall, aCons, e]
        simp only [Res.bind_ok, aNil, valL, E.val, O.toD, Option.bind_some, bl]
        rfl
      have c : aAndT (aT (aOp2 gNi (aVar 7) (aVar 3))) (aAndT (aT (aFn m_may_stand (aCons (aVar 8) aNil))) (aT (aCall gAll (aCons (aLc [9] (aIter (aVar 6)) (.nm 9) aYes (aOp2 gLt (aOp2 gIx (aVar 8) (aK (.int 0))) (aVar 9))) aNil)))) (ml rs nums s F sE (.d (.int n)) (.d r.d) s10) =
          .ok ((leftT rs nums s).all fun m => decide (r.b < endT (at_ rs m))) (ml rs nums s F (.d (.lst (endsD rs nums s))) (.d (.int n)) (.d r.d) s10) := by
        unfold aAndT
        rw [a1, h1]
        simp only [Res.bind_ok, Bool.not_false, if_true, a2, h2, a3]
      cases h3 : ((leftT rs nums s).all fun m => decide (r.b < endT (at_ rs m))) with
      | false =>
        rw [h3] at c
        have hgo : ledT rs nums s n = none := by unfold ledT goT freeT; rw [← hr, h1, h2, h3]; rfl
        refine ⟨.d (.lst (endsD rs nums s)), .d r.d, s10, (if_f c).trans ?_, .inr rfl⟩
        rw [hgo]; simp [runF, outF, sSeq, sIf, sRet, sRetN, sSet1, sSet, sTg, sExpr, sNx, aVar, aK, aCons, aNil, aOp2, app2, aCall, valL, E.val, aT, aNotT, aAndT, aOrT, aAndV, aOrV, aNotV, aIf, aChain, aTup, aLst, keepL, keep1, freeze, toSL, toS, setL, aFn, appFn, argS, slIx, wb, aIter, D.items?, aMeth, D.tyn, aSlice, aPart, aPartN, gIsi, D.isi, gIs, gIsn, D.is?, D.seq?, aStar, O.toD, eBl, eInt, eStr, tset, tsetL, wipeS, backS, nOwn, D.imm]
      | true =>
        rw [h3] at c
        have rw1 := row_spec (u := s.2) row h2
        have st2 : sSet1 10 (aFn m_row_behind (aCons (aVar 8) (aCons (aVar 4) aNil))) (ml rs nums s F (.d (.lst (endsD rs nums s))) (.d (.int n)) (.d r.d) s10) = .ok .nx (ml rs nums s F (.d (.lst (endsD rs nums s))) (.d (.int n)) (.d r.d) (.d (ob (rowT r s.2)))) := by
          simp [runF, outF, sSeq, sIf, sRet, sRetN, sSet1, sSet, sTg, sExpr, sNx, aVar, aK, aCons, aNil, aOp2, app2, aCall, valL, E.val, aT, aNotT, aAndT, aOrT, aAndV, aOrV, aNotV, aIf, aChain, aTup, aLst, keepL, keep1, freeze, toSL, toS, setL, aFn, appFn, argS, slIx, wb, aIter, D.items?, aMeth, D.tyn, aSlice, aPart, aPartN, gIsi, D.isi, gIs, gIsn, D.is?, D.seq?, aStar, O.toD, eBl, eInt, eStr, tset, tsetL, wipeS, backS, nOwn, D.imm, ml, rw1]
        cases h4 : rowT r s.2 with
        | none =>
          have hgo : ledT rs nums s n = none := by unfold ledT goT freeT; rw [← hr, h1, h2, h3, h4]; rfl
          refine ⟨.d (.lst (endsD rs nums s)), .d r.d, .d .non, (if_t c).trans ((seq_nx st2).trans ?_), .inr rfl⟩
          rw [h4, if_f (ρ1 := ml rs nums s F (.d (.lst (endsD rs nums s))) (.d (.int n)) (.d r.d) (.d .non)) (by simp [runF, outF, sSeq, sIf, sRet, sRetN, sSet1, sSet, sTg, sExpr, sNx, aVar, aK, aCons, aNil, aOp2, app2, aCall, valL, E.val, aT, aNotT, aAndT, aOrT, aAndV, aOrV, aNotV, aIf, aChain, aTup, aLst, keepL, keep1, freeze, toSL, toS, setL, aFn, appFn, argS, slIx, wb, aIter, D.items?, aMeth, D.tyn, aSlice, aPart, aPartN, gIsi, D.isi, gIs, gIsn, D.is?, D.seq?, aStar, O.toD, eBl, eInt, eStr, tset, tsetL, wipeS, backS, nOwn, D.imm, ml, ob]), hgo]
          simp [runF, outF, sSeq, sIf, sRet, sRetN, sSet1, sSet, sTg, sExpr, sNx, aVar, aK, aCons, aNil, aOp2, app2, aCall, valL, E.val, aT, aNotT, aAndT, aOrT, aAndV, aOrV, aNotV, aIf, aChain, aTup, aLst, keepL, keep1, freeze, toSL, toS, setL, aFn, appFn, argS, slIx, wb, aIter, D.items?, aMeth, D.tyn, aSlice, aPart, aPartN, gIsi, D.isi, gIs, gIsn, D.is?, D.seq?, aStar, O.toD, eBl, eInt, eStr, tset, tsetL, wipeS, backS, nOwn, D.imm]
        | some u =>
          have hgo : ledT rs nums s n = some (n, (insT s.1 n, u)) := by unfold ledT goT freeT; rw [← hr, h1, h2, h3, h4]; rfl
          refine ⟨.d (.lst (endsD rs nums s)), .d r.d, .d (.bl u), (if_t c).trans ((seq_nx st2).trans ?_), .inr rfl⟩
          rw [h4, if_t (ρ1 := ml rs nums s F (.d (.lst (endsD rs nums s))) (.d (.int n)) (.d r.d) (.d (.bl u))) (by simp [runF, outF, sSeq, sIf, sRet, sRetN, sSet1, sSet, sTg, sExpr, sNx, aVar, aK, aCons, aNil, aOp2, app2, aCall, valL, E.val, aT, aNotT, aAndT, aOrT, aAndV, aOrV, aNotV, aIf, aChain, aTup, aLst, keepL, keep1, freeze, toSL, toS, setL, aFn, appFn, argS, slIx, wb, aIter, D.items?, aMeth, D.tyn, aSlice, aPart, aPartN, gIsi, D.isi, gIs, gIsn, D.is?, D.seq?, aStar, O.toD, eBl, eInt, eStr, tset, tsetL, wipeS, backS, nOwn, D.imm, ml, ob]), hgo]
          have so := sorted_lst (s.1 ++ [n])
          have sz : F.length < sizeLine := Nat.lt_of_le_of_lt hF (by rw [sizeLine_eq]; decide)
          have q1 : aLst (aStar (aVar 3) (aCons (aVar 7) aNil)) (ml rs nums s F (.d (.lst (endsD rs nums s))) (.d (.int n)) (.d r.d) (.d (.bl u))) = .ok (.fr (.lst ((s.1 ++ [n]).map nI))) (ml rs nums s F (.d (.lst (endsD rs nums s))) (.d (.int n)) (.d r.d) (.d (.bl u))) := by
            have v3 : aVar 3 (ml rs nums s F (.d (.lst (endsD rs nums s))) (.d (.int n)) (.d r.d) (.d (.bl u))) = .ok (.d (.tup (s.1.map nI))) (ml rs nums s F (.d (.lst (endsD rs nums s))) (.d (.int n)) (.d r.d) (.d (.bl u))) := rfl
            have v7 : aVar 7 (ml rs nums s F (.d (.lst (endsD rs nums s))) (.d (.int n)) (.d r.d) (.d (.bl u))) = .ok (.d (.int n)) (ml rs nums s F (.d (.lst (endsD rs nums s))) (.d (.int n)) (.d r.d) (.d (.bl u))) := rfl
            have kl := keepL_ds ((s.1 ++ [n]).map nI) (ml rs nums s F (.d (.lst (endsD rs nums s))) (.d (.int n)) (.d r.d) (.d (.bl u)))
            have em : (s.1.map nI).map E.d ++ [E.d (.int n)] = ((s.1 ++ [n]).map nI).map E.d := by simp [nI]
            rw [aLst, aStar, v3]
            simp only [Res.bind_ok, E.val, Option.bind_some, D.seq?, aCons, v7, aNil, em, kl]
            rw [if_pos (by simp; exact small_line (by omega))]
          have q2 : aCall gTuple (aCons (aCall gSorted (aCons (aLst (aStar (aVar 3) (aCons (aVar 7) aNil))) aNil)) aNil) (ml rs nums s F (.d (.lst (endsD rs nums s))) (.d (.int n)) (.d r.d) (.d (.bl u))) = .ok (.d (.tup ((insT s.1 n).map nI))) (ml rs nums s F (.d (.lst (endsD rs nums s))) (.d (.int n)) (.d r.d) (.d (.bl u))) := by
            simp only [aCall, aCons, q1, Res.bind_ok, aNil, valL, E.val, Option.bind_some, so, O.toD, gTuple, insT]
          have v7 : aVar 7 (ml rs nums s F (.d (.lst (endsD rs nums s))) (.d (.int n)) (.d r.d) (.d (.bl u))) = .ok (.d (.int n)) (ml rs nums s F (.d (.lst (endsD rs nums s))) (.d (.int n)) (.d r.d) (.d (.bl u))) := rfl
          have v10 : aVar 10 (ml rs nums s F (.d (.lst (endsD rs nums s))) (.d (.int n)) (.d r.d) (.d (.bl u))) = .ok (.d (.bl u)) (ml rs nums s F (.d (.lst (endsD rs nums s))) (.d (.int n)) (.d r.d) (.d (.bl u))) := rfl
          have q4 : aTup (aCons (aVar 7) (aCons (aTup (aCons (aCall gTuple (aCons (aCall gSorted (aCons (aLst (aStar (aVar 3) (aCons (aVar 7) aNil))) aNil)) aNil)) (aCons (aVar 10) aNil))) aNil)) (ml rs nums s F (.d (.lst (endsD rs nums s))) (.d (.int n)) (.d r.d) (.d (.bl u))) = .ok (.d (pD (n, (insT s.1 n, u)))) (ml rs nums s F (.d (.lst (endsD rs nums s))) (.d (.int n)) (.d r.d) (.d (.bl u))) := by
            have q5 : aTup (aCons (aCall gTuple (aCons (aCall gSorted (aCons (aLst (aStar (aVar 3) (aCons (aVar 7) aNil))) aNil)) aNil)) (aCons (aVar 10) aNil)) (ml rs nums s F (.d (.lst (endsD rs nums s))) (.d (.int n)) (.d r.d) (.d (.bl u))) = .ok (.d (sD (insT s.1 n, u))) (ml rs nums s F (.d (.lst (endsD rs nums s))) (.d (.int n)) (.d r.d) (.d (.bl u))) := by
              simp only [aTup, aCons, q2, v10, Res.bind_ok, aNil, keepL, keep1, List.length_cons, List.length_nil]
              rw [if_pos le2]
              rfl
            rw [aTup, aCons, v7]
            simp only [aCons, q5, Res.bind_ok, aNil, keepL, keep1, List.length_cons, List.length_nil]
            rw [if_pos le2]
            rfl
          exact (app_eq (i := 5) (F := F) rfl q4 sz).trans rfl
end
end L2.AL.SH
namespace L2.AL.SH
open PySem PySem.Spec PyProof.Rows L2 L2.AL TL
section
variable {rs : List Rec} {nums : List Nat} {s : Stt} {F : List D} {sN : S} {n : Nat} {k : Str}
theorem filterMap_map' {α β γ : Type} (f : α → Option β) (g : α → β → γ) : ∀ l : List α, l.filterMap (fun a => (f a).map (g a)) = l.filterMap fun a => (f a).map (g a) := fun _ => rfl
theorem led_spec (hN : NumsOk rs nums) (hR : RecsOk rs) (hs : s.1.length ≤ 1000) (hS : sN = .own (.lst (nums.map nI)) ∨ sN = .d (.lst (nums.map nI))) :
    m_led_to [.d (bookD rs), sN, .d (sD s)] = .ok (.fr (.lst ((nums.filterMap (ledT rs nums s)).map pD))) [.d (bookD rs), .d (.lst (nums.map nI)), .d (sD s)] := by
  have en := ends_spec (s := s) hN hS
  obtain ⟨ρ', e, tE, t7, t8, t10, rfl, hE⟩ := sFor_ex (t := .nm 7) (body := mBody) (it := aIter (aVar 1)) (ρ := ml rs nums s [] (.own (.lst (endsD rs nums s))) .no .no .no) (ρ1 := ml rs nums s [] (.own (.lst (endsD rs nums s))) .no .no .no)
    (I := fun i ρ => ∃ tE t7 t8 t10, ρ = ml rs nums s (((nums.take i).filterMap (ledT rs nums s)).map pD) tE t7 t8 t10 ∧ (tE = .own (.lst (endsD rs nums s)) ∨ tE = .d (.lst (endsD rs nums s)))) (xs := nums.map nI) (by simp [runF, outF, sSeq, sIf, sRet, sRetN, sSet1, sSet, sTg, sExpr, sNx, aVar, aK, aCons, aNil, aOp2, app2, aCall, valL, E.val, aT, aNotT, aAndT, aOrT, aAndV, aOrV, aNotV, aIf, aChain, aTup, aLst, keepL, keep1, freeze, toSL, toS, setL, aFn, appFn, argS, slIx, wb, aIter, D.items?, aMeth, D.tyn, aSlice, aPart, aPartN, gIsi, D.isi, gIs, gIsn, D.is?, D.seq?, aStar, O.toD, eBl, eInt, eStr, tset, tsetL, wipeS, backS, nOwn, D.imm, ml]) (by
      rintro i x ρ hx ⟨tE, t7, t8, t10, rfl, hE⟩
      rw [List.getElem?_map] at hx
      obtain ⟨n, hn, rfl⟩ := Option.map_eq_some_iff.mp hx
      have gl := go_len (ledT rs nums s) hN i
      obtain ⟨uE, u8, u10, e, hE'⟩ := led_turn (s8 := t8) (s10 := t10) (F := ((nums.take i).filterMap (ledT rs nums s)).map pD) hN hR (List.mem_of_getElem? hn) hs (by rw [List.length_map]; omega) hE
      refine ⟨_, _, rfl, e, uE, .d (nI n), u8, u10, ?_, hE'⟩
      rw [take_go _ hn, List.map_append]
      rfl) ⟨_, _, _, _, rfl, .inl rfl⟩
  rw [List.length_map, List.take_length] at e
  unfold m_led_to b_led_to
  refine (run_sl (o := .lst ((nums.filterMap (ledT rs nums s)).map pD)) (j := 5) (ρ1 := ml rs nums s ((nums.filterMap (ledT rs nums s)).map pD) tE t7 t8 t10) rfl ?_ (by show 3 ≤ 5; omega) rfl).trans rfl
  show sSeq _ (sSeq _ (sSeq _ (sSeq (sFor _ _ mBody) _))) [.d (bookD rs), sN, .d (sD s), .no, .no, .no, .no, .no, .no, .no, .no] = _
  rw [seq_nx (ρ1 := [.d (bookD rs), sN, .d (sD s), .d (.tup (s.1.map nI)), .d (.bl s.2), .no, .no, .no, .no, .no, .no]) (by rcases hS with rfl | rfl <;> simp [runF, outF, sSeq, sIf, sRet, sRetN, sSet1, sSet, sTg, sExpr, sNx, aVar, aK, aCons, aNil, aOp2, app2, aCall, valL, E.val, aT, aNotT, aAndT, aOrT, aAndV, aOrV, aNotV, aIf, aChain, aTup, aLst, keepL, keep1, freeze, toSL, toS, setL, aFn, appFn, argS, slIx, wb, aIter, D.items?, aMeth, D.tyn, aSlice, aPart, aPartN, gIsi, D.isi, gIs, gIsn, D.is?, D.seq?, aStar, O.toD, eBl, eInt, eStr, tset, tsetL, wipeS, backS, nOwn, D.imm, sD]),
    seq_nx (ρ1 := [.d (bookD rs), sN, .d (sD s), .d (.tup (s.1.map nI)), .d (.bl s.2), .own (.lst []), .no, .no, .no, .no, .no]) (by rcases hS with rfl | rfl <;> simp [runF, outF, sSeq, sIf, sRet, sRetN, sSet1, sSet, sTg, sExpr, sNx, aVar, aK, aCons, aNil, aOp2, app2, aCall, valL, E.val, aT, aNotT, aAndT, aOrT, aAndV, aOrV, aNotV, aIf, aChain, aTup, aLst, keepL, keep1, freeze, toSL, toS, setL, aFn, appFn, argS, slIx, wb, aIter, D.items?, aMeth, D.tyn, aSlice, aPart, aPartN, gIsi, D.isi, gIs, gIsn, D.is?, D.seq?, aStar, O.toD, eBl, eInt, eStr, tset, tsetL, wipeS, backS, nOwn, D.imm])]
  rw [seq_nx (set_o en (by simp [ml]))]
  rw [show (ml rs nums s [] .no .no .no .no).set 6 (.own (.lst (endsD rs nums s))) = ml rs nums s [] (.own (.lst (endsD rs nums s))) .no .no .no from rfl, seq_nx e]
  rfl
/-! numbers of a key -/
theorem enum_book : enumD (rs.map Rec.d) = (List.range rs.length).map fun i => .tup [.int (i : Nat), (at_ rs i).d] := by
  unfold enumD
  refine List.ext_getElem? fun i => ?_
  rw [List.getElem?_mapIdx, List.getElem?_map, List.getElem?_map]
  by_cases h : i < rs.length
  · rw [List.getElem?_range h, List.getElem?_eq_getElem h]
    simp [at_, List.getElem?_eq_getElem h]
  · rw [List.getElem?_eq_none (by omega), List.getElem?_eq_none (by rw [List.length_range]; omega)]
    rfl
theorem numsOk (h : rs.length ≤ 8) : NumsOk rs (numsT rs k) := by
  refine ⟨(List.pairwise_lt_range).filter _, fun n hn => ?_, ?_⟩
  · exact List.mem_range.mp (List.mem_filter.mp hn).1
  · have := List.length_filter_le (fun i => decide ((at_ rs i).key = k)) (List.range rs.length)
    rw [List.length_range] at this
    unfold numsT; omega
theorem nums_lc (hl : rs.length ≤ 1000) : aLc [2, 3] (aEnumA (aCons (aVar 0) aNil)) (.tp [(.nm 2), (.nm 3)]) (aT (aOp2 gEq (aOp2 gIx (aVar 3) (aK (.int 2))) (aVar 1))) (aVar 2) [.d (bookD rs), .d (.str k), .no, .no] =
    .ok (.fr (.lst ((numsT rs k).map nI))) [.d (bookD rs), .d (.str k), .no, .no] := by
  refine (aLc_map (fun i : Nat => D.tup [.int i, (at_ rs i).d]) nI (fun i => decide ((at_ rs i).key = k)) (List.range rs.length) (ρ1 := [.d (bookD rs), .d (.str k), .no, .no]) ?_ rfl (fun i hi => ?_) (by rw [List.length_range]; exact small_line (by omega))).trans rfl
  · simp [runF, outF, sSeq, sIf, sRet, sRetN, sSet1, sSet, sTg, sExpr, sNx, aVar, aK, aCons, aNil, aOp2, app2, aCall, valL, E.val, aT, aNotT, aAndT, aOrT, aAndV, aOrV, aNotV, aIf, aChain, aTup, aLst, keepL, keep1, freeze, toSL, toS, setL, aFn, appFn, argS, slIx, wb, aIter, D.items?, aMeth, D.tyn, aSlice, aPart, aPartN, gIsi, D.isi, gIs, gIsn, D.is?, D.seq?, aStar, O.toD, eBl, eInt, eStr, tset, tsetL, wipeS, backS, nOwn, D.imm, aEnumA, bookD, enum_book]
  · have h2 := ix_l2 (r := at_ rs i)
    exact ⟨[.d (bookD rs), .d (.str k), .d (.int i), .d (at_ rs i).d], .d (nI i), rfl, by simp [runF, outF, sSeq, sIf, sRet, sRetN, sSet1, sSet, sTg, sExpr, sNx, aVar, aK, aCons, aNil, aOp2, app2, aCall, valL, E.val, aT, aNotT, aAndT, aOrT, aAndV, aOrV, aNotV, aIf, aChain, aTup, aLst, keepL, keep1, freeze, toSL, toS, setL, aFn, appFn, argS, slIx, wb, aIter, D.items?, aMeth, D.tyn, aSlice, aPart, aPartN, gIsi, D.isi, gIs, gIsn, D.is?, D.seq?, aStar, O.toD, eBl, eInt, eStr, tset, tsetL, wipeS, backS, nOwn, D.imm, h2, geq_str], fun _ => ⟨rfl, rfl⟩, rfl⟩
theorem numbers_spec (hl : rs.length ≤ 1000) : m_numbers_of [.d (bookD rs), .d (.str k)] = .ok (.fr (.lst ((numsT rs k).map nI))) [.d (bookD rs), .d (.str k)] :=
  (run_fr rfl (ret_of (nums_lc hl))).trans rfl
theorem keyed_spec (hl : rs.length ≤ 1000) : m__law_keyed [.d (bookD rs), .d (.str k)] = .ok (.fr (.lst ((numsT rs k).map nI))) [.d (bookD rs), .d (.str k)] :=
  (run_fr rfl (ret_of (nums_lc hl))).trans rfl
/-! all that counted are done -/
def fullT (rs : List Rec) (nums done : List Nat) : Bool := nums.all fun n => decide (n ∈ done) || !countsT (at_ rs n)
theorem full_spec {done : List Nat} (hN : NumsOk rs nums) (hS : sN = .own (.lst (nums.map nI)) ∨ sN = .d (.lst (nums.map nI))) : m__law_is_full [.d (bookD rs), sN, .d (.tup (done.map nI))] = .ok (.d (.bl (fullT rs nums done))) [.d (bookD rs), .d (.lst (nums.map nI)), .d (.tup (done.map nI))] := by
  have e := aLc_all (it := aIter (aVar 1)) (t := .nm 3) (f := aOrV (aOp2 gIn (aVar 3) (aVar 2)) (aNotV (aFn m__law_counts (aCons (aOp2 gIx (aVar 0) (aVar 3)) aNil)))) (vs := [3]) nI (fun n => .bl (decide (n ∈ done) || !countsT (at_ rs n))) nums (ρ := [.d (bookD rs), sN, .d (.tup (done.map nI)), .no]) (ρ1 := [.d (bookD rs), .d (.lst (nums.map nI)), .d (.tup (done.map nI)), .no]) (by rcases hS with rfl | rfl <;> simp [runF, outF, sSeq, sIf, sRet, sRetN, sSet1, sSet, sTg, sExpr, sNx, aVar, aK, aCons, aNil, aOp2, app2, aCall, valL, E.val, aT, aNotT, aAndT, aOrT, aAndV, aOrV, aNotV, aIf, aChain, aTup, aLst, keepL, keep1, freeze, toSL, toS, setL, aFn, appFn, argS, slIx, wb, aIter, D.items?, aMeth, D.tyn, aSlice, aPart, aPartN, gIsi, D.isi, gIs, gIsn, D.is?, D.seq?, aStar, O.toD, eBl, eInt, eStr, tset, tsetL, wipeS, backS, nOwn, D.imm]) rfl (fun n hn => by
    have hb := ix_book (hN.lt n hn)
    have hc := counts_spec (at_ rs n)
    have hi := in_nI n done
    refine ⟨[.d (bookD rs), .d (.lst (nums.map nI)), .d (.tup (done.map nI)), .d (nI n)], .d (.bl (decide (n ∈ done) || !countsT (at_ rs n))), rfl, ?_, rfl, rfl⟩
    cases hm : decide (n ∈ done) with
    | true => rw [hm] at hi; simp [runF, outF, sSeq, sIf, sRet, sRetN, sSet1, sSet, sTg, sExpr, sNx, aVar, aK, aCons, aNil, aOp2, app2, aCall, valL, E.val, aT, aNotT, aAndT, aOrT, aAndV, aOrV, aNotV, aIf, aChain, aTup, aLst, keepL, keep1, freeze, toSL, toS, setL, aFn, appFn, argS, slIx, wb, aIter, D.items?, aMeth, D.tyn, aSlice, aPart, aPartN, gIsi, D.isi, gIs, gIsn, D.is?, D.seq?, aStar, O.toD, eBl, eInt, eStr, tset, tsetL, wipeS, backS, nOwn, D.imm, nI, hi]
    | false => rw [hm] at hi; simp [runF, outF, sSeq, sIf, sRet, sRetN, sSet1, sSet, sTg, sExpr, sNx, aVar, aK, aCons, aNil, aOp2, app2, aCall, valL, E.val, aT, aNotT, aAndT, aOrT, aAndV, aOrV, aNotV, aIf, aChain, aTup, aLst, keepL, keep1, freeze, toSL, toS, setL, aFn, appFn, argS, slIx, wb, aIter, D.items?, aMeth, D.tyn, aSlice, aPart, aPartN, gIsi, D.isi, gIs, gIsn, D.is?, D.seq?, aStar, O.toD, eBl, eInt, eStr, tset, tsetL, wipeS, backS, nOwn, D.imm, nI, hi, hb, hc]) (small_line (by have := hN.few; omega))
  have bl : gAll [.lst (nums.map fun n => D.bl (decide (n ∈ done) || !countsT (at_ rs n)))] = some (eBl (fullT rs nums done)) := by
    have q := bls_map (nums.map fun n => decide (n ∈ done) || !countsT (at_ rs n))
    rw [List.map_map] at q
    have q : D.bls? (nums.map fun n => D.bl (decide (n ∈ done) || !countsT (at_ rs n))) = some (nums.map fun n => decide (n ∈ done) || !countsT (at_ rs n)) := q
    simp only [gAll, q, Option.map_some, List.all_map]
    rfl
  refine (run_rt (ρ1 := [.d (bookD rs), .d (.lst (nums.map nI)), .d (.tup (done.map nI)), .no]) rfl (ret_of ?_)).trans rfl
  show aCall gAll (aCons _ aNil) [.d (bookD rs), sN, .d (.tup (done.map nI)), .no] = _
  rw [aCall, aCons, e]
  simp only [Res.bind_ok, aNil, valL, E.val, O.toD, Option.bind_some, bl]
  rfl
theorem whole_spec {done : List Nat} (hN : NumsOk rs nums) (hS : sN = .own (.lst (nums.map nI)) ∨ sN = .d (.lst (nums.map nI))) : m_is_whole [.d (bookD rs), sN, .d (.tup (done.map nI))] = .ok (.d (.bl (fullT rs nums done))) [.d (bookD rs), .d (.lst (nums.map nI)), .d (.tup (done.map nI))] := by
  have e := aLc_map (it := aIter (aVar 1)) (t := .nm 3) (c := aT (aFn m_has_counted (aCons (aOp2 gIx (aVar 0) (aVar 3)) aNil))) (f := aOp2 gIn (aVar 3) (aVar 2)) (vs := [3]) nI (fun n => .bl (decide (n ∈ done))) (fun n => countsT (at_ rs n)) nums (ρ := [.d (bookD rs), sN, .d (.tup (done.map nI)), .no]) (ρ1 := [.d (bookD rs), .d (.lst (nums.map nI)), .d (.tup (done.map nI)), .no]) (by rcases hS with rfl | rfl <;> simp [runF, outF, sSeq, sIf, sRet, sRetN, sSet1, sSet, sTg, sExpr, sNx, aVar, aK, aCons, aNil, aOp2, app2, aCall, valL, E.val, aT, aNotT, aAndT, aOrT, aAndV, aOrV, aNotV, aIf, aChain, aTup, aLst, keepL, keep1, freeze, toSL, toS, setL, aFn, appFn, argS, slIx, wb, aIter, D.items?, aMeth, D.tyn, aSlice, aPart, aPartN, gIsi, D.isi, gIs, gIsn, D.is?, D.seq?, aStar, O.toD, eBl, eInt, eStr, tset, tsetL, wipeS, backS, nOwn, D.imm]) rfl (fun n hn => by
    have hb := ix_book (hN.lt n hn)
    have hc := has_spec (at_ rs n)
    have hi := in_nI n done
    exact ⟨[.d (bookD rs), .d (.lst (nums.map nI)), .d (.tup (done.map nI)), .d (nI n)], .d (.bl (decide (n ∈ done))), rfl, by simp [runF, outF, sSeq, sIf, sRet, sRetN, sSet1, sSet, sTg, sExpr, sNx, aVar, aK, aCons, aNil, aOp2, app2, aCall, valL, E.val, aT, aNotT, aAndT, aOrT, aAndV, aOrV, aNotV, aIf, aChain, aTup, aLst, keepL, keep1, freeze, toSL, toS, setL, aFn, appFn, argS, slIx, wb, aIter, D.items?, aMeth, D.tyn, aSlice, aPart, aPartN, gIsi, D.isi, gIs, gIsn, D.is?, D.seq?, aStar, O.toD, eBl, eInt, eStr, tset, tsetL, wipeS, backS, nOwn, D.imm, nI, hb, hc], fun _ => ⟨by simp [runF, outF, sSeq, sIf, sRet, sRetN, sSet1, sSet, sTg, sExpr, sNx, aVar, aK, aCons, aNil, aOp2, app2, aCall, valL, E.val, aT, aNotT, aAndT, aOrT, aAndV, aOrV, aNotV, aIf, aChain, aTup, aLst, keepL, keep1, freeze, toSL, toS, setL, aFn, appFn, argS, slIx, wb, aIter, D.items?, aMeth, D.tyn, aSlice, aPart, aPartN, gIsi, D.isi, gIs, gIsn, D.is?, D.seq?, aStar, O.toD, eBl, eInt, eStr, tset, tsetL, wipeS, backS, nOwn, D.imm, nI, hi], rfl⟩, rfl⟩) (small_line (by have := hN.few; omega))
  have bl : gAll [.lst ((nums.filter fun n => countsT (at_ rs n)).map fun n => D.bl (decide (n ∈ done)))] = some (eBl (fullT rs nums done)) := by
    have q := bls_map ((nums.filter fun n => countsT (at_ rs n)).map fun n => decide (n ∈ done))
    rw [List.map_map] at q
    have q : D.bls? ((nums.filter fun n => countsT (at_ rs n)).map fun n => D.bl (decide (n ∈ done))) = some ((nums.filter fun n => countsT (at_ rs n)).map fun n => decide (n ∈ done)) := q
    have z : ((nums.filter fun n => countsT (at_ rs n)).all fun n => decide (n ∈ done)) = fullT rs nums done := by
      unfold fullT
      rw [List.all_filter]
      congr 1
      funext n
      cases countsT (at_ rs n) <;> simp
    simp only [gAll, q, Option.map_some, List.all_map]
    rw [← z]
    rfl
  refine (run_rt (ρ1 := [.d (bookD rs), .d (.lst (nums.map nI)), .d (.tup (done.map nI)), .no]) rfl (ret_of ?_)).trans rfl
  show aCall gAll (aCons _ aNil) [.d (bookD rs), sN, .d (.tup (done.map nI)), .no] = _
  rw [aCall, aCons, e]
  simp only [Res.bind_ok, aNil, valL, E.val, O.toD, Option.bind_some, bl]
  rfl
end
end L2.AL.SH
namespace L2.AL.SH
open PySem PySem.Spec PyProof.Rows L2 L2.AL TL
/-! few states -/
def subsT : List Nat → List (List Nat)
  | [] => [[]]
  | n :: r => subsT r ++ (subsT r).map (n :: ·)
theorem subs_len : ∀ ns : List Nat, (subsT ns).length = 2 ^ ns.length
  | [] => rfl
  | n :: r => by rw [subsT, List.length_append, List.length_map, subs_len r, List.length_cons, Nat.pow_succ]; omega
theorem mem_subs : ∀ (ns d : List Nat), ns.Pairwise (· < ·) → d.Pairwise (· < ·) → (∀ n ∈ d, n ∈ ns) → d ∈ subsT ns
  | [], d, _, _, h => by
    cases d with
    | nil => simp [subsT]
    | cons x d => have := h x List.mem_cons_self; simp at this
  | m :: r, d, hn, hd, h => by
    rw [subsT, List.mem_append]
    obtain ⟨hm, hr⟩ := List.pairwise_cons.mp hn
    cases d with
    | nil => exact .inl (mem_subs r [] hr List.Pairwise.nil (fun n hn => by simp at hn))
    | cons x d =>
      obtain ⟨hx, hd'⟩ := List.pairwise_cons.mp hd
      rcases List.mem_cons.mp (h x List.mem_cons_self) with rfl | hxr
      · refine .inr (List.mem_map.mpr ⟨d, mem_subs r d hr hd' fun n hnd => ?_, rfl⟩)
        have hxn := hx n hnd
        rcases List.mem_cons.mp (h n (List.mem_cons_of_mem _ hnd)) with z | z
        · omega
        · exact z
      · refine .inl (mem_subs r (x :: d) hr hd fun n hn => ?_)
        rcases List.mem_cons.mp hn with rfl | hn'
        · exact hxr
        · rcases List.mem_cons.mp (h n hn) with rfl | z
          · have h1 := hx n hn'; have h2 := hm x hxr; omega
          · exact z
def univT (nums : List Nat) : List Stt := (subsT nums).map (fun d => (d, false)) ++ (subsT nums).map fun d => (d, true)
theorem univ_len {nums : List Nat} (h : nums.length ≤ 8) : (univT nums).length ≤ 512 := by
  rw [univT, List.length_append, List.length_map, List.length_map, subs_len]
  have : 2 ^ nums.length ≤ 2 ^ 8 := Nat.pow_le_pow_right (by decide) h
  omega
theorem nodup_le {α : Type} [DecidableEq α] : ∀ (f u : List α), f.Nodup → (∀ x ∈ f, x ∈ u) → f.length ≤ u.length
  | [], _, _, _ => Nat.zero_le _
  | x :: f, u, hn, h => by
    obtain ⟨hx, hf⟩ := List.nodup_cons.mp hn
    have hu := h x List.mem_cons_self
    have := nodup_le f (u.erase x) hf fun y hy => (List.mem_erase_of_ne (fun z => hx (by rw [← z]; exact hy))).mpr (h y (List.mem_cons_of_mem _ hy))
    rw [List.length_erase_of_mem hu] at this
    have := List.length_pos_of_mem hu
    rw [List.length_cons]; omega
section
variable {rs : List Rec} {nums : List Nat} {s t : Stt}
structure SttOk (nums : List Nat) (s : Stt) : Prop where
  asc : s.1.Pairwise (· < ·)
  sub : ∀ n ∈ s.1, n ∈ nums
theorem ins_perm (done : List Nat) (n : Nat) : (insT done n).Perm (done ++ [n]) := List.mergeSort_perm _ _
theorem ins_asc {done : List Nat} {n : Nat} (h : done.Pairwise (· < ·)) (hn : n ∉ done) : (insT done n).Pairwise (· < ·) := by
  have h1 : (insT done n).Pairwise (fun a b => decide (a ≤ b) = true) := List.pairwise_mergeSort (by intro a b c; simp; omega) (by intro a b; simp; omega) _
  have nd : (insT done n).Nodup := (ins_perm done n).nodup_iff.mpr (List.nodup_append.mpr ⟨h.imp fun h => Nat.ne_of_lt h, by simp, fun a ha b hb z => by simp at hb; subst hb; exact hn (z ▸ ha)⟩)
  exact (List.pairwise_and_iff.mpr ⟨h1, nd⟩).imp fun ⟨h1, h2⟩ => by simp at h1; omega
theorem go_ok' {n : Nat} (hn : n ∈ nums) (h : SttOk nums s) (e : goT rs nums s n = some t) : SttOk nums t := by
  unfold goT at e
  split at e
  · rename_i hf
    obtain ⟨u, _, rfl⟩ := Option.map_eq_some_iff.mp e
    have hm : n ∉ s.1 := by
      unfold freeT at hf
      simp only [Bool.and_eq_true, Bool.not_eq_true', decide_eq_false_iff_not] at hf
      exact hf.1.1
    refine ⟨ins_asc h.asc hm, fun m hm' => ?_⟩
    rcases List.mem_append.mp ((ins_perm s.1 n).mem_iff.mp hm') with z | z
    · exact h.sub m z
    · simp at z; subst z; exact hn
  · cases e
theorem next_ok (h : SttOk nums s) (ht : t ∈ nextT rs nums s) : SttOk nums t := by
  obtain ⟨n, hn, e⟩ := List.mem_filterMap.mp ht
  exact go_ok' hn h e
theorem come_ok (h : Come (nextT rs nums) ([], false) s) : SttOk nums s := by
  induction h with
  | base => exact ⟨List.Pairwise.nil, fun n hn => by simp at hn⟩
  | step _ hy ih => exact next_ok ih hy
theorem come_len (hN : NumsOk rs nums) (h : SttOk nums s) : s.1.length ≤ 8 := by
  have := nodup_le s.1 nums (h.asc.imp fun h => Nat.ne_of_lt h) h.sub
  have := hN.few
  omega
theorem come_few (hN : NumsOk rs nums) {f : List Stt} (nd : f.Nodup) (h : ∀ x ∈ f, Come (nextT rs nums) ([], false) x) : f.length ≤ 512 := by
  refine Nat.le_trans (nodup_le f (univT nums) nd fun x hx => ?_) (univ_len hN.few)
  have k := come_ok (h x hx)
  obtain ⟨d, u⟩ := x
  have q := mem_subs nums d hN.asc k.asc k.sub
  unfold univT
  cases u with
  | false => exact List.mem_append_left _ (List.mem_map.mpr ⟨d, q, rfl⟩)
  | true => exact List.mem_append_right _ (List.mem_map.mpr ⟨d, q, rfl⟩)
theorem next_len (hN : NumsOk rs nums) : (nextT rs nums s).length ≤ 8 := Nat.le_trans (List.length_filterMap_le _ _) hN.few
theorem led_next : ((nums.filterMap (ledT rs nums s)).map (·.2)) = nextT rs nums s := by
  unfold nextT ledT
  rw [List.map_filterMap]
  congr 1
  funext n
  cases goT rs nums s n <;> rfl
end
/-! states as keys -/
def nkS (s : Stt) : NestedKey := .tup [.tup (s.1.map fun n => .num (n : Nat)), .num (if s.2 = true then 1 else 0)]
theorem nkL_nI : ∀ ns : List Nat, D.nkL (ns.map nI) = some (ns.map fun n => .num (n : Nat))
  | [] => rfl
  | n :: ns => by rw [List.map_cons, D.nkL, nkL_nI ns]; rfl
theorem nk_sD (s : Stt) : (sD s).nk? = some (nkS s) := by
  simp [sD, D.nk?, D.nkL, nkL_nI, nkS]
theorem dep_nums : ∀ ns : List Nat, NestedKey.depthAll (ns.map fun n => NestedKey.num (n : Nat)) = 0
  | [] => rfl
  | n :: ns => by rw [List.map_cons, NestedKey.depthAll, dep_nums ns]; rfl
theorem key_sD (s : Stt) : (sD s).keyN? = some (nkS s) := by
  have e := nk_sD s
  simp only [sD, D.nk?, Option.map_eq_some_iff] at e
  obtain ⟨ks, e1, e2⟩ := e
  simp only [sD, D.keyN?, e1, Option.bind_some]
  unfold nkS at e2
  cases e2
  rw [if_pos, nkS]
  simp only [NestedKey.depthAll, NestedKey.depth, dep_nums]
  decide
theorem nk_inj {s t : Stt} (h : nkS s = nkS t) : s = t := by
  obtain ⟨d, u⟩ := s
  obtain ⟨d', u'⟩ := t
  simp only [nkS, NestedKey.tup.injEq, List.cons.injEq, NestedKey.num.injEq, and_true] at h
  have e1 : d = d' := by
    have inj : ∀ l m : List Nat, (l.map fun n => NestedKey.num (n : Nat)) = (m.map fun n => NestedKey.num (n : Nat)) → l = m := by
      intro l
      induction l with
      | nil => intro m hm; cases m with | nil => rfl | cons _ _ => simp at hm
      | cons x l ih =>
        intro m hm
        cases m with
        | nil => simp at hm
        | cons y m =>
          simp only [List.map_cons, List.cons.injEq, NestedKey.num.injEq] at hm
          rw [ih m hm.2]
          congr 1
          omega
    exact inj d d' h.1
  have e2 : u = u' := by
    have := h.2
    cases u <;> cases u' <;> simp at this <;> rfl
  rw [e1, e2]
def kvD (p : Stt × D) : D × D := (sD p.1, p.2)
theorem dget_kv (fp : List (Stt × D)) (s : Stt) : dget (fp.map kvD) (nkS s) = (fp.find? fun p => decide (p.1 = s)).map (·.2) := by
  unfold dget
  rw [List.find?_map, Option.map_map]
  have : ((fun kv : D × D => decide (kv.1.nk? = some (nkS s))) ∘ kvD) = fun p : Stt × D => decide (p.1 = s) := by
    funext p
    simp only [Function.comp, kvD, nk_sD, Option.some.injEq]
    exact decide_eq_decide.mpr ⟨nk_inj, fun h => by rw [h]⟩
  rw [this]
  rfl
theorem dget_some (fp : List (Stt × D)) (s : Stt) : (dget (fp.map kvD) (nkS s)).isSome = decide (s ∈ fp.map (·.1)) := by
  rw [dget_kv, Option.isSome_map, Bool.eq_iff_iff, List.find?_isSome]
  simp
theorem dget_of {fp : List (Stt × D)} {s : Stt} (h : s ∈ fp.map (·.1)) : ∃ p ∈ fp, p.1 = s ∧ dget (fp.map kvD) (nkS s) = some p.2 := by
  have e := dget_some fp s
  rw [decide_eq_true h, dget_kv, Option.isSome_map] at e
  obtain ⟨p, hp⟩ := Option.isSome_iff_exists.mp e
  refine ⟨p, List.mem_of_find?_eq_some hp, ?_, by rw [dget_kv, hp]; rfl⟩
  have := List.find?_some hp
  simpa using this
theorem dput_new {fp : List (Stt × D)} {s : Stt} {x : D} (h : s ∉ fp.map (·.1)) : dput (fp.map kvD) (sD s) (nkS s) x = (fp ++ [(s, x)]).map kvD := by
  unfold dput
  rw [dget_some, decide_eq_false h]
  simp [kvD]
theorem dget_new {fp : List (Stt × D)} {s : Stt} {x : D} (h : s ∉ fp.map (·.1)) : dget ((fp ++ [(s, x)]).map kvD) (nkS s) = some x := by
  have q : fp.find? (fun p => decide (p.1 = s)) = none := by
    rw [List.find?_eq_none]
    intro p hp
    simp only [decide_eq_true_eq]
    exact fun z => h (List.mem_map.mpr ⟨p, hp, z⟩)
  rw [dget_kv, List.find?_append, q]
  simp
/-- a list of states is no empty list -/
def sP (s : Stt) : PyData := .tuple [.tuple (s.1.map fun n : Nat => .int n), .bool s.2]
theorem py_nI : ∀ ns : List Nat, D.pyL (ns.map nI) = some (ns.map fun n : Nat => .int n)
  | [] => rfl
  | n :: ns => by rw [List.map_cons, D.pyL, py_nI ns]; rfl
theorem py_sD (s : Stt) : (sD s).py = some (sP s) := by
  simp [sD, D.py, D.pyL, py_nI, sP]
theorem lay_sP (s : Stt) : (sP s).canLay0 = true ∧ (sP s).depth ≤ 2 := by
  have q := layAllG (fun n : Nat => PyData.int n) 0 s.1 fun _ _ => ⟨rfl, Nat.le_refl _⟩
  constructor
  · simp only [sP, PyData.canLay0, PyData.canLayAll0, q.1, Bool.and_self]
  · simp only [sP, PyData.depth, PyData.depthAll]
    have := q.2
    omega
theorem states_shaped (w : List Stt) : SeqAt.shaped (PyData.list (w.map sP)) = true := by
  have q := layAllG sP 2 w fun s _ => lay_sP s
  have c1 : (PyData.list (w.map sP)).canLay0 = true := by simp only [PyData.canLay0]; exact q.1
  unfold SeqAt.shaped
  rw [c1, Bool.true_and]
  refine decide_eq_true ?_
  simp only [PyData.depth]
  have := q.2
  omega
theorem ne_states (w : List Stt) : gNe (.lst (w.map sD)) (.lst []) = some (eBl (!decide (w = []))) := by
  have pl : ∀ l : List Stt, D.pyL (l.map sD) = some (l.map sP) := fun l => by
    induction l with
    | nil => rfl
    | cons x l ih => rw [List.map_cons, D.pyL, ih, py_sD]; rfl
  have h1 : (D.lst (w.map sD)).py = some (PyData.list (w.map sP)) := by rw [D.py, pl]; rfl
  have h2 : (D.lst []).py = some (PyData.list []) := rfl
  have sh0 : SeqAt.shaped (PyData.list []) = true := by decide +kernel
  unfold gNe D.eq?
  simp only [h1, h2, states_shaped, sh0, and_self, if_true]
  cases w with
  | nil => rfl
  | cons n r => simp; rfl
end L2.AL.SH
namespace L2.AL.SH
open PySem PySem.Spec PyProof.Rows L2 L2.AL TL
/-! the two searches -/
theorem whGo_ex {c : List S → Res Bool} {body : List S → Res Fl} {I : Nat → List S → Prop} {Q : List S → Prop}
    (h : ∀ m ρ, I m ρ → (∃ ρ1, c ρ = .ok false ρ1 ∧ Q ρ1) ∨ ∃ ρ1 ρ2 m', c ρ = .ok true ρ1 ∧ body ρ1 = .ok .nx ρ2 ∧ m' < m ∧ I m' ρ2) : ∀ (fuel m : Nat) (ρ : List S), m < fuel → I m ρ → ∃ ρ', whGo c body fuel ρ = .ok .nx ρ' ∧ Q ρ'
  | 0, m, _, hm, _ => absurd hm (Nat.not_lt_zero _)
  | fuel + 1, m, ρ, hm, hI => by
    rcases h m ρ hI with ⟨ρ1, e, q⟩ | ⟨ρ1, ρ2, m', e1, e2, lt, hI'⟩
    · exact ⟨ρ1, by rw [whGo, e], q⟩
    · obtain ⟨ρ', e, q⟩ := whGo_ex h fuel m' ρ2 (by omega) hI'
      refine ⟨ρ', ?_, q⟩
      rw [whGo, e1]
      simp only [e2]
      exact e
theorem pop_eq {ρ : List S} {i : Nat} {F : List D} {x : D} (h : ρ[i]? = some (.own (.lst (F ++ [x])))) : aMut0 "list" i uPop ρ = .ok (.d x) (ρ.set i (.own (.lst F))) := by
  simp [aMut0, aMut, h, O.tyn, aNil, keepL, uPop]
theorem ext_eq {ρ : List S} {i : Nat} {F ys : List D} {f : List S → Res E} (h : ρ[i]? = some (.own (.lst F))) (hf : f ρ = .ok (.d (.lst ys)) ρ) (sz : F.length + ys.length ≤ sizeLine) : sExpr (aMut "list" i uExtend (aCons f aNil)) ρ = .ok .nx (ρ.set i (.own (.lst (F ++ ys)))) := by
  simp [sExpr, aMut, h, O.tyn, aCons, hf, aNil, keepL, keep1, uExtend, sz]
theorem ni_dd (s : Stt) (fp : List (Stt × D)) : gNi (sD s) (.dd (fp.map kvD)) = some (eBl (!decide (s ∈ fp.map (·.1)))) := by
  have q := dget_some fp s
  have e : (sD s).in? (.dd (fp.map kvD)) = (sD s).keyN?.map fun k => (dget (fp.map kvD) k).isSome := rfl
  unfold gNi
  rw [e, key_sD]
  simp only [Option.map_some, q]
theorem ix_dd {s : Stt} {fp : List (Stt × D)} {x : D} (h : dget (fp.map kvD) (nkS s) = some x) : gIx (.dd (fp.map kvD)) (sD s) = some (.d x) := by
  have e : gIx (.dd (fp.map kvD)) (sD s) = (sD s).keyN?.bind fun k => (dget (fp.map kvD) k).map .d := rfl
  rw [e, key_sD]
  simp only [Option.bind_some, h, Option.map_some]
theorem put_dd {s : Stt} {fp : List (Stt × D)} {x : D} (h : s ∉ fp.map (·.1)) (hz : fp.length ≤ 1000) : putO (.dd (fp.map kvD)) (sD s) x = some (.dd ((fp ++ [(s, x)]).map kvD)) := by
  have z : (fp.map kvD).length < sizeLine := by rw [List.length_map]; exact Nat.lt_of_le_of_lt hz (by rw [sizeLine_eq]; decide)
  have e : putO (.dd (fp.map kvD)) (sD s) x = if (fp.map kvD).length < sizeLine then (sD s).keyN?.map fun n => .dd (dput (fp.map kvD) (sD s) n x) else none := rfl
  rw [e, if_pos z, key_sD, Option.map_some, dput_new h]
section
variable {rs : List Rec} {nums : List Nat} {sN : S}
def BEG : Stt := ([], false)
def NumS (nums : List Nat) (sN : S) : Prop := sN = .own (.lst (nums.map nI)) ∨ sN = .d (.lst (nums.map nI))
def ll (rs : List Rec) (sN : S) (fp : List (Stt × D)) (w : List Stt) (s4 : S) : List S := [.d (bookD rs), sN, .own (.dd (fp.map kvD)), .own (.lst (w.map sD)), s4]
def lwBody : List S → Res Fl := (sSeq (sSet1 4 (aMut0 "list" 3 uPop))
  (sIf (aT (aOp2 gNi (aVar 4) (aVar 2))) (sSeq (sPut 2 (aVar 4) (aFn m__law_next (aCons (aVar 0) (aCons (aVar 1) (aCons (aVar 4) aNil)))))
  (sExpr (aMut "list" 3 uExtend (aCons (aOp2 gIx (aVar 2) (aVar 4)) aNil)))) sNx))
theorem states_spec (hN : NumsOk rs nums) (hR : RecsOk rs) (hS : NumS nums sN) : ∃ fp : List (Stt × D), m__law_states [.d (bookD rs), sN] = .ok (.fr (.dd (fp.map kvD))) [.d (bookD rs), .d (.lst (nums.map nI))] ∧
    (fp.map (·.1)).Nodup ∧ ∀ x, x ∈ fp.map (·.1) ↔ Come (nextT rs nums) BEG x := by
  obtain ⟨ρ', e, fp, sN', s4, rfl, rfl, L⟩ := whGo_ex (c := aT (aOp2 gNe (aVar 3) (aLst aNil))) (body := lwBody)
    (I := fun m ρ => ∃ fp w sN' s4, ρ = ll rs sN' fp w s4 ∧ NumS nums sN' ∧ LInv (nextT rs nums) BEG (fp.map (·.1)) w ∧ 9 * (512 - fp.length) + w.length = m ∧ m ≤ 4700 ∧ (fp ≠ [] → sN' = .d (.lst (nums.map nI)))) (Q := fun ρ => ∃ fp sN' s4, ρ = ll rs sN' fp [] s4 ∧ sN' = .d (.lst (nums.map nI)) ∧ LInv (nextT rs nums) BEG (fp.map (·.1)) []) (by
      rintro m ρ ⟨fp, w, sN, s4, rfl, hS, L, hm, hm2, hz⟩
      have c : aT (aOp2 gNe (aVar 3) (aLst aNil)) (ll rs sN fp w s4) = .ok (!decide (w = [])) (ll rs sN fp w s4) := by
        have q := ne_states w
        rcases hS with rfl | rfl <;> simp [runF, outF, sSeq, sIf, sRet, sRetN, sSet1, sSet, sTg, sExpr, sNx, aVar, aK, aCons, aNil, aOp2, app2, aCall, valL, E.val, aT, aNotT, aAndT, aOrT, aAndV, aOrV, aNotV, aIf, aChain, aTup, aLst, keepL, keep1, freeze, toSL, toS, setL, aFn, appFn, argS, slIx, wb, aIter, D.items?, aMeth, D.tyn, aSlice, aPart, aPartN, gIsi, D.isi, gIs, gIsn, D.is?, D.seq?, aStar, O.toD, eBl, eInt, eStr, tset, tsetL, wipeS, backS, nOwn, D.imm, ll, q]
      have fl : fp.length ≤ 512 := by
        have := come_few hN L.nd fun x hx => L.come x (.inl hx)
        rwa [List.length_map] at this
      by_cases hw : w = []
      · subst hw
        refine .inl ⟨_, c, fp, sN, s4, rfl, hz fun z => ?_, L⟩
        subst z
        have := L.start
        simp at this
      · rw [decide_eq_false hw] at c
        obtain ⟨w, h, rfl⟩ : ∃ w' h, w = w' ++ [h] := ⟨w.dropLast, w.getLast hw, (List.dropLast_concat_getLast hw).symm⟩
        rw [List.length_append, List.length_singleton] at hm
        have st1 : sSet1 4 (aMut0 "list" 3 uPop) (ll rs sN fp (w ++ [h]) s4) = .ok .nx (ll rs sN fp w (.d (sD h))) := by
          have q := pop_eq (ρ := ll rs sN fp (w ++ [h]) s4) (i := 3) (F := w.map sD) (x := sD h) (by simp [ll])
          rw [set_d q (by simp [ll])]
          rfl
        have c2 : aT (aOp2 gNi (aVar 4) (aVar 2)) (ll rs sN fp w (.d (sD h))) = .ok (!decide (h ∈ fp.map (·.1))) (ll rs sN fp w (.d (sD h))) := by
          have q := ni_dd h fp
          rcases hS with rfl | rfl <;> simp [runF, outF, sSeq, sIf, sRet, sRetN, sSet1, sSet, sTg, sExpr, sNx, aVar, aK, aCons, aNil, aOp2, app2, aCall, valL, E.val, aT, aNotT, aAndT, aOrT, aAndV, aOrV, aNotV, aIf, aChain, aTup, aLst, keepL, keep1, freeze, toSL, toS, setL, aFn, appFn, argS, slIx, wb, aIter, D.items?, aMeth, D.tyn, aSlice, aPart, aPartN, gIsi, D.isi, gIs, gIsn, D.is?, D.seq?, aStar, O.toD, eBl, eInt, eStr, tset, tsetL, wipeS, backS, nOwn, D.imm, ll, q]
        by_cases hh : h ∈ fp.map (·.1)
        · rw [decide_eq_true hh] at c2
          exact .inr ⟨_, ll rs sN fp w (.d (sD h)), _, c, (seq_nx st1).trans ((if_f c2).trans rfl), (by omega : 9 * (512 - fp.length) + w.length < m), fp, w, sN, _, rfl, hS, L.old hh, rfl, by omega, hz⟩
        · rw [decide_eq_false hh] at c2
          have L' := L.new hh
          have hc := come_ok (L.come h (.inr (by simp)))
          have nx := next_spec (s := h) hN hR (Nat.le_trans (come_len hN hc) (by decide)) hS
          have nlen := next_len (s := h) (rs := rs) hN
          have fl' : fp.length + 1 ≤ 512 := by
            have := come_few hN L'.nd fun x hx => L'.come x (.inl hx)
            simpa using this
          have st2 : sPut 2 (aVar 4) (aFn m__law_next (aCons (aVar 0) (aCons (aVar 1) (aCons (aVar 4) aNil)))) (ll rs sN fp w (.d (sD h))) = .ok .nx (ll rs (.d (.lst (nums.map nI))) (fp ++ [(h, .lst ((nextT rs nums h).map sD))]) w (.d (sD h))) := by
            have q := put_dd (x := .lst ((nextT rs nums h).map sD)) hh (by omega)
            have f1 : aFn m__law_next (aCons (aVar 0) (aCons (aVar 1) (aCons (aVar 4) aNil))) (ll rs sN fp w (.d (sD h))) = .ok (.fr (.lst ((nextT rs nums h).map sD))) (ll rs (.d (.lst (nums.map nI))) fp w (.d (sD h))) := by
              rcases hS with rfl | rfl <;> simp [runF, outF, sSeq, sIf, sRet, sRetN, sSet1, sSet, sTg, sExpr, sNx, aVar, aK, aCons, aNil, aOp2, app2, aCall, valL, E.val, aT, aNotT, aAndT, aOrT, aAndV, aOrV, aNotV, aIf, aChain, aTup, aLst, keepL, keep1, freeze, toSL, toS, setL, aFn, appFn, argS, slIx, wb, aIter, D.items?, aMeth, D.tyn, aSlice, aPart, aPartN, gIsi, D.isi, gIs, gIsn, D.is?, D.seq?, aStar, O.toD, eBl, eInt, eStr, tset, tsetL, wipeS, backS, nOwn, D.imm, ll, nx]
            rw [sPut, f1]
            simp only [Res.bind_ok, ll, List.getElem?_cons_succ, List.getElem?_cons_zero, aVar, keep1, E.val, O.toD, q]
            rfl
          have st3 : sExpr (aMut "list" 3 uExtend (aCons (aOp2 gIx (aVar 2) (aVar 4)) aNil)) (ll rs (.d (.lst (nums.map nI))) (fp ++ [(h, .lst ((nextT rs nums h).map sD))]) w (.d (sD h))) = .ok .nx (ll rs (.d (.lst (nums.map nI))) (fp ++ [(h, .lst ((nextT rs nums h).map sD))]) (w ++ nextT rs nums h) (.d (sD h))) := by
            have q := ix_dd (dget_new (x := .lst ((nextT rs nums h).map sD)) hh)
            have f1 : aOp2 gIx (aVar 2) (aVar 4) (ll rs (.d (.lst (nums.map nI))) (fp ++ [(h, .lst ((nextT rs nums h).map sD))]) w (.d (sD h))) = .ok (.d (.lst ((nextT rs nums h).map sD))) (ll rs (.d (.lst (nums.map nI))) (fp ++ [(h, .lst ((nextT rs nums h).map sD))]) w (.d (sD h))) := by
              simp only [aOp2, aVar, ll, List.getElem?_cons_succ, List.getElem?_cons_zero, Res.bind_ok, app2, E.val, O.toD, q]
            refine (ext_eq (i := 3) (F := w.map sD) rfl f1 (by rw [List.length_map, List.length_map]; exact small_line (by omega))).trans ?_
            simp [ll]
          refine .inr ⟨_, _, _, c, (seq_nx st1).trans ((if_t c2).trans ((seq_nx st2).trans st3)), ?_, _, _, _, _, rfl, .inr rfl, by simpa using L', rfl, ?_, fun _ => rfl⟩
          · rw [List.length_append, List.length_append, List.length_singleton]; omega
          · rw [List.length_append, List.length_append, List.length_singleton]; omega) 100000 4609 (ll rs sN [] [BEG] .no) (by decide) ⟨[], [BEG], sN, .no, rfl, hS, ⟨List.nodup_nil, fun x hx => by simp at hx; subst hx; exact .base, .inr (by simp), fun x hx => by simp at hx⟩, rfl, by decide, fun z => (z rfl).elim⟩
  refine ⟨fp, ?_, L.nd, fun x => ⟨fun h => L.come x (.inl h), L.all x⟩⟩
  unfold m__law_states b__law_states
  refine (run_sl (o := .dd (fp.map kvD)) (j := 2) (ρ1 := ll rs (.d (.lst (nums.map nI))) fp [] s4) rfl ?_ (by show 2 ≤ 2; omega) rfl).trans rfl
  show sSeq _ (sSeq (sWhile 100000 _ lwBody) _) [.d (bookD rs), sN, .no, .no, .no] = _
  rw [seq_nx (ρ1 := ll rs sN [] [BEG] .no) (by rcases hS with rfl | rfl <;> simp [runF, outF, sSeq, sIf, sRet, sRetN, sSet1, sSet, sTg, sExpr, sNx, aVar, aK, aCons, aNil, aOp2, app2, aCall, valL, E.val, aT, aNotT, aAndT, aOrT, aAndV, aOrV, aNotV, aIf, aChain, aTup, aLst, keepL, keep1, freeze, toSL, toS, setL, aFn, appFn, argS, slIx, wb, aIter, D.items?, aMeth, D.tyn, aSlice, aPart, aPartN, gIsi, D.isi, gIs, gIsn, D.is?, D.seq?, aStar, O.toD, eBl, eInt, eStr, tset, tsetL, wipeS, backS, nOwn, D.imm, aDictN0, le1, le2, ll, sD, BEG]), seq_nx (show sWhile 100000 _ lwBody (ll rs sN [] [BEG] .no) = _ from e)]
  rfl
end
end L2.AL.SH
namespace L2.AL.SH
open PySem PySem.Spec PyProof.Rows L2 L2.AL TL
/-! the program's search -/
section
variable {rs : List Rec} {nums : List Nat} {sN : S}
def pw (rs : List Rec) (sN : S) (fp : List (Stt × D)) (w : List Stt) (s5 s6 s7 s8 : S) : List S := [.d (bookD rs), sN, .d (sD BEG), .own (.dd (fp.map kvD)), .own (.lst (w.map sD)), s5, s6, s7, s8]
def piBody : List S → Res Fl := sIf (aT (aOp2 gNi (aVar 8) (aVar 3))) (sSeq (sPut 3 (aVar 8) (aTup (aStar (aVar 6) (aCons (aVar 7) aNil))))
  (sExpr (aMut "list" 4 uAppend (aCons (aVar 8) aNil)))) sNx
def pwBody : List S → Res Fl := sSeq (sSet1 5 (aMut0 "list" 4 uPop))
  (sSeq (sSet1 6 (aOp2 gIx (aVar 3) (aVar 5)))
  (sFor (aIter (aFn m_led_to (aCons (aVar 0) (aCons (aVar 1) (aCons (aVar 5) aNil))))) (.tp [(.nm 7), (.nm 8)]) piBody))
/-- the values are rows of numbers, not longer than the dict -/
def ValOk (fp : List (Stt × D)) : Prop := ∀ q ∈ fp, ∃ p : List D, q.2 = .tup p ∧ p.length ≤ fp.length
theorem pi_turn {fp : List (Stt × D)} {w : List Stt} {p : List D} {n : Nat} {t : Stt} {s5 : S} (hv : ValOk fp) (hp : p.length ≤ fp.length) (hf : fp.length ≤ 900) (hw : w.length ≤ 2000) :
    ∃ fp', piBody (pw rs sN fp w s5 (.d (.tup p)) (.d (nI n)) (.d (sD t))) = .ok .nx (pw rs sN fp' (pTurn (fp.map (·.1), w) [t]).2 s5 (.d (.tup p)) (.d (nI n)) (.d (sD t))) ∧ fp'.map (·.1) = (pTurn (fp.map (·.1), w) [t]).1 ∧ ValOk fp' ∧ fp.length ≤ fp'.length ∧ fp'.length ≤ fp.length + 1 := by
  have c : aT (aOp2 gNi (aVar 8) (aVar 3)) (pw rs sN fp w s5 (.d (.tup p)) (.d (nI n)) (.d (sD t))) = .ok (!decide (t ∈ fp.map (·.1))) (pw rs sN fp w s5 (.d (.tup p)) (.d (nI n)) (.d (sD t))) := by
    have q := ni_dd t fp
    simp [runF, outF, sSeq, sIf, sRet, sRetN, sSet1, sSet, sTg, sExpr, sNx, aVar, aK, aCons, aNil, aOp2, app2, aCall, valL, E.val, aT, aNotT, aAndT, aOrT, aAndV, aOrV, aNotV, aIf, aChain, aTup, aLst, keepL, keep1, freeze, toSL, toS, setL, aFn, appFn, argS, slIx, wb, aIter, D.items?, aMeth, D.tyn, aSlice, aPart, aPartN, gIsi, D.isi, gIs, gIsn, D.is?, D.seq?, aStar, O.toD, eBl, eInt, eStr, tset, tsetL, wipeS, backS, nOwn, D.imm, pw, q]
  by_cases h : t ∈ fp.map (·.1)
  · rw [decide_eq_true h] at c
    refine ⟨fp, (if_f c).trans ?_, ?_, hv, Nat.le_refl _, by omega⟩
    · unfold pTurn
      simp only [List.foldl_cons, List.foldl_nil, if_pos h]
      rfl
    · unfold pTurn
      simp only [List.foldl_cons, List.foldl_nil, if_pos h]
  · rw [decide_eq_false h] at c
    have st1 : sPut 3 (aVar 8) (aTup (aStar (aVar 6) (aCons (aVar 7) aNil))) (pw rs sN fp w s5 (.d (.tup p)) (.d (nI n)) (.d (sD t))) = .ok .nx (pw rs sN (fp ++ [(t, .tup (p ++ [nI n]))]) w s5 (.d (.tup p)) (.d (nI n)) (.d (sD t))) := by
      have q := put_dd (x := .tup (p ++ [nI n])) h (by omega)
      have f1 : aTup (aStar (aVar 6) (aCons (aVar 7) aNil)) (pw rs sN fp w s5 (.d (.tup p)) (.d (nI n)) (.d (sD t))) = .ok (.d (.tup (p ++ [nI n]))) (pw rs sN fp w s5 (.d (.tup p)) (.d (nI n)) (.d (sD t))) := by
        have v6 : aVar 6 (pw rs sN fp w s5 (.d (.tup p)) (.d (nI n)) (.d (sD t))) = .ok (.d (.tup p)) (pw rs sN fp w s5 (.d (.tup p)) (.d (nI n)) (.d (sD t))) := rfl
        have v7 : aVar 7 (pw rs sN fp w s5 (.d (.tup p)) (.d (nI n)) (.d (sD t))) = .ok (.d (nI n)) (pw rs sN fp w s5 (.d (.tup p)) (.d (nI n)) (.d (sD t))) := rfl
        have kl := keepL_ds (p ++ [nI n]) (pw rs sN fp w s5 (.d (.tup p)) (.d (nI n)) (.d (sD t)))
        have em : p.map E.d ++ [E.d (nI n)] = (p ++ [nI n]).map E.d := by simp
        rw [aTup, aStar, v6]
        simp only [Res.bind_ok, E.val, Option.bind_some, D.seq?, aCons, v7, aNil, em, kl]
        rw [if_pos (by rw [List.length_append, List.length_singleton]; exact small_line (by omega))]
      rw [sPut, f1]
      simp only [Res.bind_ok, pw, List.getElem?_cons_succ, List.getElem?_cons_zero, aVar, keep1, E.val, O.toD, q]
      rfl
    have st2 : sExpr (aMut "list" 4 uAppend (aCons (aVar 8) aNil)) (pw rs sN (fp ++ [(t, .tup (p ++ [nI n]))]) w s5 (.d (.tup p)) (.d (nI n)) (.d (sD t))) = .ok .nx (pw rs sN (fp ++ [(t, .tup (p ++ [nI n]))]) (w ++ [t]) s5 (.d (.tup p)) (.d (nI n)) (.d (sD t))) := by
      refine (app_eq (ρ := pw rs sN (fp ++ [(t, .tup (p ++ [nI n]))]) w s5 (.d (.tup p)) (.d (nI n)) (.d (sD t))) (i := 4) (F := w.map sD) (x := sD t) rfl rfl (by rw [List.length_map]; exact Nat.lt_of_le_of_lt hw (by rw [sizeLine_eq]; decide))).trans ?_
      simp [pw]
    refine ⟨fp ++ [(t, .tup (p ++ [nI n]))], (if_t c).trans ((seq_nx st1).trans (st2.trans ?_)), ?_, fun q hq => ?_, by simp, by simp⟩
    · unfold pTurn
      simp only [List.foldl_cons, List.foldl_nil, if_neg h]
    · unfold pTurn
      simp only [List.foldl_cons, List.foldl_nil, if_neg h]
      simp
    · rcases List.mem_append.mp hq with hq | hq
      · obtain ⟨p', e, l⟩ := hv q hq
        exact ⟨p', e, by rw [List.length_append]; omega⟩
      · simp at hq
        subst hq
        exact ⟨_, rfl, by simp; omega⟩
theorem pTurn_snoc (f : List Stt × List Stt) (ys : List Stt) (y : Stt) : pTurn f (ys ++ [y]) = pTurn (pTurn f ys) [y] := by
  unfold pTurn
  rw [List.foldl_append]
theorem pTurn_le (ys : List Stt) (f w : List Stt) : (pTurn (f, w) ys).2.length ≤ w.length + ys.length := by
  obtain ⟨new, e, h1, h2, _⟩ := pTurn_new ys f w
  rw [e]
  have := nodup_le new ys h1 fun x hx => (h2 x hx).1
  simp; omega
theorem pi_loop {fp : List (Stt × D)} {w : List Stt} {p : List D} {s5 s7 s8 : S} {it : List S → Res (List D)} {ρ : List S} (L : List (Nat × Stt)) (hit : it ρ = .ok (L.map pD) (pw rs sN fp w s5 (.d (.tup p)) s7 s8)) (hv : ValOk fp) (hp : p.length ≤ fp.length) (hf : fp.length ≤ 600) (hw : w.length ≤ 600) (hL : L.length ≤ 100) :
    ∃ fp' t7 t8, sFor it (.tp [(.nm 7), (.nm 8)]) piBody ρ = .ok .nx (pw rs sN fp' (pTurn (fp.map (·.1), w) (L.map (·.2))).2 s5 (.d (.tup p)) t7 t8) ∧ fp'.map (·.1) = (pTurn (fp.map (·.1), w) (L.map (·.2))).1 ∧ ValOk fp' := by
  obtain ⟨ρ', e, fp', t7, t8, rfl, h1, h2, h3, h4⟩ := sFor_ex (t := .tp [(.nm 7), (.nm 8)]) (body := piBody) (I := fun i ρ => ∃ fp' t7 t8, ρ = pw rs sN fp' (pTurn (fp.map (·.1), w) ((L.take i).map (·.2))).2 s5 (.d (.tup p)) t7 t8 ∧ fp'.map (·.1) = (pTurn (fp.map (·.1), w) ((L.take i).map (·.2))).1 ∧ ValOk fp' ∧ fp.length ≤ fp'.length ∧ fp'.length ≤ fp.length + i) hit (by
      rintro i x ρ hx ⟨fp', t7, t8, rfl, h1, h2, h3, h4⟩
      rw [List.getElem?_map] at hx
      obtain ⟨⟨n, t⟩, hn, rfl⟩ := Option.map_eq_some_iff.mp hx
      have hi := (List.getElem?_eq_some_iff.mp hn).1
      have wl := pTurn_le ((L.take i).map (·.2)) (fp.map (·.1)) w
      rw [List.length_map, List.length_take] at wl
      obtain ⟨fq, e, k1, k2, k3, k4⟩ := pi_turn (rs := rs) (sN := sN) (n := n) (t := t) (s5 := s5) (p := p) (w := (pTurn (fp.map (·.1), w) ((L.take i).map (·.2))).2) h2 (by omega) (by omega) (by omega)
      rw [h1] at e k1
      refine ⟨_, _, rfl, e, fq, .d (nI n), .d (sD t), ?_, ?_, k2, by omega, by omega⟩
      · rw [List.take_add_one, hn, List.map_append, show (Option.toList (some (n, t))).map (·.2) = [t] from rfl, pTurn_snoc]
      · rw [List.take_add_one, hn, List.map_append, show (Option.toList (some (n, t))).map (·.2) = [t] from rfl, pTurn_snoc]
        exact k1) ⟨fp, s7, s8, rfl, rfl, hv, Nat.le_refl _, by omega⟩
  rw [List.length_map, List.take_length] at e h1
  exact ⟨fp', t7, t8, e, h1, h2⟩
def PI (rs : List Rec) (nums : List Nat) (m : Nat) (ρ : List S) : Prop := ∃ (fp : List (Stt × D)) (w : List Stt) (sN' s5 s6 s7 s8 : S), ρ = pw rs sN' fp w s5 s6 s7 s8 ∧ NumS nums sN' ∧ PInv (nextT rs nums) BEG (fp.map fun p => p.1) w ∧ ValOk fp ∧ 2 * (512 - fp.length) + w.length = m ∧ (w = [] → sN' = .d (.lst (nums.map nI)))
def QI (rs : List Rec) (nums : List Nat) (ρ : List S) : Prop := ∃ (fp : List (Stt × D)) (sN' s5 s6 s7 s8 : S), ρ = pw rs sN' fp [] s5 s6 s7 s8 ∧ sN' = .d (.lst (nums.map nI)) ∧ PInv (nextT rs nums) BEG (fp.map fun p => p.1) []
theorem ways_spec (hN : NumsOk rs nums) (hR : RecsOk rs) (hS : NumS nums sN) : ∃ fp : List (Stt × D), m_ways_from [.d (bookD rs), sN, .d (sD BEG)] = .ok (.fr (.dd (fp.map kvD))) [.d (bookD rs), .d (.lst (nums.map nI)), .d (sD BEG)] ∧
    (fp.map (·.1)).Nodup ∧ ∀ x, x ∈ fp.map (·.1) ↔ Come (nextT rs nums) BEG x := by
  have L0 : PInv (nextT rs nums) BEG [BEG] [BEG] := ⟨by simp, fun x hx => hx, fun x hx => by simp at hx; subst hx; exact .base, by simp, fun x hx hn => by simp at hx hn; exact absurd hx hn, by simp⟩
  have V0 : ValOk [(BEG, .tup [])] := fun q hq => by simp at hq; subst hq; exact ⟨[], rfl, by simp⟩
  obtain ⟨ρ', e, fp, sN', s5, s6, s7, s8, rfl, rfl, L⟩ := whGo_ex (c := aT (aOp2 gNe (aVar 4) (aLst aNil))) (body := pwBody)
    (I := PI rs nums) (Q := QI rs nums) (by
      rintro m ρ ⟨fp, w, sN, s5, s6, s7, s8, rfl, hS, L, hv, hm, hz⟩
      have c : aT (aOp2 gNe (aVar 4) (aLst aNil)) (pw rs sN fp w s5 s6 s7 s8) = .ok (!decide (w = [])) (pw rs sN fp w s5 s6 s7 s8) := by
        have q := ne_states w
        rcases hS with rfl | rfl <;> simp [runF, outF, sSeq, sIf, sRet, sRetN, sSet1, sSet, sTg, sExpr, sNx, aVar, aK, aCons, aNil, aOp2, app2, aCall, valL, E.val, aT, aNotT, aAndT, aOrT, aAndV, aOrV, aNotV, aIf, aChain, aTup, aLst, keepL, keep1, freeze, toSL, toS, setL, aFn, appFn, argS, slIx, wb, aIter, D.items?, aMeth, D.tyn, aSlice, aPart, aPartN, gIsi, D.isi, gIs, gIsn, D.is?, D.seq?, aStar, O.toD, eBl, eInt, eStr, tset, tsetL, wipeS, backS, nOwn, D.imm, pw, q]
      have fl : fp.length ≤ 512 := by
        have := come_few hN L.nd fun x hx => L.come x hx
        rwa [List.length_map] at this
      have wl : w.length ≤ 512 := Nat.le_trans (nodup_le w (fp.map (·.1)) L.wnd L.sub) (by rw [List.length_map]; exact fl)
      by_cases hw : w = []
      · subst hw
        exact .inl ⟨_, c, fp, sN, s5, s6, s7, s8, rfl, hz rfl, L⟩
      · rw [decide_eq_false hw] at c
        obtain ⟨w, h, rfl⟩ : ∃ w' h, w = w' ++ [h] := ⟨w.dropLast, w.getLast hw, (List.dropLast_concat_getLast hw).symm⟩
        rw [List.length_append, List.length_singleton] at hm wl
        have hh := L.sub h (by simp)
        have st1 : sSet1 5 (aMut0 "list" 4 uPop) (pw rs sN fp (w ++ [h]) s5 s6 s7 s8) = .ok .nx (pw rs sN fp w (.d (sD h)) s6 s7 s8) := by
          have q := pop_eq (ρ := pw rs sN fp (w ++ [h]) s5 s6 s7 s8) (i := 4) (F := w.map sD) (x := sD h) (by simp [pw])
          rw [set_d q (by simp [pw])]
          rfl
        obtain ⟨q, hq, qe, qd⟩ := dget_of hh
        obtain ⟨p, qp, pl⟩ := hv q hq
        have st2 : sSet1 6 (aOp2 gIx (aVar 3) (aVar 5)) (pw rs sN fp w (.d (sD h)) s6 s7 s8) = .ok .nx (pw rs sN fp w (.d (sD h)) (.d (.tup p)) s7 s8) := by
          have k := ix_dd qd
          rw [qp] at k
          have f1 : aOp2 gIx (aVar 3) (aVar 5) (pw rs sN fp w (.d (sD h)) s6 s7 s8) = .ok (.d (.tup p)) (pw rs sN fp w (.d (sD h)) s6 s7 s8) := by
            simp only [aOp2, aVar, pw, List.getElem?_cons_succ, List.getElem?_cons_zero, Res.bind_ok, app2, E.val, O.toD, k]
          rw [set_d f1 (by simp [pw])]
          rfl
        have hc := come_ok (L.come h hh)
        have ld := led_spec (s := h) hN hR (Nat.le_trans (come_len hN hc) (by decide)) hS
        have it : aIter (aFn m_led_to (aCons (aVar 0) (aCons (aVar 1) (aCons (aVar 5) aNil)))) (pw rs sN fp w (.d (sD h)) (.d (.tup p)) s7 s8) = .ok ((nums.filterMap (ledT rs nums h)).map pD) (pw rs (.d (.lst (nums.map nI))) fp w (.d (sD h)) (.d (.tup p)) s7 s8) := by
          rcases hS with rfl | rfl <;> simp [runF, outF, sSeq, sIf, sRet, sRetN, sSet1, sSet, sTg, sExpr, sNx, aVar, aK, aCons, aNil, aOp2, app2, aCall, valL, E.val, aT, aNotT, aAndT, aOrT, aAndV, aOrV, aNotV, aIf, aChain, aTup, aLst, keepL, keep1, freeze, toSL, toS, setL, aFn, appFn, argS, slIx, wb, aIter, D.items?, aMeth, D.tyn, aSlice, aPart, aPartN, gIsi, D.isi, gIs, gIsn, D.is?, D.seq?, aStar, O.toD, eBl, eInt, eStr, tset, tsetL, wipeS, backS, nOwn, D.imm, pw, ld]
        have Ll : (nums.filterMap (ledT rs nums h)).length ≤ 100 := Nat.le_trans (List.length_filterMap_le _ _) (Nat.le_trans hN.few (by decide))
        obtain ⟨fp', t7, t8, e3, k1, k2⟩ := pi_loop (nums.filterMap (ledT rs nums h)) it hv pl (by omega) (by omega) Ll
        rw [led_next] at e3 k1
        obtain ⟨new, ne, n1, n2, n3⟩ := pTurn_new (nextT rs nums h) (fp.map (·.1)) w
        rw [ne] at e3 k1
        have k1 : fp'.map (·.1) = fp.map (·.1) ++ new := k1
        have L' := L.turn ne n1 n2 n3
        have fl' : fp'.length ≤ 512 := by
          have := come_few hN L'.nd fun x hx => L'.come x hx
          rw [← k1, List.length_map] at this
          exact this
        have fe : fp'.length = fp.length + new.length := by
          have := congrArg List.length k1
          simpa using this
        refine .inr ⟨_, _, 2 * (512 - fp'.length) + (w ++ new).length, c, (seq_nx st1).trans ((seq_nx st2).trans e3), ?_, fp', w ++ new, _, _, _, _, _, rfl, .inr rfl, by rw [k1]; exact L', k2, rfl, fun _ => rfl⟩
        rw [List.length_append]; omega) 100000 1023 (pw rs sN [(BEG, .tup [])] [BEG] .no .no .no .no) (by decide) ⟨[(BEG, .tup [])], [BEG], sN, .no, .no, .no, .no, rfl, hS, L0, V0, rfl, fun z => by cases z⟩
  refine ⟨fp, ?_, L.nd, fun x => ⟨fun h => L.come x h, L.all x⟩⟩
  unfold m_ways_from b_ways_from
  refine (run_sl (o := .dd (fp.map kvD)) (j := 3) (ρ1 := pw rs (.d (.lst (nums.map nI))) fp [] s5 s6 s7 s8) rfl ?_ (by show 3 ≤ 3; omega) rfl).trans rfl
  show sSeq _ (sSeq (sWhile 100000 _ pwBody) _) [.d (bookD rs), sN, .d (sD BEG), .no, .no, .no, .no, .no, .no] = _
  have k := key_sD BEG
  rw [seq_nx (ρ1 := pw rs sN [(BEG, .tup [])] [BEG] .no .no .no .no) (by rcases hS with rfl | rfl <;> simp [runF, outF, sSeq, sIf, sRet, sRetN, sSet1, sSet, sTg, sExpr, sNx, aVar, aK, aCons, aNil, aOp2, app2, aCall, valL, E.val, aT, aNotT, aAndT, aOrT, aAndV, aOrV, aNotV, aIf, aChain, aTup, aLst, keepL, keep1, freeze, toSL, toS, setL, aFn, appFn, argS, slIx, wb, aIter, D.items?, aMeth, D.tyn, aSlice, aPart, aPartN, gIsi, D.isi, gIs, gIsn, D.is?, D.seq?, aStar, O.toD, eBl, eInt, eStr, tset, tsetL, wipeS, backS, nOwn, D.imm, aDictN1, le1, pw, k, kvD]), seq_nx (show sWhile 100000 _ pwBody (pw rs sN [(BEG, .tup [])] [BEG] .no .no .no .no) = _ from e)]
  rfl
end
end L2.AL.SH
namespace L2.AL.SH
open PySem PySem.Spec PyProof.Rows L2 L2.AL TL
/-! states, sorted and shown -/
theorem states_ok (l : List Stt) (hd : ∀ s ∈ l, s.1.length ≤ 1000) : sortOk (l.map sD) = true := by
  unfold sortOk
  simp only [Bool.and_eq_true, Bool.or_eq_true, List.all_eq_true, List.mem_map, forall_exists_index, and_imp, forall_apply_eq_imp_iff₂]
  have pd : ∀ s, (sD s).pyd = sP s := fun s => by unfold D.pyd; rw [py_sD]; rfl
  refine ⟨⟨fun a _ => ⟨by rw [py_sD]; rfl, ?_⟩, fun a _ b _ => ?_⟩, .inl fun a _ => by rw [pd]; rfl⟩
  · rw [pd]
    have := (lay_sP a).2
    exact decide_eq_true (by omega)
  · rw [pd, pd]
    simp only [sP, PySem.W.alike, PySem.W.alikeAll, Bool.and_true]
    have q := PySem.W.alike_ints (a.1.map fun n : Nat => (n : Int)) (b.1.map fun n : Nat => (n : Int))
    rw [List.map_map, List.map_map] at q
    exact q
open PySem.W in
theorem states_same {l m : List Stt} (p : l.Perm m) : sortD (l.map sD) = sortD (m.map sD) := by
  have q := sortD_same (α := Tup Int × Bool) (fun t : Tup Int × Bool => .tup [.tup (t.1.items.map .int), .bl t.2]) (fun t => by
      obtain ⟨⟨is⟩, b⟩ := t
      have e : ∀ l : List Int, D.pyL (l.map .int) = some (l.map .int) := fun l => by
        induction l with
        | nil => rfl
        | cons x l ih => rw [List.map_cons, D.pyL, ih]; rfl
      simp [D.py, D.pyL, e]
      rfl) (fun a b h1 h2 => by
      obtain ⟨⟨xs⟩, u⟩ := a
      obtain ⟨⟨ys⟩, v⟩ := b
      have h1 : (if (⟨xs⟩ : Tup Int) = ⟨ys⟩ then (!u && v) else listLt xs ys) = false := h1
      have h2 : (if (⟨ys⟩ : Tup Int) = ⟨xs⟩ then (!v && u) else listLt ys xs) = false := h2
      by_cases e : (⟨xs⟩ : Tup Int) = ⟨ys⟩
      · rw [if_pos e] at h1
        rw [if_pos e.symm] at h2
        have : u = v := by cases u <;> cases v <;> simp_all
        rw [e, this]
      · rw [if_neg e] at h1
        rw [if_neg (Ne.symm e)] at h2
        exact absurd (by rw [listLt_anti xs ys h1 h2]) e) (p.map fun s : Stt => ((⟨s.1.map fun n : Nat => (n : Int)⟩, s.2) : Tup Int × Bool))
  have c : ∀ k : List Stt, (k.map fun s : Stt => ((⟨s.1.map fun n : Nat => (n : Int)⟩, s.2) : Tup Int × Bool)).map (fun t : Tup Int × Bool => D.tup [.tup (t.1.items.map .int), .bl t.2]) = k.map sD := fun k => by
    rw [List.map_map]
    congr 1
    funext s
    simp [sD, nI, Function.comp_def]
  rw [c, c] at q
  exact q
theorem sort_form (l : List Stt) : ∃ g : List Stt, g.Perm l ∧ sortD (l.map sD) = g.map sD := by
  refine ⟨l.mergeSort fun a b => D.sle (sD a) (sD b), List.mergeSort_perm _ _, ?_⟩
  unfold sortD
  exact (List.map_mergeSort (f := sD) (r := fun a b => D.sle (sD a) (sD b)) (s := D.sle) (l := l) (fun _ _ _ _ => rfl)).symm
theorem fitAll {α : Type} (g : α → PyData) (k : Nat) : ∀ l : List α, (∀ a ∈ l, (g a).showable = true ∧ (g a).leavesShort 30 = true ∧ (g a).weight ≤ k) → PyData.showableAll (l.map g) = true ∧ PyData.leavesShortAll 30 (l.map g) = true ∧ PyData.weightAll (l.map g) ≤ l.length * (k + 1)
  | [], _ => ⟨rfl, rfl, by simp [PyData.weightAll]⟩
  | a :: l, h => by
    obtain ⟨h1, h2, h3⟩ := h a List.mem_cons_self
    obtain ⟨h4, h5, h6⟩ := fitAll g k l fun b hb => h b (List.mem_cons_of_mem _ hb)
    simp only [List.map_cons, PyData.showableAll, PyData.leavesShortAll, PyData.weightAll, h1, h2, h4, h5, Bool.and_self, true_and, List.length_cons, Nat.add_mul, Nat.one_mul]
    omega
theorem small_shown : ∀ n : Nat, n < 32 → (Str.ofString (toString (n : Int))).length ≤ 30 := by decide +kernel
theorem num_fit {n : Nat} (h : n < 32) : (PyData.int (n : Int)).showable = true ∧ (PyData.int (n : Int)).leavesShort 30 = true ∧ (PyData.int (n : Int)).weight ≤ 6 := by
  have hl : n.log2 < 5 := log_smallG (by omega) (by decide)
  refine ⟨?_, ?_, ?_⟩
  · simp only [PyData.showable]; exact decide_eq_true (by simp; omega)
  · simp only [PyData.leavesShort, PyData.shown]
    exact decide_eq_true (small_shown n h)
  · simp only [PyData.weight]
    split
    · omega
    · simp; omega
theorem state_fit {s : Stt} (hl : s.1.length ≤ 8) (hn : ∀ n ∈ s.1, n < 32) : (sP s).showable = true ∧ (sP s).leavesShort 30 = true ∧ (sP s).weight ≤ 60 := by
  have q := fitAll (fun n : Nat => PyData.int n) 6 s.1 fun n hn' => num_fit (hn n hn')
  have b : (PyData.bool s.2).leavesShort 30 = true := by cases s.2 <;> decide +kernel
  refine ⟨?_, ?_, ?_⟩
  · simp only [sP, PyData.showable, PyData.showableAll, q.1, Bool.and_self]
  · simp only [sP, PyData.leavesShort, PyData.leavesShortAll, q.2.1, Bool.and_self, Bool.and_true]
    first | done | exact b
  · simp only [sP, PyData.weight, PyData.weightAll]
    have := q.2.2
    omega
theorem states_repr {g : List Stt} (hl : g.length ≤ 512) (h : ∀ s ∈ g, s.1.length ≤ 8 ∧ ∀ n ∈ s.1, n < 32) : ∃ z, (D.tup (g.map sD)).repr? = some z := by
  have fit := fitAll sP 60 g fun s hs => state_fit (h s hs).1 (h s hs).2
  have pl : ∀ l : List Stt, D.pyL (l.map sD) = some (l.map sP) := fun l => by
    induction l with
    | nil => rfl
    | cons x l ih => rw [List.map_cons, D.pyL, ih, py_sD]; rfl
  have py : (D.tup (g.map sD)).py = some (.tuple (g.map sP)) := by rw [D.py, pl]; rfl
  have hs : (PyData.tuple (g.map sP)).leavesShort 30 = true := by simp only [PyData.leavesShort]; exact fit.2.1
  have hw : (PyData.tuple (g.map sP)).weight ≤ 31232 := by simp only [PyData.weight]; have := fit.2.2; omega
  have hsh := PyData.shown_le 30 (by decide) _ hs
  have hd : (PyData.tuple (g.map sP)).depth ≤ 3 := by
    have q := layAllG sP 2 g fun s _ => lay_sP s
    simp only [PyData.depth]
    have := q.2
    omega
  refine ⟨(PyData.tuple (g.map sP)).shown, ?_⟩
  unfold D.repr?
  rw [py]
  simp only
  rw [if_pos]
  refine ⟨by simp only [PyData.showable]; exact fit.1, by omega, ?_⟩
  refine Nat.le_trans (Nat.le_trans hsh ?_) (show 10000000 ≤ sizeLine by rw [sizeLine_eq]; decide)
  omega
/-- what is due of the states f -/
def dueT (rs : List Rec) (nums : List Nat) (f : List Stt) : D := if (f.any fun s => fullT rs nums s.1) = true then .non else .tup (sortD (f.map sD))
section
variable {rs : List Rec} {nums : List Nat} {f g : List Stt}
theorem due_same (hf : f.Nodup) (hg : g.Nodup) (h : ∀ x, x ∈ f ↔ x ∈ g) : dueT rs nums f = dueT rs nums g := by
  have p := perm_of hf hg h
  have a : (f.any fun s => fullT rs nums s.1) = g.any fun s => fullT rs nums s.1 := by
    rw [Bool.eq_iff_iff, List.any_eq_true, List.any_eq_true]
    exact ⟨fun ⟨x, hx, e⟩ => ⟨x, (h x).mp hx, e⟩, fun ⟨x, hx, e⟩ => ⟨x, (h x).mpr hx, e⟩⟩
  unfold dueT
  rw [a, states_same p]
theorem due_repr (hN : NumsOk rs nums) (hl : rs.length ≤ 32) (hf : f.Nodup) (h : ∀ x ∈ f, Come (nextT rs nums) BEG x) : ∃ z, (dueT rs nums f).repr? = some z := by
  unfold dueT
  split
  · exact ⟨_, rfl⟩
  · obtain ⟨g, p, e⟩ := sort_form f
    rw [e]
    refine states_repr (by rw [p.length_eq]; exact come_few hN hf h) fun s hs => ?_
    have k := come_ok (h s (p.mem_iff.mp hs))
    exact ⟨come_len hN k, fun n hn => Nat.lt_of_lt_of_le (hN.lt n (k.sub n hn)) hl⟩
end
end L2.AL.SH
namespace L2.AL.SH
open PySem PySem.Spec PyProof.Rows L2 L2.AL TL
section
variable {rs : List Rec} {k : Str}
theorem BookOk.recs (h : BookOk rs) : RecsOk rs := ⟨h.row, h.begins, h.times⟩
theorem check_spec (h : BookOk rs) : m_check_history [.d (bookD rs)] = .ok (.d .non) [.d (bookD rs)] := by
  have q := history_spec h
  unfold m_check_history b_check_history bookD
  simp [runF, outF, sSeq, sIf, sRet, sRetN, sSet1, sSet, sTg, sExpr, sNx, aVar, aK, aCons, aNil, aOp2, app2, aCall, valL, E.val, aT, aNotT, aAndT, aOrT, aAndV, aOrV, aNotV, aIf, aChain, aTup, aLst, keepL, keep1, freeze, toSL, toS, setL, aFn, appFn, argS, slIx, wb, aIter, D.items?, aMeth, D.tyn, aSlice, aPart, aPartN, gIsi, D.isi, gIs, gIsn, D.is?, D.seq?, aStar, O.toD, eBl, eInt, eStr, tset, tsetL, wipeS, backS, nOwn, D.imm, q]
theorem check_key_spec (h : nameB k = true) : m_check_key [.d (.str k)] = .ok (.d .non) [.d (.str k)] := by
  have q := name_spec k (nameB_len h)
  rw [h] at q
  unfold m_check_key b_check_key
  simp [runF, outF, sSeq, sIf, sRet, sRetN, sSet1, sSet, sTg, sExpr, sNx, aVar, aK, aCons, aNil, aOp2, app2, aCall, valL, E.val, aT, aNotT, aAndT, aOrT, aAndV, aOrV, aNotV, aIf, aChain, aTup, aLst, keepL, keep1, freeze, toSL, toS, setL, aFn, appFn, argS, slIx, wb, aIter, D.items?, aMeth, D.tyn, aSlice, aPart, aPartN, gIsi, D.isi, gIs, gIsn, D.is?, D.seq?, aStar, O.toD, eBl, eInt, eStr, tset, tsetL, wipeS, backS, nOwn, D.imm, q]
theorem keys_kv (fp : List (Stt × D)) : (fp.map kvD).map (·.1) = (fp.map (·.1)).map sD := by
  rw [List.map_map, List.map_map]; rfl
theorem come_small {nums : List Nat} (hN : NumsOk rs nums) {f : List Stt} (h : ∀ x ∈ f, Come (nextT rs nums) BEG x) : ∀ s ∈ f, s.1.length ≤ 1000 := fun s hs => by
  have := come_len hN (come_ok (h s hs))
  omega
theorem closed_spec (h : BookOk rs) (hl : rs.length ≤ 8) (hk : nameB k = true) : ∃ f : List Stt, f.Nodup ∧ (∀ x, x ∈ f ↔ Come (nextT rs (numsT rs k)) BEG x) ∧
    m_closed [.d (bookD rs), .d (.str k)] = .ok (.d (dueT rs (numsT rs k) f)) [.d (bookD rs), .d (.str k)] := by
  have hN := numsOk (k := k) hl
  obtain ⟨fp, e3, nd, hc⟩ := ways_spec (sN := .own (.lst ((numsT rs k).map nI))) hN h.recs (.inl rfl)
  refine ⟨fp.map (·.1), nd, hc, ?_⟩
  have fl : (fp.map (·.1)).length ≤ 512 := come_few hN nd fun x hx => (hc x).mp hx
  have st1 : sExpr (aFn m_check_history (aCons (aVar 0) aNil)) [.d (bookD rs), .d (.str k), .no, .no, .no, .no] = .ok .nx [.d (bookD rs), .d (.str k), .no, .no, .no, .no] := by
    have q := check_spec h
    simp [runF, outF, sSeq, sIf, sRet, sRetN, sSet1, sSet, sTg, sExpr, sNx, aVar, aK, aCons, aNil, aOp2, app2, aCall, valL, E.val, aT, aNotT, aAndT, aOrT, aAndV, aOrV, aNotV, aIf, aChain, aTup, aLst, keepL, keep1, freeze, toSL, toS, setL, aFn, appFn, argS, slIx, wb, aIter, D.items?, aMeth, D.tyn, aSlice, aPart, aPartN, gIsi, D.isi, gIs, gIsn, D.is?, D.seq?, aStar, O.toD, eBl, eInt, eStr, tset, tsetL, wipeS, backS, nOwn, D.imm, q]
  have st2 : sExpr (aFn m_check_key (aCons (aVar 1) aNil)) [.d (bookD rs), .d (.str k), .no, .no, .no, .no] = .ok .nx [.d (bookD rs), .d (.str k), .no, .no, .no, .no] := by
    have q := check_key_spec hk
    simp [runF, outF, sSeq, sIf, sRet, sRetN, sSet1, sSet, sTg, sExpr, sNx, aVar, aK, aCons, aNil, aOp2, app2, aCall, valL, E.val, aT, aNotT, aAndT, aOrT, aAndV, aOrV, aNotV, aIf, aChain, aTup, aLst, keepL, keep1, freeze, toSL, toS, setL, aFn, appFn, argS, slIx, wb, aIter, D.items?, aMeth, D.tyn, aSlice, aPart, aPartN, gIsi, D.isi, gIs, gIsn, D.is?, D.seq?, aStar, O.toD, eBl, eInt, eStr, tset, tsetL, wipeS, backS, nOwn, D.imm, q]
  have st3 : sSet1 2 (aFn m_numbers_of (aCons (aVar 0) (aCons (aVar 1) aNil))) [.d (bookD rs), .d (.str k), .no, .no, .no, .no] = .ok .nx [.d (bookD rs), .d (.str k), .own (.lst ((numsT rs k).map nI)), .no, .no, .no] := by
    have q := numbers_spec (rs := rs) (k := k) (by omega)
    simp [runF, outF, sSeq, sIf, sRet, sRetN, sSet1, sSet, sTg, sExpr, sNx, aVar, aK, aCons, aNil, aOp2, app2, aCall, valL, E.val, aT, aNotT, aAndT, aOrT, aAndV, aOrV, aNotV, aIf, aChain, aTup, aLst, keepL, keep1, freeze, toSL, toS, setL, aFn, appFn, argS, slIx, wb, aIter, D.items?, aMeth, D.tyn, aSlice, aPart, aPartN, gIsi, D.isi, gIs, gIsn, D.is?, D.seq?, aStar, O.toD, eBl, eInt, eStr, tset, tsetL, wipeS, backS, nOwn, D.imm, q]
  have st4 : sSet1 3 (aFn m_ways_from (aCons (aVar 0) (aCons (aVar 2) (aCons (aK c_BEGIN) aNil)))) [.d (bookD rs), .d (.str k), .own (.lst ((numsT rs k).map nI)), .no, .no, .no] = .ok .nx [.d (bookD rs), .d (.str k), .d (.lst ((numsT rs k).map nI)), .own (.dd (fp.map kvD)), .no, .no] := by
    have q : m_ways_from [.d (bookD rs), .own (.lst ((numsT rs k).map nI)), .d c_BEGIN] = _ := e3
    simp [runF, outF, sSeq, sIf, sRet, sRetN, sSet1, sSet, sTg, sExpr, sNx, aVar, aK, aCons, aNil, aOp2, app2, aCall, valL, E.val, aT, aNotT, aAndT, aOrT, aAndV, aOrV, aNotV, aIf, aChain, aTup, aLst, keepL, keep1, freeze, toSL, toS, setL, aFn, appFn, argS, slIx, wb, aIter, D.items?, aMeth, D.tyn, aSlice, aPart, aPartN, gIsi, D.isi, gIs, gIsn, D.is?, D.seq?, aStar, O.toD, eBl, eInt, eStr, tset, tsetL, wipeS, backS, nOwn, D.imm, q]
  have kk := keys_kv fp
  have lc := aLc_all (it := aIter (aVar 3)) (t := .tp [(.nm 4), (.nm 5)]) (vs := [4, 5]) (f := aFn m_is_whole (aCons (aVar 0) (aCons (aVar 2) (aCons (aVar 4) aNil)))) sD (fun s => .bl (fullT rs (numsT rs k) s.1)) (fp.map (·.1)) (ρ := [.d (bookD rs), .d (.str k), .d (.lst ((numsT rs k).map nI)), .own (.dd (fp.map kvD)), .no, .no])
    (ρ1 := [.d (bookD rs), .d (.str k), .d (.lst ((numsT rs k).map nI)), .d (.dd (fp.map kvD)), .no, .no]) (by rw [← kk]; simp [runF, outF, sSeq, sIf, sRet, sRetN, sSet1, sSet, sTg, sExpr, sNx, aVar, aK, aCons, aNil, aOp2, app2, aCall, valL, E.val, aT, aNotT, aAndT, aOrT, aAndV, aOrV, aNotV, aIf, aChain, aTup, aLst, keepL, keep1, freeze, toSL, toS, setL, aFn, appFn, argS, slIx, wb, aIter, D.items?, aMeth, D.tyn, aSlice, aPart, aPartN, gIsi, D.isi, gIs, gIsn, D.is?, D.seq?, aStar, O.toD, eBl, eInt, eStr, tset, tsetL, wipeS, backS, nOwn, D.imm]) rfl (fun s hs => by
      have q := whole_spec (done := s.1) hN (.inr rfl)
      exact ⟨_, .d (.bl (fullT rs (numsT rs k) s.1)), rfl, by simp [runF, outF, sSeq, sIf, sRet, sRetN, sSet1, sSet, sTg, sExpr, sNx, aVar, aK, aCons, aNil, aOp2, app2, aCall, valL, E.val, aT, aNotT, aAndT, aOrT, aAndV, aOrV, aNotV, aIf, aChain, aTup, aLst, keepL, keep1, freeze, toSL, toS, setL, aFn, appFn, argS, slIx, wb, aIter, D.items?, aMeth, D.tyn, aSlice, aPart, aPartN, gIsi, D.isi, gIs, gIsn, D.is?, D.seq?, aStar, O.toD, eBl, eInt, eStr, tset, tsetL, wipeS, backS, nOwn, D.imm, sD, q], rfl, rfl⟩) (small_line (by omega))
  have cond : aT (aCall gAny (aCons (aLc [4, 5] (aIter (aVar 3)) (.tp [(.nm 4), (.nm 5)]) aYes (aFn m_is_whole (aCons (aVar 0) (aCons (aVar 2) (aCons (aVar 4) aNil))))) aNil)) [.d (bookD rs), .d (.str k), .d (.lst ((numsT rs k).map nI)), .own (.dd (fp.map kvD)), .no, .no] =
      .ok ((fp.map (·.1)).any fun s => fullT rs (numsT rs k) s.1) [.d (bookD rs), .d (.str k), .d (.lst ((numsT rs k).map nI)), .d (.dd (fp.map kvD)), .no, .no] := by
    have q := any_bls (fun s : Stt => fullT rs (numsT rs k) s.1) (fp.map (·.1))
    refine aT_of ?_
    rw [aCall, aCons, lc]
    simp only [Res.bind_ok, aNil, valL, E.val, O.toD, Option.bind_some, q]
    rfl
  have so := states_ok (fp.map (·.1)) (come_small hN fun x hx => (hc x).mp hx)
  have srt : gSorted [.dd (fp.map kvD)] = some (.fr (.lst (sortD ((fp.map (·.1)).map sD)))) := by
    simp only [gSorted, kk, if_pos so]
  refine (run_rt (ρ1 := [.d (bookD rs), .d (.str k), .d (.lst ((numsT rs k).map nI)), .d (.dd (fp.map kvD)), .no, .no]) rfl ?_).trans rfl
  unfold b_closed
  show sSeq _ _ [.d (bookD rs), .d (.str k), .no, .no, .no, .no] = _
  rw [seq_nx st1, seq_nx st2, seq_nx st3, seq_nx st4]
  unfold dueT
  cases ha : ((fp.map (·.1)).any fun s => fullT rs (numsT rs k) s.1) with
  | true =>
    rw [ha] at cond
    rw [if_pos rfl]
    refine seq_rt ((if_t cond).trans ?_)
    simp [runF, outF, sSeq, sIf, sRet, sRetN, sSet1, sSet, sTg, sExpr, sNx, aVar, aK, aCons, aNil, aOp2, app2, aCall, valL, E.val, aT, aNotT, aAndT, aOrT, aAndV, aOrV, aNotV, aIf, aChain, aTup, aLst, keepL, keep1, freeze, toSL, toS, setL, aFn, appFn, argS, slIx, wb, aIter, D.items?, aMeth, D.tyn, aSlice, aPart, aPartN, gIsi, D.isi, gIs, gIsn, D.is?, D.seq?, aStar, O.toD, eBl, eInt, eStr, tset, tsetL, wipeS, backS, nOwn, D.imm]
  | false =>
    rw [ha] at cond
    rw [if_neg (by simp)]
    refine (seq_nx ((if_f cond).trans (rfl : sNx _ = .ok .nx _))).trans (ret_of ?_)
    simp only [aCall, aCons, aVar, List.getElem?_cons_succ, List.getElem?_cons_zero, Res.bind_ok, aNil, valL, E.val, Option.bind_some, srt, O.toD, gTuple]
end
end L2.AL.SH
namespace L2.AL.SH
open PySem PySem.Spec PyProof.Rows L2 L2.AL TL
/-! the laws' frame -/
theorem call1 {ρ : List S} {f : List S → Res E} {h : List D → Option E} {x : D} {v : E} (ha : f ρ = .ok (.d x) ρ) (e : h [x] = some v) : aCall h (aCons f aNil) ρ = .ok v ρ := by
  simp [aCall, aCons, ha, aNil, valL, E.val, e]
theorem call2 {ρ : List S} {f k : List S → Res E} {h : List D → Option E} {x y : D} {v : E} (ha : f ρ = .ok (.d x) ρ) (hb : k ρ = .ok (.d y) ρ) (e : h [x, y] = some v) : aCall h (aCons f (aCons k aNil)) ρ = .ok v ρ := by
  simp [aCall, aCons, ha, hb, aNil, valL, E.val, e]
theorem op2_s {g : D → D → Option E} {fa fb : List S → Res E} {ρ ρ1 ρ2 : List S} {x y : D} {v : E} (ha : fa ρ = .ok (.d x) ρ1) (hb : fb ρ1 = .ok (.d y) ρ2) (h : g x y = some v) : aOp2 g fa fb ρ = .ok v ρ2 := by
  simp [aOp2, ha, hb, app2, E.val, h]
def lawRng (N : Int) : List S → Res (List D) := aRng1 (aCons (aCall (gAlt gMax gMaxL) (aCons (aK (.int 1)) (aCons (aCall (gAlt gMin gMinL) (aCons (aK (.int N)) (aCons (aCall gLen (aCons (aVar 0) aNil)) aNil))) aNil))) aNil)
def lawBody (mr : List S → Res E) (M : Int) : List S → Res Fl := sSeq (sSet1 2 (aFn m__law_jar (aCons (aVar 0) (aCons (aVar 1) aNil))))
  (sIf (aNotT (aT (aCall gAll (aCons (aLc [3] (aRng1 (aCons (aK (.int M)) aNil)) (.nm 3) aYes (aFn mr (aCons (aVar 2) aNil))) aNil)))) (sRet (aK (.bl false))) sNx)
theorem rng_law {N : Int} (hN : 1 ≤ N) (hN2 : N ≤ 9) (ns : List Int) (h : ns.length ≤ 63) (r : List S) : ∃ k : Nat, (k : Int) ≤ N ∧ lawRng N (.d (.scr ns) :: r) = .ok (rangeD 0 k) (.d (.scr ns) :: r) := by
  have l : aCall gLen (aCons (aVar 0) aNil) (.d (.scr ns) :: r) = .ok (.d (.int ns.length)) (.d (.scr ns) :: r) := call1 (x := .scr ns) rfl rfl
  have mi : aCall (gAlt gMin gMinL) (aCons (aK (.int N)) (aCons (aCall gLen (aCons (aVar 0) aNil)) aNil)) (.d (.scr ns) :: r) = .ok (.d (.int (if (ns.length : Int) < N then ns.length else N))) (.d (.scr ns) :: r) := call2 (x := .int N) rfl l rfl
  obtain ⟨q, hq⟩ : ∃ q : Int, q = if (ns.length : Int) < N then (ns.length : Int) else N := ⟨_, rfl⟩
  rw [← hq] at mi
  have q4 : q ≤ N := by rw [hq]; split <;> omega
  have q0 : 0 ≤ q := by rw [hq]; split <;> omega
  have ma : aCall (gAlt gMax gMaxL) (aCons (aK (.int 1)) (aCons (aCall (gAlt gMin gMinL) (aCons (aK (.int N)) (aCons (aCall gLen (aCons (aVar 0) aNil)) aNil))) aNil)) (.d (.scr ns) :: r) = .ok (.d (.int (if q > 1 then q else 1))) (.d (.scr ns) :: r) := call2 (x := .int 1) rfl mi rfl
  obtain ⟨v, hr⟩ : ∃ v : Int, v = if q > 1 then q else 1 := ⟨_, rfl⟩
  rw [← hr] at ma
  have r4 : v ≤ N := by rw [hr]; split <;> omega
  have r0 : 0 ≤ v := by rw [hr]; split <;> omega
  refine ⟨v.toNat, by omega, ?_⟩
  unfold lawRng aRng1
  rw [aCons, ma]
  simp only [Res.bind_ok, aNil]
  rw [if_pos ⟨by omega, by omega⟩]
theorem frame_turns {mr : List S → Res E} {M : Nat} {C T : Nat} {o : O} {X a : S} (hM : M ≤ 100) (hr : ∀ T o, JarOk T o → T ≤ 60000 → ∃ o', mr [.own o] = .ok (.d (.bl true)) [.own o'] ∧ JarOk (T + C) o') (h : JarOk T o) (hT : T + C * M ≤ 60000) :
    ∃ o', aT (aCall gAll (aCons (aLc [3] (aRng1 (aCons (aK (.int M)) aNil)) (.nm 3) aYes (aFn mr (aCons (aVar 2) aNil))) aNil)) [X, a, .own o, .no] = .ok true [X, a, .own o', .no] := by
  have hit : aRng1 (aCons (aK (.int M)) aNil) [X, a, .own o, .no] = .ok (rangeD 0 M) [X, a, .own o, .no] := by
    obtain ⟨m, hm⟩ : ∃ m : Int, m = (M : Int) := ⟨_, rfl⟩
    have e : m.toNat = M := by omega
    rw [← hm, ← e]
    have m0 : 0 ≤ m := by omega
    have m1 : m ≤ 100 := by omega
    clear hm e hr h hT hM
    unfold aRng1
    simp only [aCons, aK, Res.bind_ok, aNil]
    rw [if_pos ⟨by omega, by omega⟩]
  obtain ⟨ys, ρ', e, hl, hy, o', r⟩ := aLc_ex (it := aRng1 (aCons (aK (.int M)) aNil)) (t := .nm 3) (f := aFn mr (aCons (aVar 2) aNil)) (vs := [3])
    (I := fun i ρ => ∃ o', ρ = [X, a, .own o', .no] ∧ JarOk (T + C * i) o' ∧ i ≤ M) (R := fun y => y = .bl true) (xs := rangeD 0 M) (ρ := [X, a, .own o, .no]) (ρ1 := [X, a, .own o, .no]) hit rfl (by
      rintro i x ρ hx ⟨o1, rfl, ok, hi'⟩
      obtain ⟨rfl, hi⟩ := rangeD_get hx
      have le : C * i ≤ C * M := Nat.mul_le_mul_left _ hi'
      obtain ⟨o2, e2, ok2⟩ := hr _ _ ok (by omega)
      have q1 : aFn mr (aCons (aVar 2) aNil) [X, a, .own o1, .d (.int (0 + i))] = .ok (.d (.bl true)) [X, a, .own o2, .d (.int (0 + i))] := by
        simp [aFn, aCons, aVar, aNil, appFn, argS, slIx, e2, wb]
      exact ⟨[X, a, .own o1, .d (.int (0 + i))], _, _, _, _, rfl, q1, rfl, rfl, o2, rfl, ok2.mono (by rw [Nat.mul_add]; omega), by omega⟩) ⟨o, rfl, h, Nat.zero_le _⟩ (by rw [rangeD_len]; exact small_line (by omega))
  obtain ⟨rfl, _⟩ := r
  have hall : ys = ys.map (fun _ => D.bl true) := (List.map_id ys).symm.trans (List.map_congr_left (f := id) (g := fun _ => D.bl true) fun y hy' => hy y hy')
  refine ⟨o', aT_of ?_⟩
  have g := bls_all (fun _ : D => true) ys (by simp)
  rw [← hall] at g
  simp [aCall, aCons, e, aNil, valL, E.val, O.toD, g, backS]
theorem law_frame {mr : List S → Res E} {N : Int} {M C : Nat} (hN : 1 ≤ N) (hN2 : N ≤ 9) (hM : M ≤ 100) (hC : C * M ≤ 60000) (hr : ∀ T o, JarOk T o → T ≤ 60000 → ∃ o', mr [.own o] = .ok (.d (.bl true)) [.own o'] ∧ JarOk (T + C) o') (ns : List Int) (h : ns.length ≤ 63) :
    ∃ ρ', runF 1 3 (sSeq (sFor (lawRng N) (.nm 1) (lawBody mr M)) (sRet (aK (.bl true)))) [.d (.scr ns)] = .ok (.d (.bl true)) ρ' := by
  obtain ⟨k, hk, hit⟩ := rng_law hN hN2 ns h [.no, .no, .no]
  obtain ⟨ρ', loop, b, c, rfl⟩ := sFor_ex (t := .nm 1) (body := lawBody mr M) (I := fun i ρ => ∃ b c, ρ = [.d (.scr ns), b, c, .no]) hit (by
      rintro i x ρ hx ⟨b, c, rfl⟩
      obtain ⟨rfl, hi⟩ := rangeD_get hx
      obtain ⟨K, hK⟩ : ∃ K : Int, K = 0 + (i : Int) := ⟨_, rfl⟩
      rw [← hK]
      obtain ⟨o, e1, ok1⟩ := jar_spec (ns := ns) (k := K) (by omega) (by omega) h
      obtain ⟨o4, e4⟩ := frame_turns (X := .d (.scr ns)) (a := .d (.int K)) hM hr ok1 (by omega)
      have q1 : aFn m__law_jar (aCons (aVar 0) (aCons (aVar 1) aNil)) [.d (.scr ns), .d (.int K), c, .no] = .ok (.fr o) [.d (.scr ns), .d (.int K), c, .no] := by
        simp [aFn, aCons, aVar, aNil, appFn, argS, slIx, e1, wb]
      refine ⟨[.d (.scr ns), .d (.int K), c, .no], [.d (.scr ns), .d (.int K), .own o4, .no], rfl, ?_, _, _, rfl⟩
      unfold lawBody
      rw [seq_nx (ρ1 := [.d (.scr ns), .d (.int K), .own o, .no]) (set_o q1 (by simp)), if_f (aNotT_of e4)]
      rfl) ⟨.no, .no, rfl⟩
  refine ⟨_, run_rt (x := .bl true) (ρ1 := [.d (.scr ns), b, c, .no]) rfl ?_⟩
  show sSeq _ _ [.d (.scr ns), .no, .no, .no] = _
  rw [seq_nx loop]
  rfl
theorem cut_take {α : Type} {xs : List α} {j : Int} (h0 : 0 ≤ j) (h1 : j ≤ xs.length) : cutG xs none (some j) = xs.take j.toNat := by
  obtain ⟨n, rfl⟩ := Int.eq_ofNat_of_zero_le h0
  unfold cutG
  rw [HT.sIx_none, HT.sIx_nat]
  simp only [List.drop_zero, Nat.sub_zero, Int.toNat_natCast]
  rw [Nat.min_eq_left (by omega)]
end L2.AL.SH
namespace L2.AL.K73
open PySem PySem.Spec PyProof.Rows L2 L2.AL L2.AL.SH TL
theorem book_of {rs : List Rec} (h : RecsOk rs) (hl : rs.length ≤ 8) : BookOk rs :=
  ⟨by omega, h.row, h.begins, h.times, fun k => Nat.le_trans List.countP_le_length (by rw [List.length_map]; omega)⟩
theorem empty_book : BookOk [] := ⟨by simp, by simp, by simp, by simp, by simp⟩
theorem ne_same {x y : D} {z : Str} (h : x = y) (hz : y.repr? = some z) : gRepr [x] = some (eStr z) ∧ gRepr [y] = some (eStr z) := by
  subst h
  simp [gRepr, hz]
theorem gne_self (z : Str) : gNe (.str z) (.str z) = some (eBl false) := by rw [gne_str]; simp
section
variable {T : Nat} {o : O} {rs : List Rec} {nms : List Str} {s3 s4 s5 s6 : S}
/-- the slots of a turn: the jar, the names (frozen), the book -/
def rw_ (o : O) (nms : List Str) (rs : List Rec) (s3 s4 s5 s6 : S) : List S := [.own o, .d (.lst (nms.map .str)), .d (bookD rs), s3, s4, s5, s6, .no]
def rBody : List S → Res Fl := (sSeq (sSet1 4 (aFn m__law_keyed (aCons (aVar 2) (aCons (aVar 3) aNil))))
  (sSeq (sSet1 5 (aFn m__law_states (aCons (aVar 2) (aCons (aVar 4) aNil))))
  (sSeq (sSet1 6 (aCall gTuple (aCons (aCall gSorted (aCons (aCall (gAlt gList gListN) (aCons (aVar 5) aNil)) aNil)) aNil)))
  (sSeq (sIf (aT (aCall gAny (aCons (aLc [7] (aIter (aVar 5)) (.nm 7) aYes (aFn m__law_is_full (aCons (aVar 2) (aCons (aVar 4) (aCons (aOp2 gIx (aVar 7) (aK (.int 0))) aNil))))) aNil))) (sSet1 6 (aK .non)) sNx)
  (sIf (aOrT (aT (aOp2 gNe (aCall gRepr (aCons (aFn m_closed (aCons (aVar 2) (aCons (aVar 3) aNil))) aNil)) (aCall gRepr (aCons (aVar 6) aNil)))) (aT (aOp2 gNe (aCall gRepr (aCons (aFnP [1, 0] m_closed (aCons (aVar 3) (aCons (aVar 2) aNil))) aNil)) (aCall gRepr (aCons (aVar 6) aNil))))) (sRet (aK (.bl false))) sNx)))))
theorem right_turn {k : Str} (h : BookOk rs) (hl : rs.length ≤ 8) (hk : nameB k = true) : ∃ t4 t5 t6, rBody (rw_ o nms rs (.d (.str k)) s4 s5 s6) = .ok .nx (rw_ o nms rs (.d (.str k)) t4 t5 t6) := by
  have hN := numsOk (k := k) hl
  obtain ⟨f, fnd, fc, ec⟩ := closed_spec h hl hk
  obtain ⟨fp, e5, nd, hc⟩ := states_spec (sN := .own (.lst ((numsT rs k).map nI))) hN h.recs (.inl rfl)
  obtain ⟨g, hg⟩ : ∃ g, g = fp.map (·.1) := ⟨_, rfl⟩
  have gl : g.length ≤ 512 := by rw [hg]; exact come_few hN nd fun x hx => (hc x).mp hx
  have du : dueT rs (numsT rs k) f = dueT rs (numsT rs k) g := due_same fnd (by rw [hg]; exact nd) fun x => by rw [fc, hg, hc]
  obtain ⟨z, hz⟩ := due_repr (f := g) hN (by omega) (by rw [hg]; exact nd) fun x hx => (hc x).mp (by rw [← hg]; exact hx)
  have kk : (fp.map kvD).map (·.1) = g.map sD := by rw [hg]; exact keys_kv fp
  have gne : g ≠ [] := fun z => by
    have : BEG ∈ g := by rw [hg]; exact (hc BEG).mpr .base
    rw [z] at this; simp at this
  have st1 : sSet1 4 (aFn m__law_keyed (aCons (aVar 2) (aCons (aVar 3) aNil))) (rw_ o nms rs (.d (.str k)) s4 s5 s6) = .ok .nx (rw_ o nms rs (.d (.str k)) (.own (.lst ((numsT rs k).map nI))) s5 s6) := by
    have q := keyed_spec (rs := rs) (k := k) (by omega)
    simp [runF, outF, sSeq, sIf, sRet, sRetN, sSet1, sSet, sTg, sExpr, sNx, aVar, aK, aCons, aNil, aOp2, app2, aCall, valL, E.val, aT, aNotT, aAndT, aOrT, aAndV, aOrV, aNotV, aIf, aChain, aTup, aLst, keepL, keep1, freeze, toSL, toS, setL, aFn, appFn, argS, slIx, wb, aIter, D.items?, aMeth, D.tyn, aSlice, aPart, aPartN, gIsi, D.isi, gIs, gIsn, D.is?, D.seq?, aStar, O.toD, eBl, eInt, eStr, tset, tsetL, wipeS, backS, nOwn, D.imm, rw_, q]
  have st2 : sSet1 5 (aFn m__law_states (aCons (aVar 2) (aCons (aVar 4) aNil))) (rw_ o nms rs (.d (.str k)) (.own (.lst ((numsT rs k).map nI))) s5 s6) = .ok .nx (rw_ o nms rs (.d (.str k)) (.d (.lst ((numsT rs k).map nI))) (.own (.dd (fp.map kvD))) s6) := by
    simp [runF, outF, sSeq, sIf, sRet, sRetN, sSet1, sSet, sTg, sExpr, sNx, aVar, aK, aCons, aNil, aOp2, app2, aCall, valL, E.val, aT, aNotT, aAndT, aOrT, aAndV, aOrV, aNotV, aIf, aChain, aTup, aLst, keepL, keep1, freeze, toSL, toS, setL, aFn, appFn, argS, slIx, wb, aIter, D.items?, aMeth, D.tyn, aSlice, aPart, aPartN, gIsi, D.isi, gIs, gIsn, D.is?, D.seq?, aStar, O.toD, eBl, eInt, eStr, tset, tsetL, wipeS, backS, nOwn, D.imm, rw_, e5]
  have so := states_ok g (by rw [hg]; exact come_small hN fun x hx => (hc x).mp hx)
  have srt : gSorted [.lst (g.map sD)] = some (.fr (.lst (sortD (g.map sD)))) := by
    have ni : D.ints? (g.map sD) = none := by
      cases g with
      | nil => exact absurd rfl gne
      | cons x r => rfl
    simp only [gSorted, ni, if_pos so]
  have st3 : sSet1 6 (aCall gTuple (aCons (aCall gSorted (aCons (aCall (gAlt gList gListN) (aCons (aVar 5) aNil)) aNil)) aNil)) (rw_ o nms rs (.d (.str k)) (.d (.lst ((numsT rs k).map nI))) (.own (.dd (fp.map kvD))) s6) =
      .ok .nx (rw_ o nms rs (.d (.str k)) (.d (.lst ((numsT rs k).map nI))) (.own (.dd (fp.map kvD))) (.d (.tup (sortD (g.map sD))))) := by
    have ga : gAlt gList gListN [.dd (fp.map kvD)] = some (.fr (.lst (g.map sD))) := by
      simp only [gAlt, gList, gListN, kk]
    have q : aCall gTuple (aCons (aCall gSorted (aCons (aCall (gAlt gList gListN) (aCons (aVar 5) aNil)) aNil)) aNil) (rw_ o nms rs (.d (.str k)) (.d (.lst ((numsT rs k).map nI))) (.own (.dd (fp.map kvD))) s6) =
        .ok (.d (.tup (sortD (g.map sD)))) (rw_ o nms rs (.d (.str k)) (.d (.lst ((numsT rs k).map nI))) (.own (.dd (fp.map kvD))) s6) := by
      simp only [aCall, aCons, aVar, rw_, List.getElem?_cons_succ, List.getElem?_cons_zero, Res.bind_ok, aNil, valL, E.val, Option.bind_some, O.toD, ga, srt, gTuple]
    rw [set_d q (by simp [rw_])]
    rfl
  have lc := aLc_all (it := aIter (aVar 5)) (t := .nm 7) (vs := [7]) (f := aFn m__law_is_full (aCons (aVar 2) (aCons (aVar 4) (aCons (aOp2 gIx (aVar 7) (aK (.int 0))) aNil)))) sD (fun s => .bl (fullT rs (numsT rs k) s.1)) g (ρ := rw_ o nms rs (.d (.str k)) (.d (.lst ((numsT rs k).map nI))) (.own (.dd (fp.map kvD))) (.d (.tup (sortD (g.map sD)))))
    (ρ1 := rw_ o nms rs (.d (.str k)) (.d (.lst ((numsT rs k).map nI))) (.d (.dd (fp.map kvD))) (.d (.tup (sortD (g.map sD))))) (by rw [← kk]; simp [runF, outF, sSeq, sIf, sRet, sRetN, sSet1, sSet, sTg, sExpr, sNx, aVar, aK, aCons, aNil, aOp2, app2, aCall, valL, E.val, aT, aNotT, aAndT, aOrT, aAndV, aOrV, aNotV, aIf, aChain, aTup, aLst, keepL, keep1, freeze, toSL, toS, setL, aFn, appFn, argS, slIx, wb, aIter, D.items?, aMeth, D.tyn, aSlice, aPart, aPartN, gIsi, D.isi, gIs, gIsn, D.is?, D.seq?, aStar, O.toD, eBl, eInt, eStr, tset, tsetL, wipeS, backS, nOwn, D.imm, rw_]) rfl (fun s hs => by
      have q := full_spec (done := s.1) hN (.inr rfl)
      have i0 : gIx (sD s) (.int 0) = some (.d (.tup (s.1.map nI))) := rfl
      exact ⟨_, .d (.bl (fullT rs (numsT rs k) s.1)), rfl, by simp [runF, outF, sSeq, sIf, sRet, sRetN, sSet1, sSet, sTg, sExpr, sNx, aVar, aK, aCons, aNil, aOp2, app2, aCall, valL, E.val, aT, aNotT, aAndT, aOrT, aAndV, aOrV, aNotV, aIf, aChain, aTup, aLst, keepL, keep1, freeze, toSL, toS, setL, aFn, appFn, argS, slIx, wb, aIter, D.items?, aMeth, D.tyn, aSlice, aPart, aPartN, gIsi, D.isi, gIs, gIsn, D.is?, D.seq?, aStar, O.toD, eBl, eInt, eStr, tset, tsetL, wipeS, backS, nOwn, D.imm, rw_, i0, q], rfl, rfl⟩) (small_line (by omega))
  have cond : aT (aCall gAny (aCons (aLc [7] (aIter (aVar 5)) (.nm 7) aYes (aFn m__law_is_full (aCons (aVar 2) (aCons (aVar 4) (aCons (aOp2 gIx (aVar 7) (aK (.int 0))) aNil))))) aNil)) (rw_ o nms rs (.d (.str k)) (.d (.lst ((numsT rs k).map nI))) (.own (.dd (fp.map kvD))) (.d (.tup (sortD (g.map sD))))) =
      .ok (g.any fun s => fullT rs (numsT rs k) s.1) (rw_ o nms rs (.d (.str k)) (.d (.lst ((numsT rs k).map nI))) (.d (.dd (fp.map kvD))) (.d (.tup (sortD (g.map sD))))) := by
    have q := any_bls (fun s : Stt => fullT rs (numsT rs k) s.1) g
    refine aT_of ?_
    rw [aCall, aCons, lc]
    simp only [Res.bind_ok, aNil, valL, E.val, O.toD, Option.bind_some, q]
    rfl
  have st4 : sIf (aT (aCall gAny (aCons (aLc [7] (aIter (aVar 5)) (.nm 7) aYes (aFn m__law_is_full (aCons (aVar 2) (aCons (aVar 4) (aCons (aOp2 gIx (aVar 7) (aK (.int 0))) aNil))))) aNil))) (sSet1 6 (aK .non)) sNx (rw_ o nms rs (.d (.str k)) (.d (.lst ((numsT rs k).map nI))) (.own (.dd (fp.map kvD))) (.d (.tup (sortD (g.map sD))))) =
      .ok .nx (rw_ o nms rs (.d (.str k)) (.d (.lst ((numsT rs k).map nI))) (.d (.dd (fp.map kvD))) (.d (dueT rs (numsT rs k) g))) := by
    unfold dueT
    cases ha : (g.any fun s => fullT rs (numsT rs k) s.1) with
    | true =>
      rw [ha] at cond
      rw [if_t cond, if_pos rfl]
      simp [runF, outF, sSeq, sIf, sRet, sRetN, sSet1, sSet, sTg, sExpr, sNx, aVar, aK, aCons, aNil, aOp2, app2, aCall, valL, E.val, aT, aNotT, aAndT, aOrT, aAndV, aOrV, aNotV, aIf, aChain, aTup, aLst, keepL, keep1, freeze, toSL, toS, setL, aFn, appFn, argS, slIx, wb, aIter, D.items?, aMeth, D.tyn, aSlice, aPart, aPartN, gIsi, D.isi, gIs, gIsn, D.is?, D.seq?, aStar, O.toD, eBl, eInt, eStr, tset, tsetL, wipeS, backS, nOwn, D.imm, rw_]
    | false =>
      rw [ha] at cond
      rw [if_neg (by simp)]
      exact (if_f cond).trans rfl
  obtain ⟨r1, r2⟩ := ne_same du hz
  have f1 : aFn m_closed (aCons (aVar 2) (aCons (aVar 3) aNil)) (rw_ o nms rs (.d (.str k)) (.d (.lst ((numsT rs k).map nI))) (.d (.dd (fp.map kvD))) (.d (dueT rs (numsT rs k) g))) = .ok (.d (dueT rs (numsT rs k) f)) (rw_ o nms rs (.d (.str k)) (.d (.lst ((numsT rs k).map nI))) (.d (.dd (fp.map kvD))) (.d (dueT rs (numsT rs k) g))) := by
    simp [runF, outF, sSeq, sIf, sRet, sRetN, sSet1, sSet, sTg, sExpr, sNx, aVar, aK, aCons, aNil, aOp2, app2, aCall, valL, E.val, aT, aNotT, aAndT, aOrT, aAndV, aOrV, aNotV, aIf, aChain, aTup, aLst, keepL, keep1, freeze, toSL, toS, setL, aFn, appFn, argS, slIx, wb, aIter, D.items?, aMeth, D.tyn, aSlice, aPart, aPartN, gIsi, D.isi, gIs, gIsn, D.is?, D.seq?, aStar, O.toD, eBl, eInt, eStr, tset, tsetL, wipeS, backS, nOwn, D.imm, rw_, ec]
  have f2 : aFnP [1, 0] m_closed (aCons (aVar 3) (aCons (aVar 2) aNil)) (rw_ o nms rs (.d (.str k)) (.d (.lst ((numsT rs k).map nI))) (.d (.dd (fp.map kvD))) (.d (dueT rs (numsT rs k) g))) = .ok (.d (dueT rs (numsT rs k) f)) (rw_ o nms rs (.d (.str k)) (.d (.lst ((numsT rs k).map nI))) (.d (.dd (fp.map kvD))) (.d (dueT rs (numsT rs k) g))) := by
    simp [runF, outF, sSeq, sIf, sRet, sRetN, sSet1, sSet, sTg, sExpr, sNx, aVar, aK, aCons, aNil, aOp2, app2, aCall, valL, E.val, aT, aNotT, aAndT, aOrT, aAndV, aOrV, aNotV, aIf, aChain, aTup, aLst, keepL, keep1, freeze, toSL, toS, setL, aFn, appFn, argS, slIx, wb, aIter, D.items?, aMeth, D.tyn, aSlice, aPart, aPartN, gIsi, D.isi, gIs, gIsn, D.is?, D.seq?, aStar, O.toD, eBl, eInt, eStr, tset, tsetL, wipeS, backS, nOwn, D.imm, rw_, aFnP, permL, ec]
  have q6 : aCall gRepr (aCons (aVar 6) aNil) (rw_ o nms rs (.d (.str k)) (.d (.lst ((numsT rs k).map nI))) (.d (.dd (fp.map kvD))) (.d (dueT rs (numsT rs k) g))) = .ok (.d (.str z)) (rw_ o nms rs (.d (.str k)) (.d (.lst ((numsT rs k).map nI))) (.d (.dd (fp.map kvD))) (.d (dueT rs (numsT rs k) g))) := by
    simp only [aCall, aCons, aVar, rw_, List.getElem?_cons_succ, List.getElem?_cons_zero, Res.bind_ok, aNil, valL, E.val, Option.bind_some, r2, eStr]
  have ne1 : ∀ e : List S → Res E, e (rw_ o nms rs (.d (.str k)) (.d (.lst ((numsT rs k).map nI))) (.d (.dd (fp.map kvD))) (.d (dueT rs (numsT rs k) g))) = .ok (.d (dueT rs (numsT rs k) f)) (rw_ o nms rs (.d (.str k)) (.d (.lst ((numsT rs k).map nI))) (.d (.dd (fp.map kvD))) (.d (dueT rs (numsT rs k) g))) →
      aT (aOp2 gNe (aCall gRepr (aCons e aNil)) (aCall gRepr (aCons (aVar 6) aNil))) (rw_ o nms rs (.d (.str k)) (.d (.lst ((numsT rs k).map nI))) (.d (.dd (fp.map kvD))) (.d (dueT rs (numsT rs k) g))) = .ok false (rw_ o nms rs (.d (.str k)) (.d (.lst ((numsT rs k).map nI))) (.d (.dd (fp.map kvD))) (.d (dueT rs (numsT rs k) g))) := fun e he => by
    have q : aCall gRepr (aCons e aNil) (rw_ o nms rs (.d (.str k)) (.d (.lst ((numsT rs k).map nI))) (.d (.dd (fp.map kvD))) (.d (dueT rs (numsT rs k) g))) = .ok (.d (.str z)) (rw_ o nms rs (.d (.str k)) (.d (.lst ((numsT rs k).map nI))) (.d (.dd (fp.map kvD))) (.d (dueT rs (numsT rs k) g))) := by
      simp only [aCall, aCons, he, Res.bind_ok, aNil, valL, E.val, Option.bind_some, r1, eStr]
    exact aT_of (op2_d q q6 (gne_self z))
  refine ⟨.d (.lst ((numsT rs k).map nI)), .d (.dd (fp.map kvD)), .d (dueT rs (numsT rs k) g), ?_⟩
  unfold rBody
  rw [seq_nx st1, seq_nx st2, seq_nx st3, seq_nx st4, if_f (or_f (ne1 _ f1) (ne1 _ f2))]
  rfl
theorem right_loop (h : BookOk rs) (hl : rs.length ≤ 8) (hn : ∀ z ∈ nms, nameB z = true) {ρ : List S} {it : List S → Res (List D)} (hit : it ρ = .ok (nms.map .str) (rw_ o nms rs .no .no .no .no)) : ∃ t3 t4 t5 t6, sFor it (.nm 3) rBody ρ = .ok .nx (rw_ o nms rs t3 t4 t5 t6) := by
  obtain ⟨ρ', e, t3, t4, t5, t6, rfl⟩ := sFor_ex (t := .nm 3) (body := rBody) (I := fun i ρ => ∃ t3 t4 t5 t6, ρ = rw_ o nms rs t3 t4 t5 t6) hit (by
    rintro i x ρ hx ⟨t3, t4, t5, t6, rfl⟩
    rw [List.getElem?_map] at hx
    obtain ⟨k, hk, rfl⟩ := Option.map_eq_some_iff.mp hx
    obtain ⟨u4, u5, u6, e⟩ := right_turn (o := o) (nms := nms) (s4 := t4) (s5 := t5) (s6 := t6) h hl (hn k (List.mem_of_getElem? hk))
    exact ⟨_, _, rfl, e, _, _, _, _, rfl⟩) ⟨_, _, _, _, rfl⟩
  exact ⟨t3, t4, t5, t6, e⟩
theorem closed_empty {k : Str} (hk : nameB k = true) : m_closed [.d (.tup []), .d (.str k)] = .ok (.d .non) [.d (.tup []), .d (.str k)] := by
  obtain ⟨f, fnd, fc, ec⟩ := closed_spec (rs := []) (k := k) empty_book (by simp) hk
  have hb : BEG ∈ f := (fc BEG).mpr .base
  have du : dueT [] (numsT [] k) f = .non := by
    unfold dueT
    rw [if_pos]
    exact List.any_eq_true.mpr ⟨BEG, hb, rfl⟩
  rw [du] at ec
  exact ec
theorem right_spec (h : JarOk T o) (hT : T ≤ 60000) : ∃ o', m__law_right [.own o] = .ok (.d (.bl true)) [.own o'] ∧ JarOk (T + 1800) o' := by
  obtain ⟨nms, o1, e1, nl, hn, ok1⟩ := names_law (n := 3) h (by omega) (by decide) (by decide)
  obtain ⟨r, o2, e2, r0, r1, ok2⟩ := take_spec (m := 2) ok1 (by omega) (by decide) (by decide)
  obtain ⟨q, o3, e3, q0, q1, ok3⟩ := take_spec (m := 8) ok2 (by omega) (by decide) (by decide)
  have nl : nms.length = 3 := nl
  obtain ⟨ks, hks⟩ : ∃ ks, ks = nms.take (1 + r).toNat := ⟨_, rfl⟩
  have ksl : ks.length = (1 + r).toNat := by rw [hks, List.length_take]; omega
  obtain ⟨rs, o4, e4, R, rne, rl, rk, ok4⟩ := wild_spec (s1 := .own (.lst (ks.map .str))) (ks := ks) (many := 1 + q) ok3 (by omega) (by simp [keysS]) (fun z => by rw [z] at ksl; simp at ksl; omega) (by omega) (fun z hz => hn z (by rw [hks] at hz; exact List.mem_of_mem_take hz)) (by omega) (by omega)
  have hB := book_of R (by omega)
  have st1 : sSet1 1 (aFn m__law_names (aCons (aVar 0) (aCons (aK (.int 3)) aNil))) [.own o, .no, .no, .no, .no, .no, .no, .no] = .ok .nx [.own o1, .own (.lst (nms.map .str)), .no, .no, .no, .no, .no, .no] := by
    simp [runF, outF, sSeq, sIf, sRet, sRetN, sSet1, sSet, sTg, sExpr, sNx, aVar, aK, aCons, aNil, aOp2, app2, aCall, valL, E.val, aT, aNotT, aAndT, aOrT, aAndV, aOrV, aNotV, aIf, aChain, aTup, aLst, keepL, keep1, freeze, toSL, toS, setL, aFn, appFn, argS, slIx, wb, aIter, D.items?, aMeth, D.tyn, aSlice, aPart, aPartN, gIsi, D.isi, gIs, gIsn, D.is?, D.seq?, aStar, O.toD, eBl, eInt, eStr, tset, tsetL, wipeS, backS, nOwn, D.imm, e1]
  have st2 : sSet1 2 (aFn m__law_wild (aCons (aVar 0) (aCons (aSlice (aVar 1) aPartN (aPart (aOp2 gAdd (aK (.int 1)) (aFn m__law_take (aCons (aVar 0) (aCons (aK (.int 2)) aNil)))))) (aCons (aOp2 gAdd (aK (.int 1)) (aFn m__law_take (aCons (aVar 0) (aCons (aK (.int 8)) aNil)))) aNil)))) [.own o1, .own (.lst (nms.map .str)), .no, .no, .no, .no, .no, .no] =
      .ok .nx [.own o4, .own (.lst (nms.map .str)), .d (bookD rs), .no, .no, .no, .no, .no] := by
    have c : cutG (nms.map D.str) none (some (1 + r)) = ks.map .str := by
      rw [cut_take (by omega) (by rw [List.length_map]; omega), hks, List.map_take]
    have sl : aSlice (aVar 1) aPartN (aPart (aOp2 gAdd (aK (.int 1)) (aFn m__law_take (aCons (aVar 0) (aCons (aK (.int 2)) aNil))))) [.own o1, .own (.lst (nms.map .str)), .no, .no, .no, .no, .no, .no] = .ok (.fr (.lst (ks.map .str))) [.own o2, .own (.lst (nms.map .str)), .no, .no, .no, .no, .no, .no] := by
      simp [runF, outF, sSeq, sIf, sRet, sRetN, sSet1, sSet, sTg, sExpr, sNx, aVar, aK, aCons, aNil, aOp2, app2, aCall, valL, E.val, aT, aNotT, aAndT, aOrT, aAndV, aOrV, aNotV, aIf, aChain, aTup, aLst, keepL, keep1, freeze, toSL, toS, setL, aFn, appFn, argS, slIx, wb, aIter, D.items?, aMeth, D.tyn, aSlice, aPart, aPartN, gIsi, D.isi, gIs, gIsn, D.is?, D.seq?, aStar, O.toD, eBl, eInt, eStr, tset, tsetL, wipeS, backS, nOwn, D.imm, e2, gAdd, gSl, c]
    have sm : aOp2 gAdd (aK (.int 1)) (aFn m__law_take (aCons (aVar 0) (aCons (aK (.int 8)) aNil))) [.own o2, .own (.lst (nms.map .str)), .no, .no, .no, .no, .no, .no] = .ok (.d (.int (1 + q))) [.own o3, .own (.lst (nms.map .str)), .no, .no, .no, .no, .no, .no] := by
      simp [runF, outF, sSeq, sIf, sRet, sRetN, sSet1, sSet, sTg, sExpr, sNx, aVar, aK, aCons, aNil, aOp2, app2, aCall, valL, E.val, aT, aNotT, aAndT, aOrT, aAndV, aOrV, aNotV, aIf, aChain, aTup, aLst, keepL, keep1, freeze, toSL, toS, setL, aFn, appFn, argS, slIx, wb, aIter, D.items?, aMeth, D.tyn, aSlice, aPart, aPartN, gIsi, D.isi, gIs, gIsn, D.is?, D.seq?, aStar, O.toD, eBl, eInt, eStr, tset, tsetL, wipeS, backS, nOwn, D.imm, e3, gAdd]
    have f : aFn m__law_wild (aCons (aVar 0) (aCons (aSlice (aVar 1) aPartN (aPart (aOp2 gAdd (aK (.int 1)) (aFn m__law_take (aCons (aVar 0) (aCons (aK (.int 2)) aNil)))))) (aCons (aOp2 gAdd (aK (.int 1)) (aFn m__law_take (aCons (aVar 0) (aCons (aK (.int 8)) aNil)))) aNil))) [.own o1, .own (.lst (nms.map .str)), .no, .no, .no, .no, .no, .no] = .ok (.d (bookD rs)) [.own o4, .own (.lst (nms.map .str)), .no, .no, .no, .no, .no, .no] := by
      have v0 : aVar 0 [.own o1, .own (.lst (nms.map .str)), .no, .no, .no, .no, .no, .no] = .ok (.sl 0) [.own o1, .own (.lst (nms.map .str)), .no, .no, .no, .no, .no, .no] := rfl
      rw [aFn, aCons, v0]
      simp only [Res.bind_ok, aCons, sl, sm, aNil]
      simp [appFn, argS, slIx, e4, wb, bookD]
    rw [set_d f (by simp)]
    rfl
  have it : aIter (aVar 1) [.own o4, .own (.lst (nms.map .str)), .d (bookD rs), .no, .no, .no, .no, .no] = .ok (nms.map .str) (rw_ o4 nms rs .no .no .no .no) := by
    simp [runF, outF, sSeq, sIf, sRet, sRetN, sSet1, sSet, sTg, sExpr, sNx, aVar, aK, aCons, aNil, aOp2, app2, aCall, valL, E.val, aT, aNotT, aAndT, aOrT, aAndV, aOrV, aNotV, aIf, aChain, aTup, aLst, keepL, keep1, freeze, toSL, toS, setL, aFn, appFn, argS, slIx, wb, aIter, D.items?, aMeth, D.tyn, aSlice, aPart, aPartN, gIsi, D.isi, gIs, gIsn, D.is?, D.seq?, aStar, O.toD, eBl, eInt, eStr, tset, tsetL, wipeS, backS, nOwn, D.imm, rw_]
  obtain ⟨t3, t4, t5, t6, st3⟩ := right_loop hB (by omega) hn it
  obtain ⟨nm, hnm⟩ : ∃ nm, nms[0]? = some nm := ⟨nms[0], List.getElem?_eq_getElem (by omega)⟩
  have nmB := hn nm (List.mem_of_getElem? hnm)
  refine ⟨o4, ?_, ok4.mono (by omega)⟩
  refine (run_rt (ρ1 := rw_ o4 nms rs t3 t4 t5 t6) rfl ?_).trans rfl
  unfold b__law_right
  show sSeq _ (sSeq _ (sSeq (sFor _ (.nm 3) rBody) _)) [.own o, .no, .no, .no, .no, .no, .no, .no] = _
  rw [seq_nx st1, seq_nx st2, seq_nx st3]
  refine ret_of ?_
  have q := closed_empty nmB
  have i0 : gIx (.lst (nms.map .str)) (.int 0) = some (.d (.str nm)) := by
    have := ix_nat (n := 0) (xs := nms.map D.str) (x := .str nm) (by rw [List.getElem?_map, hnm]; rfl)
    simpa using this
  simp [runF, outF, sSeq, sIf, sRet, sRetN, sSet1, sSet, sTg, sExpr, sNx, aVar, aK, aCons, aNil, aOp2, app2, aCall, valL, E.val, aT, aNotT, aAndT, aOrT, aAndV, aOrV, aNotV, aIf, aChain, aTup, aLst, keepL, keep1, freeze, toSL, toS, setL, aFn, appFn, argS, slIx, wb, aIter, D.items?, aMeth, D.tyn, aSlice, aPart, aPartN, gIsi, D.isi, gIs, gIsn, D.is?, D.seq?, aStar, O.toD, eBl, eInt, eStr, tset, tsetL, wipeS, backS, nOwn, D.imm, rw_, i0, q]
end
theorem math (ns : List Int) (h : ns.length ≤ 63) : ∃ ρ', m_law [.d (.scr ns)] = .ok (.d (.bl true)) ρ' :=
  law_frame (mr := m__law_right) (N := 3) (M := 3) (C := 1800) (by decide) (by decide) (by decide) (by decide) (fun T o ok hT => right_spec ok hT) ns h
end L2.AL.K73
namespace L2.AL.K73
open PySem PySem.Spec PyProof.Rows L2 L2.AL L2.AL.SH
theorem walk {l : PySem.W.OpenLaw} {q : Program} {loose : List Str} {XP : (Str → Option Value) → Heap → Prop} {YP : World → Heap → Prop} {d : DefRec} {K : Params → PySem.W.Frag} (hn : l.most = some 63) (hdf : d.params.defaults = [])
    (hY : ∀ (w : World) (h : Heap), YP w h → (K w.params).In h)
    (F : ∀ (w : World) (mg : Str → Option Value) (fa : Addr) (h : Heap), (K w.params).In h → h.Ns mainGlobals mg → mg d.name = some (.ref fa) →
      ∃ fd : FuncData, (∀ (s : Shared) (u : Value), BindsTo s fd ⟨[u], []⟩ [("_law_script", u)]) ∧ ∀ base : Heap, (K w.params).In base → base.Ns mainGlobals mg → FnG l.prog w (K w.params) mg base CX0 7 fa fd ["_law_script"] m_law) :
    PySem.W.WalkO q loose XP YP l.row.toRowW d [] (fun f vs => PySem.call f vs) :=
  walk_G hn (by decide) hdf ⟨rfl, by decide, by decide⟩ hY F math
end L2.AL.K73
open PySem PySem.W PyProof.Rows
set_option maxRecDepth 100000 in
set_option maxHeartbeats 0 in
theorem PySem.Challenge.cw_unlikekeys_k73_rows_that_can_be_come_to_holds : PySem.Challenge.rw_unlikekeys_k73_rows_that_can_be_come_to.Holds := by
  w_on; o_law; k_head; (case hw => w_witness2)
  k_fill
  refine L2.AL.K73.walk (l := PySem.Challenge.rw_unlikekeys_k73_rows_that_can_be_come_to) rfl rfl (fun w h Y => PySem.W.kIn_of Y) ?F
  case F =>
    intro w mg fa h KX G hmg
    refine' L2.AL.K73.all_mk KX G hmg ?n_AGAIN ?l_ANSWERS_0 ?l_ANSWERS_1 ?l_ANSWERS_2 ?l_ANSWERS ?lit_ANSWERS ?low_ANSWERS ?n_ANSWERS ?l_BEGIN_0 ?l_BEGIN ?n_BEGIN ?n_LETTERS ?n_LONGEST_NAME ?n_LOOK ?n_MOST_OF_A_KEY ?n_MOST_RECORDS ?n_RECORD ?z_abs ?z_all ?z_any ?z_bool ?z_enumerate ?z_int ?z_isinstance ?z_len ?z_list ?z_max ?z_min ?z_range ?z_repr ?z_set ?z_sorted ?z_str ?z_tuple ?g__law_jar ?q__law_jar ?r__law_jar ?s__law_jar ?g__law_take ?q__law_take ?r__law_take ?s__law_take ?g__law_of ?q__law_of ?r__law_of ?s__law_of ?g__law_names ?q__law_names ?r__law_names ?s__law_names ?g__law_told ?q__law_told ?r__law_told ?s__law_told ?g__law_answer ?q__law_answer ?r__law_answer ?s__law_answer ?g__law_behind ?q__law_behind ?r__law_behind ?s__law_behind ?g__law_story ?q__law_story ?r__law_story ?s__law_story ?g__law_answers ?q__law_answers ?r__law_answers ?s__law_answers ?g__law_wild ?q__law_wild ?r__law_wild ?s__law_wild ?g__law_keyed ?q__law_keyed ?r__law_keyed ?s__law_keyed ?g__law_counts ?q__law_counts ?r__law_counts ?s__law_counts ?g__law_may ?q__law_may ?r__law_may ?s__law_may ?g__law_next ?q__law_next ?r__law_next ?s__law_next ?g__law_states ?q__law_states ?r__law_states ?s__law_states ?g__law_is_full ?q__law_is_full ?r__law_is_full ?s__law_is_full ?g_is_name ?q_is_name ?r_is_name ?s_is_name ?g_is_integer ?q_is_integer ?r_is_integer ?s_is_integer ?g_is_record ?q_is_record ?r_is_record ?s_is_record ?g_is_history ?q_is_history ?r_is_history ?s_is_history ?g_check_history ?q_check_history ?r_check_history ?s_check_history ?g_check_key ?q_check_key ?r_check_key ?s_check_key ?g_numbers_of ?q_numbers_of ?r_numbers_of ?s_numbers_of ?g_has_counted ?q_has_counted ?r_has_counted ?s_has_counted ?g_may_stand ?q_may_stand ?r_may_stand ?s_may_stand ?g_row_behind ?q_row_behind ?r_row_behind ?s_row_behind ?g_led_to ?q_led_to ?r_led_to ?s_led_to ?g_ways_from ?q_ways_from ?r_ways_from ?s_ways_from ?g_is_whole ?q_is_whole ?r_is_whole ?s_is_whole ?g_closed ?q_closed ?r_closed ?s_closed ?g__law_right ?q__law_right ?r__law_right ?s__law_right ?g_law ?q_law ?r_law ?s_law
    (case n_AGAIN => k_is)
    (case n_ANSWERS => k_is)
    (case n_BEGIN => k_is)
    (case n_LETTERS => k_is)
    (case n_LONGEST_NAME => k_is)
    (case n_LOOK => k_is)
    (case n_MOST_OF_A_KEY => k_is)
    (case n_MOST_RECORDS => k_is)
    (case n_RECORD => k_is)
    (case z_abs => k_is)
    (case z_all => k_is)
    (case z_any => k_is)
    (case z_bool => k_is)
    (case z_enumerate => k_is)
    (case z_int => k_is)
    (case z_isinstance => k_is)
    (case z_len => k_is)
    (case z_list => k_is)
    (case z_max => k_is)
    (case z_min => k_is)
    (case z_range => k_is)
    (case z_repr => k_is)
    (case z_set => k_is)
    (case z_sorted => k_is)
    (case z_str => k_is)
    (case z_tuple => k_is)
    (case g__law_jar => k_is)
    (case g__law_take => k_is)
    (case g__law_of => k_is)
    (case g__law_names => k_is)
    (case g__law_told => k_is)
    (case g__law_answer => k_is)
    (case g__law_behind => k_is)
    (case g__law_story => k_is)
    (case g__law_answers => k_is)
    (case g__law_wild => k_is)
    (case g__law_keyed => k_is)
    (case g__law_counts => k_is)
    (case g__law_may => k_is)
    (case g__law_next => k_is)
    (case g__law_states => k_is)
    (case g__law_is_full => k_is)
    (case g_is_name => k_is)
    (case g_is_integer => k_is)
    (case g_is_record => k_is)
    (case g_is_history => k_is)
    (case g_check_history => k_is)
    (case g_check_key => k_is)
    (case g_numbers_of => k_is)
    (case g_has_counted => k_is)
    (case g_may_stand => k_is)
    (case g_row_behind => k_is)
    (case g_led_to => k_is)
    (case g_ways_from => k_is)
    (case g_is_whole => k_is)
    (case g_closed => k_is)
    (case g__law_right => k_is)
    (case g_law => k_is)
    (case l_ANSWERS => k_is)
    (case l_BEGIN => k_is)
    (case l_ANSWERS_0 => k_is)
    (case l_ANSWERS_1 => k_is)
    (case l_ANSWERS_2 => k_is)
    (case l_BEGIN_0 => k_is)
    (case q__law_jar => k_is)
    (case q__law_take => k_is)
    (case q__law_of => k_is)
    (case q__law_names => k_is)
    (case q__law_told => k_is)
    (case q__law_answer => k_is)
    (case q__law_behind => k_is)
    (case q__law_story => k_is)
    (case q__law_answers => k_is)
    (case q__law_wild => k_is)
    (case q__law_keyed => k_is)
    (case q__law_counts => k_is)
    (case q__law_may => k_is)
    (case q__law_next => k_is)
    (case q__law_states => k_is)
    (case q__law_is_full => k_is)
    (case q_is_name => k_is)
    (case q_is_integer => k_is)
    (case q_is_record => k_is)
    (case q_is_history => k_is)
    (case q_check_history => k_is)
    (case q_check_key => k_is)
    (case q_numbers_of => k_is)
    (case q_has_counted => k_is)
    (case q_may_stand => k_is)
    (case q_row_behind => k_is)
    (case q_led_to => k_is)
    (case q_ways_from => k_is)
    (case q_is_whole => k_is)
    (case q_closed => k_is)
    (case q__law_right => k_is)
    (case q_law => k_is)
    (case lit_ANSWERS => exact ⟨⟨_, _, rfl, rfl⟩, ⟨_, _, rfl, rfl⟩, ⟨_, _, rfl, rfl⟩, trivial⟩)
    (case low_ANSWERS => decide)
    (case r__law_jar => k_is)
    (case s__law_jar => k_is)
    (case r__law_take => k_is)
    (case s__law_take => k_is)
    (case r__law_of => k_is)
    (case s__law_of => k_is)
    (case r__law_names => k_is)
    (case s__law_names => k_is)
    (case r__law_told => k_is)
    (case s__law_told => k_is)
    (case r__law_answer => k_is)
    (case s__law_answer => k_is)
    (case r__law_behind => k_is)
    (case s__law_behind => k_is)
    (case r__law_story => k_is)
    (case s__law_story => k_is)
    (case r__law_answers => k_is)
    (case s__law_answers => k_is)
    (case r__law_wild => k_is)
    (case s__law_wild => k_is)
    (case r__law_keyed => k_is)
    (case s__law_keyed => k_is)
    (case r__law_counts => k_is)
    (case s__law_counts => k_is)
    (case r__law_may => k_is)
    (case s__law_may => k_is)
    (case r__law_next => k_is)
    (case s__law_next => k_is)
    (case r__law_states => k_is)
    (case s__law_states => k_is)
    (case r__law_is_full => k_is)
    (case s__law_is_full => k_is)
    (case r_is_name => k_is)
    (case s_is_name => k_is)
    (case r_is_integer => k_is)
    (case s_is_integer => k_is)
    (case r_is_record => k_is)
    (case s_is_record => k_is)
    (case r_is_history => k_is)
    (case s_is_history => k_is)
    (case r_check_history => k_is)
    (case s_check_history => k_is)
    (case r_check_key => k_is)
    (case s_check_key => k_is)
    (case r_numbers_of => k_is)
    (case s_numbers_of => k_is)
    (case r_has_counted => k_is)
    (case s_has_counted => k_is)
    (case r_may_stand => k_is)
    (case s_may_stand => k_is)
    (case r_row_behind => k_is)
    (case s_row_behind => k_is)
    (case r_led_to => k_is)
    (case s_led_to => k_is)
    (case r_ways_from => k_is)
    (case s_ways_from => k_is)
    (case r_is_whole => k_is)
    (case s_is_whole => k_is)
    (case r_closed => k_is)
    (case s_closed => k_is)
    (case r__law_right => k_is)
    (case s__law_right => k_is)
    (case r_law => k_is)
    (case s_law => k_is)
