import PyProof.Rows.All
import Wide.All
import OpenK.AllK
import Wide.FinOn
import HandS.ForMost
import HandS.ForExc
import HandS.IsInst
import HandS.TupAny
import HandS.TupMul
import HandS.Style
import HandS.Zip
import HandS.Conv
import HandS.Deep
import HandS.Flow
import HandS.Lambda
import HandS.TupLe
import HandS.SortInts
import KE.GoesEnum
import KE.GoesMore
import HandS.ExcIs
import PyProof.ExcBaseAll.ValueError
import HandS.SortRule
import HandS.SetFor
import HandS.More
import KE.SortKeyHeap
import HandS.DictComp
import KE.BitLaws
import HandS.EndTab
import HandS.HeadWalk
import HandS.HeadHook4
import HandS.HeadEnd
import HandS.NestedK
import HandS.Head0
import HandS.Head1
import HandS.Head2
import PySem.Challenge.RW_countsfrom_k07_tables
set_option Elab.async false
set_option linter.all false
set_option maxRecDepth 100000
set_option maxHeartbeats 4000000
namespace DL
open PySem PySem.Spec PyProof.Rows L2

/-- a value: tuples and lists that nobody changes are data -/
inductive Val where
  | non | bl (b : Bool) | int (i : Int) | str (x : Str) | tup (vs : List Val) | lst (vs : List Val) | scr (ns : List Int) | ref (a : Addr) | ty (n : String)

inductive Ob where
  | lst (vs : List Val)
  | dK (kvs : List (Key × Val))
  | dT (kvs : List (List Key × Val))
  | ins (C : Addr) (fs : List (Str × Val))
  /-- a dict that is walked, and changed no more -/
  | dF (o : Obj) (xs : List (Key × V)) (kvs : List (Key × Val))
  /-- an exception that was caught, of the class at C -/
  | exc (C : Addr)
  /-- a table of code objects -/
  | tab (q : Str)
  /-- a place that is being filled: nothing is known of it here -/
  | busy

abbrev Hv := Addr → Option Ob
def put (h : Hv) (a : Addr) (o : Ob) : Hv := fun b => if b = a then some o else h b
theorem put_same {h : Hv} {a : Addr} {o : Ob} : put h a o a = some o := by unfold put; rw [if_pos rfl]
theorem put_ne {h : Hv} {a b : Addr} {o : Ob} (e : b ≠ a) : put h a o b = h b := by unfold put; rw [if_neg e]
theorem put_put {h : Hv} {a : Addr} {o u : Ob} : put (put h a o) a u = put h a u := by
  funext b; unfold put; split <;> rfl

/-- a list of the written part -/
def KL (K : PySem.W.Frag) (a : Addr) (xs : List V) : Prop :=
  ∃ (o : Obj) (its : Array Value) (n : Nat), K.lookup a = some o ∧ o.cls = .type "list" ∧ o.dict = none ∧ o.data = .seq its n ∧ its.size ≤ sizeLine ∧ Vals xs its.toList

mutual
/-- x stands for the value in the heap H, over the abstract heap h -/
def RV (K : PySem.W.Frag) (H : Hp) (h : Hv) : Val → V → Prop
  | .non, x => x = .non
  | .bl b, x => x = .bl b
  | .int i, x => x = .int i
  | .str s, x => x = .str s
  | .tup vs, x => ∃ a xs, x = .ref a ∧ h a = none ∧ H a = some (.tup xs) ∧ RVs K H h vs xs
  | .lst vs, x => ∃ a xs, x = .ref a ∧ h a = none ∧ H a = some (.lst xs) ∧ RVs K H h vs xs
  | .scr ns, x => ∃ a, x = .ref a ∧ ((h a = none ∧ Rd H a (.lst (ns.map V.int))) ∨ KL K a (ns.map V.int))
  | .ref a, x => x = .ref a
  | .ty n, x => x = .ty n
def RVs (K : PySem.W.Frag) (H : Hp) (h : Hv) : List Val → List V → Prop
  | [], xs => xs = []
  | v :: vs, xs => ∃ y ys, xs = y :: ys ∧ RV K H h v y ∧ RVs K H h vs ys
end

def NT (o : HO) : Prop := ∀ ps, o ≠ .tbl ps
/-- what is not the abstract heap's stays as it is -/
def StepN (h : Hv) (H : Hp) (h' : Hv) (H' : Hp) : Prop := ∀ a o, H a = some o → h a = none → NT o → H' a = some o ∧ h' a = none
/-- .. and so does what is being filled -/
structure Step (h : Hv) (H : Hp) (h' : Hv) (H' : Hp) : Prop where
  n : StepN h H h' H'
  b : ∀ a o, H a = some o → h a = some .busy → H' a = some o ∧ h' a = some .busy

theorem Step.refl (h : Hv) (H : Hp) : Step h H h H := ⟨fun _ _ e n _ => ⟨e, n⟩, fun _ _ e n => ⟨e, n⟩⟩
theorem Step.trans {h h1 h2 : Hv} {H H1 H2 : Hp} (x : Step h H h1 H1) (y : Step h1 H1 h2 H2) : Step h H h2 H2 := ⟨fun a o e n t =>
  let ⟨e1, n1⟩ := x.n a o e n t
  y.n a o e1 n1 t, fun a o e n =>
  let ⟨e1, n1⟩ := x.b a o e n
  y.b a o e1 n1⟩

theorem StepN.trans {h h1 h2 : Hv} {H H1 H2 : Hp} (x : StepN h H h1 H1) (y : StepN h1 H1 h2 H2) : StepN h H h2 H2 := fun a o e n t =>
  let ⟨e1, n1⟩ := x a o e n t
  y a o e1 n1 t
theorem nt_tup {xs : List V} : NT (.tup xs) := fun _ z => nomatch z
theorem nt_lst {xs : List V} : NT (.lst xs) := fun _ z => nomatch z
theorem nt_frz {o : Obj} {u : HO} : NT (.frz o u) := fun _ z => nomatch z

section
variable {K : PySem.W.Frag} {H H' : Hp} {h h' : Hv}
mutual
theorem RV.stepN (s : StepN h H h' H') : ∀ {v : Val} {x : V}, RV K H h v x → RV K H' h' v x
  | .non, x, r => by rw [RV] at r ⊢; exact r
  | .bl b, x, r => by rw [RV] at r ⊢; exact r
  | .int i, x, r => by rw [RV] at r ⊢; exact r
  | .str z, x, r => by rw [RV] at r ⊢; exact r
  | .tup vs, x, r => by
    rw [RV] at r ⊢
    obtain ⟨a, xs, e, n, ha, rs⟩ := r
    exact ⟨a, xs, e, (s a _ ha n nt_tup).2, (s a _ ha n nt_tup).1, RVs.stepN s rs⟩
  | .lst vs, x, r => by
    rw [RV] at r ⊢
    obtain ⟨a, xs, e, n, ha, rs⟩ := r
    exact ⟨a, xs, e, (s a _ ha n nt_lst).2, (s a _ ha n nt_lst).1, RVs.stepN s rs⟩
  | .scr ns, x, r => by
    rw [RV] at r ⊢
    obtain ⟨a, e, r⟩ := r
    refine ⟨a, e, ?_⟩
    rcases r with ⟨n, q | ⟨o, q⟩⟩ | q
    · exact .inl ⟨(s a _ q n nt_lst).2, .inl (s a _ q n nt_lst).1⟩
    · exact .inl ⟨(s a _ q n nt_frz).2, .inr ⟨o, (s a _ q n nt_frz).1⟩⟩
    · exact .inr q
  | .ref a, x, r => by rw [RV] at r ⊢; exact r
  | .ty n, x, r => by rw [RV] at r ⊢; exact r
theorem RVs.stepN (s : StepN h H h' H') : ∀ {vs : List Val} {xs : List V}, RVs K H h vs xs → RVs K H' h' vs xs
  | [], xs, r => by rw [RVs] at r ⊢; exact r
  | v :: vs, xs, r => by
    rw [RVs] at r ⊢
    obtain ⟨y, ys, e, r1, r2⟩ := r
    exact ⟨y, ys, e, RV.stepN s r1, RVs.stepN s r2⟩
end
theorem RV.step (s : Step h H h' H') {v : Val} {x : V} (r : RV K H h v x) : RV K H' h' v x := r.stepN s.n
theorem RVs.step (s : Step h H h' H') {v : List Val} {x : List V} (r : RVs K H h v x) : RVs K H' h' v x := r.stepN s.n
theorem RVs.len : ∀ {vs : List Val} {xs : List V}, RVs K H h vs xs → vs.length = xs.length
  | [], xs, r => by rw [RVs] at r; rw [r]; rfl
  | v :: vs, xs, r => by
    rw [RVs] at r
    obtain ⟨y, ys, e, _, r2⟩ := r
    rw [e, List.length_cons, List.length_cons, RVs.len r2]
theorem RVs.nil : RVs K H h [] [] := by rw [RVs]
theorem RVs.cons {v : Val} {vs : List Val} {x : V} {xs : List V} (r : RV K H h v x) (rs : RVs K H h vs xs) : RVs K H h (v :: vs) (x :: xs) := by
  rw [RVs]; exact ⟨x, xs, rfl, r, rs⟩
theorem RVs.get : ∀ {vs : List Val} {xs : List V} {i : Nat} {v : Val}, RVs K H h vs xs → vs[i]? = some v → ∃ x, xs[i]? = some x ∧ RV K H h v x
  | [], _, _, _, _, e => by simp at e
  | w :: vs, xs, 0, v, r, e => by
    rw [RVs] at r
    obtain ⟨y, ys, e1, r1, _⟩ := r
    simp at e
    subst e
    exact ⟨y, by rw [e1]; rfl, r1⟩
  | w :: vs, xs, i + 1, v, r, e => by
    rw [RVs] at r
    obtain ⟨y, ys, e1, _, r2⟩ := r
    obtain ⟨x, h1, h2⟩ := RVs.get (i := i) r2 (by simpa using e)
    exact ⟨x, by rw [e1]; simpa using h1, h2⟩
theorem RVs.getX : ∀ {vs : List Val} {xs : List V} {i : Nat} {x : V}, RVs K H h vs xs → xs[i]? = some x → ∃ v, vs[i]? = some v ∧ RV K H h v x
  | [], xs, _, _, r, e => by rw [RVs] at r; rw [r] at e; simp at e
  | w :: vs, xs, 0, x, r, e => by
    rw [RVs] at r
    obtain ⟨y, ys, e1, r1, _⟩ := r
    rw [e1] at e
    simp at e
    subst e
    exact ⟨w, rfl, r1⟩
  | w :: vs, xs, i + 1, x, r, e => by
    rw [RVs] at r
    obtain ⟨y, ys, e1, _, r2⟩ := r
    rw [e1] at e
    obtain ⟨v, h1, h2⟩ := RVs.getX (i := i) r2 (by simpa using e)
    exact ⟨v, by simpa using h1, h2⟩
theorem RVs.append : ∀ {vs ws : List Val} {xs ys : List V}, RVs K H h vs xs → RVs K H h ws ys → RVs K H h (vs ++ ws) (xs ++ ys)
  | [], ws, xs, ys, r, q => by rw [RVs] at r; rw [r]; exact q
  | v :: vs, ws, xs, ys, r, q => by
    rw [RVs] at r
    obtain ⟨y, zs, e1, r1, r2⟩ := r
    rw [e1]
    exact RVs.cons r1 (RVs.append r2 q)
theorem RVs.take : ∀ {vs : List Val} {xs : List V} (n : Nat), RVs K H h vs xs → RVs K H h (vs.take n) (xs.take n)
  | _, _, 0, _ => RVs.nil
  | [], xs, n + 1, r => by rw [RVs] at r; rw [r]; exact RVs.nil
  | v :: vs, xs, n + 1, r => by
    rw [RVs] at r
    obtain ⟨y, zs, e1, r1, r2⟩ := r
    rw [e1]
    exact RVs.cons r1 (RVs.take n r2)
theorem RVs.drop : ∀ {vs : List Val} {xs : List V} (n : Nat), RVs K H h vs xs → RVs K H h (vs.drop n) (xs.drop n)
  | _, _, 0, r => r
  | [], xs, n + 1, r => by rw [RVs] at r; rw [r]; exact RVs.nil
  | v :: vs, xs, n + 1, r => by
    rw [RVs] at r
    obtain ⟨y, zs, e1, r1, r2⟩ := r
    rw [e1]
    exact RVs.drop n r2
theorem RVs.reverse : ∀ {vs : List Val} {xs : List V}, RVs K H h vs xs → RVs K H h vs.reverse xs.reverse
  | [], xs, r => by rw [RVs] at r; rw [r]; exact RVs.nil
  | v :: vs, xs, r => by
    rw [RVs] at r
    obtain ⟨y, zs, e1, r1, r2⟩ := r
    rw [e1, List.reverse_cons, List.reverse_cons]
    exact RVs.append (RVs.reverse r2) (RVs.cons r1 RVs.nil)
theorem RVs.set : ∀ {vs : List Val} {xs : List V} (i : Nat) {v : Val} {x : V}, RVs K H h vs xs → RV K H h v x → RVs K H h (vs.set i v) (xs.set i x)
  | [], xs, i, _, _, r, q => by rw [RVs] at r; rw [r]; exact RVs.nil
  | w :: vs, xs, 0, v, x, r, q => by
    rw [RVs] at r
    obtain ⟨y, zs, e1, r1, r2⟩ := r
    rw [e1]
    exact RVs.cons q r2
  | w :: vs, xs, i + 1, v, x, r, q => by
    rw [RVs] at r
    obtain ⟨y, zs, e1, r1, r2⟩ := r
    rw [e1]
    exact RVs.cons r1 (RVs.set i r2 q)
theorem RVs.erase : ∀ {vs : List Val} {xs : List V} (i : Nat), RVs K H h vs xs → RVs K H h (vs.eraseIdx i) (xs.eraseIdx i)
  | [], xs, i, r => by rw [RVs] at r; rw [r]; exact RVs.nil
  | w :: vs, xs, 0, r => by
    rw [RVs] at r
    obtain ⟨y, zs, e1, r1, r2⟩ := r
    rw [e1]
    exact r2
  | w :: vs, xs, i + 1, r => by
    rw [RVs] at r
    obtain ⟨y, zs, e1, r1, r2⟩ := r
    rw [e1]
    exact RVs.cons r1 (RVs.erase i r2)
theorem RVs.ints : ∀ {ns : List Int} {xs : List V}, RVs K H h (ns.map Val.int) xs → xs = ns.map V.int
  | [], xs, r => by rw [List.map_nil, RVs] at r; exact r
  | n :: ns, xs, r => by
    rw [List.map_cons, RVs] at r
    obtain ⟨y, ys, e, r1, r2⟩ := r
    rw [RV] at r1
    rw [e, r1, RVs.ints r2]; rfl
theorem RVs.ofInts : ∀ (ns : List Int), RVs K H h (ns.map Val.int) (ns.map V.int)
  | [] => RVs.nil
  | n :: ns => RVs.cons (by rw [RV]) (RVs.ofInts ns)
theorem RVs.strs : ∀ {ns : List Str} {xs : List V}, RVs K H h (ns.map Val.str) xs → xs = ns.map V.str
  | [], xs, r => by rw [List.map_nil, RVs] at r; exact r
  | n :: ns, xs, r => by
    rw [List.map_cons, RVs] at r
    obtain ⟨y, ys, e, r1, r2⟩ := r
    rw [RV] at r1
    rw [e, r1, RVs.strs r2]; rfl
theorem RVs.ofStrs : ∀ (ns : List Str), RVs K H h (ns.map Val.str) (ns.map V.str)
  | [] => RVs.nil
  | n :: ns => RVs.cons (by rw [RV]) (RVs.ofStrs ns)
theorem RVs.bls : ∀ {ns : List Bool} {xs : List V}, RVs K H h (ns.map Val.bl) xs → xs = ns.map V.bl
  | [], xs, r => by rw [List.map_nil, RVs] at r; exact r
  | n :: ns, xs, r => by
    rw [List.map_cons, RVs] at r
    obtain ⟨y, ys, e, r1, r2⟩ := r
    rw [RV] at r1
    rw [e, r1, RVs.bls r2]; rfl
end

/-- dicts -/
def RKs {κ : Type} (K : PySem.W.Frag) (H : Hp) (h : Hv) : List (κ × Val) → List (κ × V) → Prop
  | [], xs => xs = []
  | (k, v) :: kvs, xs => ∃ y ys, xs = (k, y) :: ys ∧ RV K H h v y ∧ RKs K H h kvs ys
theorem RKs.stepN {κ : Type} {K : PySem.W.Frag} {H H' : Hp} {h h' : Hv} (s : StepN h H h' H') : ∀ {kvs : List (κ × Val)} {xs : List (κ × V)}, RKs K H h kvs xs → RKs K H' h' kvs xs
  | [], xs, r => r
  | (k, v) :: kvs, xs, r => by
    obtain ⟨y, ys, e, r1, r2⟩ := r
    exact ⟨y, ys, e, r1.stepN s, RKs.stepN s r2⟩
theorem RKs.step {κ : Type} {K : PySem.W.Frag} {H H' : Hp} {h h' : Hv} (s : Step h H h' H') {kvs : List (κ × Val)} {xs : List (κ × V)} (r : RKs K H h kvs xs) : RKs K H' h' kvs xs := r.stepN s.n

/-- what is being filled: a list or a dict -/
def Fills (o : HO) : Prop := (∃ xs, o = .lst xs) ∨ ∃ kvs, o = .dK kvs
/-- what an abstract object says of the heap -/
def RO (K : PySem.W.Frag) (H : Hp) (h : Hv) (a : Addr) : Ob → Prop
  | .lst vs => ∃ xs, H a = some (.lst xs) ∧ RVs K H h vs xs
  | .dK kvs => ∃ xs, H a = some (.dK xs) ∧ RKs K H h kvs xs
  | .dT kvs => ∃ xs, H a = some (.dT xs) ∧ RKs K H h kvs xs
  | .ins C fs => ∃ dx xs, H a = some (.ins C dx xs) ∧ H dx = some (.own a) ∧ h dx = none ∧ RKs K H h fs xs
  | .dF o xs kvs => H a = some (.frz o (.dK xs)) ∧ RKs K H h kvs xs
  | .exc C => ∃ oe φ, H a = some (.frz oe (.ext φ)) ∧ L2.Zc (.ref C) none oe ∧ ∃ vs, oe.data = .fields vs
  | .tab q => ∃ ps : Array Value, H a = some (.tbl ps) ∧ TriplesOk ps.toList ∧ ∀ (pos : Pos) (cv : Value), codeAmong pos ps.toList = some cv → ∃ c, cv = .ref c ∧ H c = some (LamX.CodeO c q) ∧ h c = none
  | .busy => ∃ o, H a = some o ∧ Fills o
def RH (K : PySem.W.Frag) (H : Hp) (h : Hv) : Prop := ∀ a o, h a = some o → RO K H h a o

/-- slots -/
abbrev Sl := List (Option Val)
def RS (K : PySem.W.Frag) (H : Hp) (h : Hv) (ρ : Sl) (σ : L2.St) : Prop := ρ.length = σ.length ∧ ∀ (i : Nat) (v : Val), ρ[i]? = some (some v) → ∃ x, σ[i]? = some (some x) ∧ RV K H h v x
theorem RS.stepN {K : PySem.W.Frag} {H H' : Hp} {h h' : Hv} {ρ : Sl} {σ : L2.St} (r : RS K H h ρ σ) (s : StepN h H h' H') : RS K H' h' ρ σ :=
  ⟨r.1, fun i v e => let ⟨x, e1, q⟩ := r.2 i v e; ⟨x, e1, q.stepN s⟩⟩
theorem RS.step {K : PySem.W.Frag} {H H' : Hp} {h h' : Hv} {ρ : Sl} {σ : L2.St} (r : RS K H h ρ σ) (s : Step h H h' H') : RS K H' h' ρ σ :=
  ⟨r.1, fun i v e => let ⟨x, e1, q⟩ := r.2 i v e; ⟨x, e1, q.step s⟩⟩
theorem RS.set {K : PySem.W.Frag} {H : Hp} {h : Hv} {ρ : Sl} {σ : L2.St} (r : RS K H h ρ σ) (i : Nat) {v : Val} {x : V} (q : RV K H h v x) : RS K H h (ρ.set i (some v)) (σ.set i (some x)) := by
  refine ⟨by rw [List.length_set, List.length_set]; exact r.1, fun j w e => ?_⟩
  by_cases hj : i = j
  · subst hj
    by_cases hi : i < ρ.length
    · rw [List.getElem?_set_self hi] at e
      cases e
      exact ⟨x, List.getElem?_set_self (by rw [← r.1]; exact hi), q⟩
    · rw [List.getElem?_eq_none (by simpa using hi)] at e
      cases e
  · rw [List.getElem?_set_ne hj] at e ⊢
    exact r.2 j w e
theorem RH.nof {K : PySem.W.Frag} {H : Hp} {h : Hv} (r : RH K H h) {p : Addr} (e : H p = none) : h p = none := by
  cases q : h p with
  | none => rfl
  | some o =>
    have z := r p o q
    cases o with
    | lst vs => obtain ⟨xs, e1, _⟩ := z; rw [e] at e1; cases e1
    | dK vs => obtain ⟨xs, e1, _⟩ := z; rw [e] at e1; cases e1
    | dT vs => obtain ⟨xs, e1, _⟩ := z; rw [e] at e1; cases e1
    | ins C fs => obtain ⟨dx, xs, e1, _⟩ := z; rw [e] at e1; cases e1
    | dF o xs kvs => have e1 := z.1; rw [e] at e1; cases e1
    | exc C => obtain ⟨_, _, e1, _⟩ := z; rw [e] at e1; cases e1
    | tab q => obtain ⟨_, e1, _⟩ := z; rw [e] at e1; cases e1
    | busy => obtain ⟨xs, e1, _⟩ := z; rw [e] at e1; cases e1

section
variable {K : PySem.W.Frag} {H : Hp} {h : Hv}
/-- a new object that is data -/
theorem Step.fresh {p : Addr} {o : HO} (e : H p = none) : Step h H h (upd H p o) := ⟨fun a u ha n _ => by
  rw [upd_ne (ne_of_none ha e)]
  exact ⟨ha, n⟩, fun a u ha n => by
  rw [upd_ne (ne_of_none ha e)]
  exact ⟨ha, n⟩⟩
/-- a new object of the abstract heap -/
theorem Step.new {p : Addr} {o : HO} {u : Ob} (e : H p = none) : Step h H (put h p u) (upd H p o) := ⟨fun a w ha n _ => by
  rw [upd_ne (ne_of_none ha e), put_ne (ne_of_none ha e)]
  exact ⟨ha, n⟩, fun a w ha n => by
  rw [upd_ne (ne_of_none ha e), put_ne (ne_of_none ha e)]
  exact ⟨ha, n⟩⟩
/-- an object of the abstract heap is changed -/
theorem Step.write {p : Addr} {o : HO} {u w : Ob} (e : h p = some u) (nb : u ≠ .busy) : Step h H (put h p w) (upd H p o) := ⟨fun a z ha n _ => by
  have ne : a ≠ p := fun q => by rw [q, e] at n; cases n
  rw [upd_ne ne, put_ne ne]
  exact ⟨ha, n⟩, fun a z ha n => by
  have ne : a ≠ p := fun q => by rw [q, e] at n; cases n; exact nb rfl
  rw [upd_ne ne, put_ne ne]
  exact ⟨ha, n⟩⟩
theorem RO.stepN {H' : Hp} {h' : Hv} {a : Addr} {o : Ob} (s : StepN h H h' H') (e : ∀ u, H a = some u → H' a = some u) (r : RO K H h a o) : RO K H' h' a o := by
  cases o with
  | lst vs => obtain ⟨xs, e1, q⟩ := r; exact ⟨xs, e _ e1, q.stepN s⟩
  | dK vs => obtain ⟨xs, e1, q⟩ := r; exact ⟨xs, e _ e1, q.stepN s⟩
  | dT vs => obtain ⟨xs, e1, q⟩ := r; exact ⟨xs, e _ e1, q.stepN s⟩
  | ins C fs =>
    obtain ⟨dx, xs, e1, e2, n, q⟩ := r
    have := s dx _ e2 n (fun _ z => nomatch z)
    exact ⟨dx, xs, e _ e1, this.1, this.2, q.stepN s⟩
  | dF o xs kvs => exact ⟨e _ r.1, r.2.stepN s⟩
  | exc C => obtain ⟨oe, φ, e1, q⟩ := r; exact ⟨oe, φ, e _ e1, q⟩
  | tab q =>
    obtain ⟨ps, e1, t, k⟩ := r
    refine ⟨ps, e _ e1, t, fun pos cv hc => ?_⟩
    obtain ⟨c, ec, e2, n⟩ := k pos cv hc
    have := s c _ e2 n (fun _ z => LamX.codeO_ne _ z)
    exact ⟨c, ec, this.1, this.2⟩
  | busy => obtain ⟨o, e1, n⟩ := r; exact ⟨o, e _ e1, n⟩
theorem RO.step {H' : Hp} {h' : Hv} {a : Addr} {o : Ob} (s : Step h H h' H') (e : ∀ u, H a = some u → H' a = some u) (r : RO K H h a o) : RO K H' h' a o := r.stepN s.n e
theorem RH.fresh {p : Addr} {o : HO} (r : RH K H h) (e : H p = none) : RH K (upd H p o) h := fun a u q =>
  (r a u q).step (Step.fresh e) fun w z => by rw [upd_ne (ne_of_none z e)]; exact z
theorem RH.new {p : Addr} {o : HO} {u : Ob} (r : RH K H h) (e : H p = none) (n : RO K (upd H p o) (put h p u) p u) : RH K (upd H p o) (put h p u) := fun a w q => by
  by_cases ha : a = p
  · subst ha
    rw [put_same] at q
    cases q
    exact n
  · rw [put_ne ha] at q
    exact (r a w q).step (Step.new e) fun w z => by rw [upd_ne ha]; exact z
theorem RH.write {p : Addr} {o : HO} {u w : Ob} (r : RH K H h) (e : h p = some u) (nb : u ≠ .busy) (n : RO K (upd H p o) (put h p w) p w) : RH K (upd H p o) (put h p w) := fun a z q => by
  by_cases ha : a = p
  · subst ha
    rw [put_same] at q
    cases q
    exact n
  · rw [put_ne ha] at q
    exact (r a z q).step (Step.write e nb) fun w z => by rw [upd_ne ha]; exact z
/-- forgetting what stands at an address -/
def drop (h : Hv) (p : Addr) : Hv := fun b => if b = p then none else h b
theorem drop_same {p : Addr} : drop h p p = none := by unfold drop; rw [if_pos rfl]
theorem drop_ne {p b : Addr} (e : b ≠ p) : drop h p b = h b := by unfold drop; rw [if_neg e]
/-- the abstract heap says less -/
def Less (h h' : Hv) : Prop := ∀ a, h' a = none ∨ h' a = h a
theorem Less.refl (h : Hv) : Less h h := fun _ => .inr rfl
theorem Less.stepN {h' : Hv} (l : Less h h') : StepN h H h' H := fun a o e n _ => ⟨e, by rcases l a with z | z; exact z; rw [z]; exact n⟩
theorem RH.less {h' : Hv} (r : RH K H h) (l : Less h h') : RH K H h' := fun a o q => by
  rcases l a with z | z
  · rw [z] at q; cases q
  · rw [z] at q
    exact (r a o q).stepN l.stepN fun _ z => z
theorem less_drop {p : Addr} : Less h (drop h p) := fun a => by
  by_cases e : a = p
  · subst e; exact .inl drop_same
  · exact .inr (drop_ne e)
end
end DL
namespace DL
open PySem PySem.Spec PyProof.Rows L2

abbrev PV := Val → Hv → Prop
/-- what is wanted of an exception: its class's name, what it bears, the slots, the heap -/
abbrev PX := Str → Option Val → Sl → Hv → Prop
abbrev ED := Sl → Hv → PV → PX → Prop
abbrev TD := Sl → Hv → (Bool → Hv → Prop) → PX → Prop
abbrev AD := Sl → Hv → (List Val → Hv → Prop) → PX → Prop
structure AE where
  nx : Sl → Hv → Prop
  rt : PV
  bk : Sl → Hv → Prop := fun _ _ => False
  ct : Sl → Hv → Prop := fun _ _ => False
abbrev SD := Sl → Hv → AE → PX → Prop
/-- where a body began: the wish about exceptions, the heaps at the entry -/
structure Bs where
  E : PX
  h0 : Hv
  H0 : Hp
structure ST (K : PySem.W.Frag) (B : Bs) (σ : L2.St) (H : Hp) (ρ : Sl) (h : Hv) : Prop where
  s : RS K H h ρ σ
  r : RH K H h
  b : Step B.h0 B.H0 h H
theorem ST.step {K : PySem.W.Frag} {B : Bs} {σ : L2.St} {H H' : Hp} {ρ : Sl} {h h' : Hv} (x : ST K B σ H ρ h) (s : Step h H h' H') (r : RH K H' h') : ST K B σ H' ρ h' :=
  ⟨x.s.step s, r, x.b.trans s⟩
theorem ST.set {K : PySem.W.Frag} {B : Bs} {σ : L2.St} {H : Hp} {ρ : Sl} {h : Hv} (x : ST K B σ H ρ h) (i : Nat) {v : Val} {y : V} (q : RV K H h v y) : ST K B (σ.set i (some y)) H (ρ.set i (some v)) h :=
  ⟨x.s.set i q, x.r, x.b⟩

/-- from an abstract end to an end -/
def Cont (K : PySem.W.Frag) (h : Hv) (H : Hp) (Q' : PV) (Q : VK) : Prop := ∀ v h' x H', Q' v h' → Step h H h' H' → RV K H' h' v x → RH K H' h' → Q x H'
def ContB (K : PySem.W.Frag) (h : Hv) (H : Hp) (Q' : Bool → Hv → Prop) (Q : Bool → Hp → Prop) : Prop := ∀ b h' H', Q' b h' → Step h H h' H' → RH K H' h' → Q b H'
def ContA (K : PySem.W.Frag) (h : Hv) (H : Hp) (Q' : List Val → Hv → Prop) (Q : List V → Hp → Prop) : Prop := ∀ vs h' xs H', Q' vs h' → Step h H h' H' → RVs K H' h' vs xs → RH K H' h' → Q xs H'
def rdE (K : PySem.W.Frag) (B : Bs) (d : ED) : TE := fun σ H Q => ∃ ρ h Q', ST K B σ H ρ h ∧ d ρ h Q' B.E ∧ Cont K h H Q' Q
def rdT (K : PySem.W.Frag) (B : Bs) (d : TD) : TT := fun σ H Q => ∃ ρ h Q', ST K B σ H ρ h ∧ d ρ h Q' B.E ∧ ContB K h H Q' Q
def rdA (K : PySem.W.Frag) (B : Bs) (d : AD) : TA := fun σ H Q => ∃ ρ h Q', ST K B σ H ρ h ∧ d ρ h Q' B.E ∧ ContA K h H Q' Q
structure ContS (K : PySem.W.Frag) (B : Bs) (h : Hv) (H : Hp) (D' : AE) (D : Ends) : Prop where
  nx : ∀ ρ h' σ H', D'.nx ρ h' → Step h H h' H' → ST K B σ H' ρ h' → D.nx σ H'
  rt : ∀ v h' x H', D'.rt v h' → Step h H h' H' → RV K H' h' v x → RH K H' h' → D.rt x H'
  bk : ∀ ρ h' σ H', D'.bk ρ h' → Step h H h' H' → ST K B σ H' ρ h' → D.bk σ H'
  ct : ∀ ρ h' σ H', D'.ct ρ h' → Step h H h' H' → ST K B σ H' ρ h' → D.ct σ H'
def rdS (K : PySem.W.Frag) (B : Bs) (d : SD) : TS := fun D σ H => ∃ ρ h D', ST K B σ H ρ h ∧ d ρ h D' B.E ∧ ContS K B h H D' D

theorem Cont.trans {K : PySem.W.Frag} {h h1 : Hv} {H H1 : Hp} {Q' : PV} {Q : VK} (c : Cont K h H Q' Q) (s : Step h H h1 H1) : Cont K h1 H1 Q' Q := fun v h' x H' q s' => c v h' x H' q (s.trans s')
theorem ContB.trans {K : PySem.W.Frag} {h h1 : Hv} {H H1 : Hp} {Q' : Bool → Hv → Prop} {Q : Bool → Hp → Prop} (c : ContB K h H Q' Q) (s : Step h H h1 H1) : ContB K h1 H1 Q' Q := fun v h' H' q s' => c v h' H' q (s.trans s')
theorem ContA.trans {K : PySem.W.Frag} {h h1 : Hv} {H H1 : Hp} {Q' : List Val → Hv → Prop} {Q : List V → Hp → Prop} (c : ContA K h H Q' Q) (s : Step h H h1 H1) : ContA K h1 H1 Q' Q := fun v h' x H' q s' => c v h' x H' q (s.trans s')
theorem ContS.trans {K : PySem.W.Frag} {B : Bs} {h h1 : Hv} {H H1 : Hp} {D' : AE} {D : Ends} (c : ContS K B h H D' D) (s : Step h H h1 H1) : ContS K B h1 H1 D' D :=
  ⟨fun ρ h' σ H' q s' => c.nx ρ h' σ H' q (s.trans s'), fun v h' x H' q s' => c.rt v h' x H' q (s.trans s'), fun ρ h' σ H' q s' => c.bk ρ h' σ H' q (s.trans s'), fun ρ h' σ H' q s' => c.ct ρ h' σ H' q (s.trans s')⟩

abbrev DE (X : Cx) (B : Bs) (e : Expr) (d : ED) : Prop := PE X e (rdE X.K B d)
abbrev DT (X : Cx) (B : Bs) (e : Expr) (d : TD) : Prop := PT X e (rdT X.K B d)
abbrev DW (X : Cx) (B : Bs) (e : Expr) (d : TD) : Prop := PW X e (rdT X.K B d)
abbrev DA (X : Cx) (B : Bs) (es : List Expr) (d : AD) : Prop := PA X es (rdA X.K B d)
abbrev DS (X : Cx) (B : Bs) (st : Stmt) (d : SD) : Prop := PS X st (rdS X.K B d)
abbrev DSs (X : Cx) (B : Bs) (sts : List Stmt) (d : SD) : Prop := PSs X sts (rdS X.K B d)

theorem PEi {X : Cx} {e : Expr} {t t' : TE} (p : PE X e t) (i : ∀ σ H Q, t' σ H Q → t σ H Q) : PE X e t' := ⟨fun pins s σ H Q I q => p.run pins s σ H Q I (i σ H Q q)⟩
theorem PTi {X : Cx} {e : Expr} {t t' : TT} (p : PT X e t) (i : ∀ σ H Q, t' σ H Q → t σ H Q) : PT X e t' := ⟨fun pins s σ H Q I q => p.run pins s σ H Q I (i σ H Q q)⟩
theorem PWi {X : Cx} {e : Expr} {t t' : TT} (p : PW X e t) (i : ∀ σ H Q, t' σ H Q → t σ H Q) : PW X e t' := ⟨fun w pins s σ H Q I q => p.run w pins s σ H Q I (i σ H Q q)⟩
theorem PAi {X : Cx} {e : List Expr} {t t' : TA} (p : PA X e t) (i : ∀ σ H Q, t' σ H Q → t σ H Q) : PA X e t' := ⟨fun w pins s σ H Q I q => p.run w pins s σ H Q I (i σ H Q q)⟩
theorem PSi {X : Cx} {e : Stmt} {t t' : TS} (p : PS X e t) (i : ∀ D σ H, t' D σ H → t D σ H) : PS X e t' := ⟨fun pins s σ H D I q => p.run pins s σ H D I (i D σ H q)⟩
theorem PSsi {X : Cx} {e : List Stmt} {t t' : TS} (p : PSs X e t) (i : ∀ D σ H, t' D σ H → t D σ H) : PSs X e t' := ⟨fun pins s σ H D I q => p.run pins s σ H D I (i D σ H q)⟩

/-! ### ends at fresh places -/
section
variable {K : PySem.W.Frag} {h : Hv} {H : Hp} {Q' : PV} {Q : VK}
theorem Cont.val (c : Cont K h H Q' Q) (r : RH K H h) {v : Val} {x : V} (rv : RV K H h v x) (q : Q' v h) : Q x H := c v h x H q (Step.refl _ _) rv r
theorem Cont.tup (c : Cont K h H Q' Q) (r : RH K H h) {vs : List Val} {xs : List V} {p : Addr} (rs : RVs K H h vs xs) (e : H p = none) (q : Q' (.tup vs) h) : Q (.ref p) (upd H p (.tup xs)) :=
  c _ _ _ _ q (Step.fresh e) (by rw [RV]; exact ⟨p, xs, rfl, r.nof e, upd_same, rs.step (Step.fresh e)⟩) (r.fresh e)
theorem Cont.lst (c : Cont K h H Q' Q) (r : RH K H h) {vs : List Val} {xs : List V} {p : Addr} (rs : RVs K H h vs xs) (e : H p = none) (q : Q' (.lst vs) h) : Q (.ref p) (upd H p (.lst xs)) :=
  c _ _ _ _ q (Step.fresh e) (by rw [RV]; exact ⟨p, xs, rfl, r.nof e, upd_same, rs.step (Step.fresh e)⟩) (r.fresh e)
theorem Cont.lstH (c : Cont K h H Q' Q) (r : RH K H h) {vs : List Val} {xs : List V} {p : Addr} (rs : RVs K H h vs xs) (e : H p = none) (q : Q' (.ref p) (put h p (.lst vs))) : Q (.ref p) (upd H p (.lst xs)) :=
  c _ _ _ _ q (Step.new e) (by rw [RV]) (r.new e ⟨xs, upd_same, rs.step (Step.new e)⟩)
end

section
variable {X : Cx} {B : Bs} {a b c e : Expr} {da db dc d : ED} {pos : Pos}

/-! ### names, constants -/
@[simp] def dVar (i : Nat) : ED := fun ρ h Q _ => match ρ[i]? with
  | some (some v) => Q v h
  | _ => False
@[simp] def dC (v : Val) : ED := fun _ h Q _ => Q v h
theorem de_var (i : Nat) {x : Str} {pos : Pos} (hN : X.N[i]? = some x := by rfl) (hv : Vis X.env.scope x := by first | exact Or.inl rfl | exact Or.inr (Or.inl rfl) | exact Or.inr (Or.inr rfl)) (hd : (x == ("__debug__" : Str)) = false := by decide)
    (hcd : (x == ("__classdict__" : Str)) = false := by decide) : DE X B (.Name x pos) (dVar i) := PEi (pe_var hN hv hd hcd) fun σ H Q ⟨ρ, h, Q', S, q, C⟩ => by
  unfold dVar at q
  split at q
  · rename_i v e
    obtain ⟨x, e1, r⟩ := S.s.2 i v e
    exact ⟨x, e1, C.val S.r r q⟩
  · exact q.elim
theorem de_int {i : Int} {j} : DE X B (.Constant (.int i) j pos) (dC (.int i)) := PEi pe_int fun σ H Q ⟨ρ, h, Q', S, q, C⟩ => C.val S.r (by rw [RV]) q
theorem de_bl {i : Bool} {j} : DE X B (.Constant (.bool i) j pos) (dC (.bl i)) := PEi pe_bl fun σ H Q ⟨ρ, h, Q', S, q, C⟩ => C.val S.r (by rw [RV]) q
theorem de_str {i : Str} {j} : DE X B (.Constant (.str i) j pos) (dC (.str i)) := PEi pe_str fun σ H Q ⟨ρ, h, Q', S, q, C⟩ => C.val S.r (by rw [RV]) q
theorem de_non {j} : DE X B (.Constant .none j pos) (dC .non) := PEi pe_non fun σ H Q ⟨ρ, h, Q', S, q, C⟩ => C.val S.r (by rw [RV]) q
/-- a module's constant: an int or a text -/
theorem de_gint {x : Str} {i : Int} {t : Tok} (hg : Gl X x) (hm : X.mg x = some (.int i t)) (hd : (x == ("__debug__" : Str)) = false := by decide) : DE X B (.Name x pos) (dC (.int i)) :=
  PEi (pe_glob (v := .int i) hg hm ⟨_, rfl⟩ hd) fun σ H Q ⟨ρ, h, Q', S, q, C⟩ => C.val S.r (by rw [RV]) q
theorem de_gstr {x : Str} {i : Str} {t : Tok} (hg : Gl X x) (hm : X.mg x = some (.str i t)) (hd : (x == ("__debug__" : Str)) = false := by decide) : DE X B (.Name x pos) (dC (.str i)) :=
  PEi (pe_glob (v := .str i) hg hm ⟨_, rfl⟩ hd) fun σ H Q ⟨ρ, h, Q', S, q, C⟩ => C.val S.r (by rw [RV]) q
/-- a builtin class as a value -/
theorem de_ty {x : Str} {n : String} (hg : Gl X x) (hm : X.mg x = none) (hv : bootBuiltins x = some (.type n)) (hn : x ≠ "__name__" := by decide) (hd : (x == ("__debug__" : Str)) = false := by decide) : DE X B (.Name x pos) (dC (.ty n)) :=
  PEi (pe_bltn (v := .ty n) hg hm hv rfl hn hd) fun σ H Q ⟨ρ, h, Q', S, q, C⟩ => C.val S.r (by rw [RV]) q

/-! ### operations on values -/
abbrev F2 := Val → Val → Hv → PV → Prop
abbrev F1 := Val → Hv → PV → Prop
def OpL (K : PySem.W.Frag) (f : F2) (r : R2) : Prop := ∀ v w x y h H Q' Q, RH K H h → RV K H h v x → RV K H h w y → f v w h Q' → Cont K h H Q' Q → r x y H Q
def UnL (K : PySem.W.Frag) (f : F1) (r : V → Hp → VK → Prop) : Prop := ∀ v x h H Q' Q, RH K H h → RV K H h v x → f v h Q' → Cont K h H Q' Q → r x H Q
@[simp] def dBin (f : F2) (da db : ED) : ED := fun ρ h Q E => da ρ h (fun v h1 => db ρ h1 (fun w h2 => f v w h2 Q) E) E
@[simp] def dUn (f : F1) (da : ED) : ED := fun ρ h Q E => da ρ h (fun v h1 => f v h1 Q) E
theorem rd_bin {f : F2} {r : R2} {K : PySem.W.Frag} (hl : OpL K f r) : ∀ σ H Q, rdE K B (dBin f da db) σ H Q → tOp r (rdE K B da) (rdE K B db) σ H Q := by
  rintro σ H Q ⟨ρ, h, Q', S, q, C⟩
  refine ⟨ρ, h, _, S, q, fun v h1 x H1 q1 s1 rv1 r1 => ?_⟩
  refine ⟨ρ, h1, _, S.step s1 r1, q1, fun w h2 y H2 q2 s2 rv2 r2 => ?_⟩
  exact hl v w x y h2 H2 Q' Q r2 (rv1.step s2) rv2 q2 (C.trans (s1.trans s2))
theorem de_op {op : Operator} {f : F2} {r : R2} (ho : OpR X (binaryOp op) r) (hl : OpL X.K f r) (ha : DE X B a da) (hb : DE X B b db) : DE X B (.BinOp a op b pos) (dBin f da db) :=
  PEi (pe_op ho ha hb) (rd_bin hl)
theorem de_un {op : UnaryOp} {f : F1} {r : V → Hp → VK → Prop} (ho : UnR X (unaryOp op) r) (hl : UnL X.K f r) (ha : DE X B a da) : DE X B (.UnaryOp op a pos) (dUn f da) :=
  PEi (pe_un ho ha) fun σ H Q ⟨ρ, h, Q', S, q, C⟩ => ⟨ρ, h, _, S, q, fun v h1 x H1 q1 s1 rv1 r1 => hl v x h1 H1 Q' Q r1 rv1 q1 (C.trans s1)⟩
theorem de_cmp {op : CmpOp} {f : F2} {r : R2} (ho : OpR X (compareOp op) r) (hl : OpL X.K f r) (ha : DE X B a da) (hb : DE X B b db) (hm : behindInMarks op b = false := by first | exact nomark _ | rfl) : DE X B (.Compare a [op] [b] pos) (dBin f da db) :=
  PEi (pe_cmpR ho ha hb hm) (rd_bin hl)
@[simp] def dTest (d : ED) : TD := fun ρ h Q E => d ρ h (fun v h1 => match v with
  | .bl k => Q k h1
  | _ => False) E
theorem rd_test {t : TE} {K : PySem.W.Frag} (hi : ∀ σ H Q, rdE K B d σ H Q → t σ H Q) : ∀ σ H Q, rdT K B (dTest d) σ H Q → tTest t σ H Q := by
  rintro σ H Q ⟨ρ, h, Q', S, q, C⟩
  refine hi _ _ _ ⟨ρ, h, _, S, q, fun v h1 x H1 q1 s1 rv1 r1 => ?_⟩
  cases v with
  | bl k =>
    rw [RV] at rv1
    exact ⟨k, rv1, C _ _ _ q1 s1 r1⟩
  | _ => exact q1.elim
theorem dt_cmp {op : CmpOp} {f : F2} {r : R2} (ho : OpR X (compareOp op) r) (hl : OpL X.K f r) (ha : DE X B a da) (hb : DE X B b db) (hm : behindInMarks op b = false := by first | exact nomark _ | rfl) : DT X B (.Compare a [op] [b] pos) (dTest (dBin f da db)) :=
  PTi (pt_cmpR ho ha hb hm) (rd_test (rd_bin hl))
/-- a op b op' c -/
@[simp] def dChain (f f' : F2) (da db dc : ED) : ED := fun ρ h Q E => da ρ h (fun v h1 => db ρ h1 (fun w h2 => f v w h2 (fun z h3 => match z with
  | .bl k => if k = true then dc ρ h3 (fun u h4 => f' w u h4 Q) E else Q (.bl false) h3
  | _ => False)) E) E
theorem rd_chain {f f' : F2} {r r' : R2} {K : PySem.W.Frag} (hl : OpL K f r) (hl' : OpL K f' r') : ∀ σ H Q, rdE K B (dChain f f' da db dc) σ H Q → tChain r r' (rdE K B da) (rdE K B db) (rdE K B dc) σ H Q := by
  rintro σ H Q ⟨ρ, h, Q', S, q, C⟩
  refine ⟨ρ, h, _, S, q, fun v h1 x H1 q1 s1 rv1 r1 => ?_⟩
  refine ⟨ρ, h1, _, S.step s1 r1, q1, fun w h2 y H2 q2 s2 rv2 r2 => ?_⟩
  refine hl v w x y h2 H2 _ _ r2 (rv1.step s2) rv2 q2 fun z h3 zx H3 q3 s3 rv3 r3 => ?_
  cases z with
  | bl k =>
    rw [RV] at rv3
    refine ⟨k, rv3, ?_⟩
    have s13 := s1.trans (s2.trans s3)
    cases k with
    | true =>
      dsimp only at q3; rw [if_pos rfl] at q3 ⊢
      exact ⟨ρ, h3, _, S.step s13 r3, q3, fun u h4 ux H4 q4 s4 rv4 r4 => hl' w u y ux h4 H4 Q' Q r4 (rv2.step (s3.trans s4)) rv4 q4 (C.trans (s13.trans s4))⟩
    | false =>
      dsimp only at q3; rw [if_neg Bool.false_ne_true] at q3 ⊢
      exact (C.trans s13).val r3 (by rw [RV]) q3
  | _ => exact q3.elim
theorem de_chain {op op' : CmpOp} {f f' : F2} {r r' : R2} (ho : OpR X (compareOp op) r) (ho' : OpR X (compareOp op') r') (hl : OpL X.K f r) (hl' : OpL X.K f' r') (ha : DE X B a da) (hb : DE X B b db) (hc : DE X B c dc)
    (hm : lastMarks [op, op'] [b, c] = false := by with_unfolding_all rfl) : DE X B (.Compare a [op, op'] [b, c] pos) (dChain f f' da db dc) := PEi (pe_chain ho ho' ha hb hc hm) (rd_chain hl hl')
theorem dt_chain {op op' : CmpOp} {f f' : F2} {r r' : R2} (ho : OpR X (compareOp op) r) (ho' : OpR X (compareOp op') r') (hl : OpL X.K f r) (hl' : OpL X.K f' r') (ha : DE X B a da) (hb : DE X B b db) (hc : DE X B c dc)
    (hm : lastMarks [op, op'] [b, c] = false := by with_unfolding_all rfl) : DT X B (.Compare a [op, op'] [b, c] pos) (dTest (dChain f f' da db dc)) := PTi (pt_chain ho ho' ha hb hc hm) (rd_test (rd_chain hl hl'))

/-! ### truth -/
@[simp] def truA (v : Val) (h : Hv) : Option Bool := match v with
  | .non => some false
  | .bl b => some b
  | .int i => some (i != 0)
  | .str y => if y.length ≤ sizeLine then some ((y.length : Int) != 0) else none
  | .tup vs => some (!vs.isEmpty)
  | .lst vs => some (!vs.isEmpty)
  | .scr ns => some (!ns.isEmpty)
  | .ref a => match h a with
    | some (.lst vs) => some (!vs.isEmpty)
    | some (.dK kvs) => some (!kvs.isEmpty)
    | _ => none
  | .ty _ => none
theorem RVs.empty {K : PySem.W.Frag} {H : Hp} {h : Hv} {vs : List Val} {xs : List V} (r : RVs K H h vs xs) : vs.isEmpty = xs.isEmpty := by
  cases vs with
  | nil => rw [RVs] at r; rw [r]; rfl
  | cons v vs => rw [RVs] at r; obtain ⟨y, ys, e, _⟩ := r; rw [e]; rfl
theorem RKs.empty {κ : Type} {K : PySem.W.Frag} {H : Hp} {h : Hv} {vs : List (κ × Val)} {xs : List (κ × V)} (r : RKs K H h vs xs) : vs.isEmpty = xs.isEmpty := by
  cases vs with
  | nil => rw [show xs = [] from r]; rfl
  | cons v vs => obtain ⟨y, ys, e, _⟩ := r; rw [e]; rfl
theorem scr_sql {K : PySem.W.Frag} {H : Hp} {h : Hv} {ns : List Int} {x : V} (r : RV K H h (.scr ns) x) : ∃ a, x = .ref a ∧ SqL K H a (ns.map V.int) := by
  rw [RV] at r
  obtain ⟨a, e, r⟩ := r
  refine ⟨a, e, ?_⟩
  rcases r with ⟨_, q⟩ | q
  · exact .inl q
  · exact .inr q
theorem tru_rel {K : PySem.W.Frag} {H : Hp} {h : Hv} {v : Val} {x : V} {k : Bool} (r : RH K H h) (rv : RV K H h v x) (e : truA v h = some k) : TruV K x H k := by
  cases v with
  | non => rw [RV] at rv; subst rv; exact (Option.some.inj e).symm
  | bl b => rw [RV] at rv; subst rv; exact (Option.some.inj e).symm
  | int b => rw [RV] at rv; subst rv; exact (Option.some.inj e).symm
  | str b =>
    rw [RV] at rv; subst rv
    unfold truA at e
    dsimp only at e
    split at e
    · rename_i hl; exact ⟨hl, (Option.some.inj e).symm⟩
    · cases e
  | tup vs =>
    rw [RV] at rv
    obtain ⟨a, xs, e1, _, ha, rs⟩ := rv
    subst e1
    refine .inr (.inl ⟨xs, .of ha, ?_⟩)
    rw [← rs.empty]; exact (Option.some.inj e).symm
  | lst vs =>
    rw [RV] at rv
    obtain ⟨a, xs, e1, _, ha, rs⟩ := rv
    subst e1
    refine .inl ⟨xs, .of ha, ?_⟩
    rw [← rs.empty]; exact (Option.some.inj e).symm
  | scr ns =>
    obtain ⟨a, e1, hq⟩ := scr_sql rv
    subst e1
    refine .inl ⟨_, hq, ?_⟩
    rw [← (Option.some.inj e)]
    cases ns <;> rfl
  | ref a =>
    rw [RV] at rv; subst rv
    unfold truA at e
    dsimp only at e
    split at e
    · rename_i vs hv
      obtain ⟨xs, e1, rs⟩ := r a _ hv
      refine .inl ⟨xs, .of e1, ?_⟩
      rw [← rs.empty]; exact (Option.some.inj e).symm
    · rename_i vs hv
      obtain ⟨xs, e1, rs⟩ := r a _ hv
      refine .inr (.inr ⟨xs, e1, ?_⟩)
      rw [← rs.empty]; exact (Option.some.inj e).symm
    · cases e
  | ty n => cases e
@[simp] def dTruth (d : ED) : TD := fun ρ h Q E => d ρ h (fun v h1 => match truA v h1 with
  | some k => Q k h1
  | none => False) E
theorem dt_truth (ha : DE X B a da) (he : ∀ whole, isTrue a X.env whole = (do let v ← whole; standAt a.pos; holding [v] (truthy v)) := by intro _; rfl) : DT X B a (dTruth da) :=
  PTi (pt_truth ha he) fun σ H Q ⟨ρ, h, Q', S, q, C⟩ => ⟨ρ, h, _, S, q, fun v h1 x H1 q1 s1 rv1 r1 => by
    split at q1
    · rename_i k e
      exact ⟨k, tru_rel r1 rv1 e, C _ _ _ q1 s1 r1⟩
    · exact q1.elim⟩
/-! ### and, or, not -/
variable {ta tb : TD} {rest : List Expr}
@[simp] def dAnd (ta tb : TD) : TD := fun ρ h Q E => ta ρ h (fun k h1 => if k = true then tb ρ h1 Q E else Q false h1) E
@[simp] def dOr (ta tb : TD) : TD := fun ρ h Q E => ta ρ h (fun k h1 => if k = true then Q true h1 else tb ρ h1 Q E) E
@[simp] def dNot (ta : TD) : TD := fun ρ h Q E => ta ρ h (fun k h1 => Q (!k) h1) E
theorem dw_and1 (ha : DT X B a ta) : DW X B (.BoolOp .And [a] pos) ta := pw_and1 ha
theorem dw_or1 (ha : DT X B a ta) : DW X B (.BoolOp .Or [a] pos) ta := pw_or1 ha
theorem dw_and (ha : DT X B a ta) (hb : DW X B (.BoolOp .And (b :: rest) pos) tb) : DW X B (.BoolOp .And (a :: b :: rest) pos) (dAnd ta tb) :=
  PWi (pw_and ha hb) fun σ H Q ⟨ρ, h, Q', S, q, C⟩ => ⟨ρ, h, _, S, q, fun k h1 H1 q1 s1 r1 => by
    cases k with
    | true =>
      rw [if_pos rfl] at q1 ⊢
      exact ⟨ρ, h1, _, S.step s1 r1, q1, C.trans s1⟩
    | false =>
      rw [if_neg Bool.false_ne_true] at q1 ⊢
      exact C _ _ _ q1 s1 r1⟩
theorem dw_or (ha : DT X B a ta) (hb : DW X B (.BoolOp .Or (b :: rest) pos) tb) : DW X B (.BoolOp .Or (a :: b :: rest) pos) (dOr ta tb) :=
  PWi (pw_or ha hb) fun σ H Q ⟨ρ, h, Q', S, q, C⟩ => ⟨ρ, h, _, S, q, fun k h1 H1 q1 s1 r1 => by
    cases k with
    | false =>
      rw [if_neg Bool.false_ne_true] at q1 ⊢
      exact ⟨ρ, h1, _, S.step s1 r1, q1, C.trans s1⟩
    | true =>
      rw [if_pos rfl] at q1 ⊢
      exact C _ _ _ q1 s1 r1⟩
theorem dt_w (ha : DW X B a ta) : DT X B a ta := ha.pt
theorem dt_not (ha : DT X B a ta) : DT X B (.UnaryOp .Not a pos) (dNot ta) :=
  PTi (pt_not ha) fun σ H Q ⟨ρ, h, Q', S, q, C⟩ => ⟨ρ, h, _, S, q, fun k h1 H1 q1 s1 r1 => C _ _ _ q1 s1 r1⟩
/-- as values -/
@[simp] def vAnd (da db : ED) : ED := fun ρ h Q E => da ρ h (fun v h1 => match truA v h1 with
  | some k => if k = true then db ρ h1 Q E else Q v h1
  | none => False) E
@[simp] def vOr (da db : ED) : ED := fun ρ h Q E => da ρ h (fun v h1 => match truA v h1 with
  | some k => if k = true then Q v h1 else db ρ h1 Q E
  | none => False) E
@[simp] def vNot (da : ED) : ED := fun ρ h Q E => da ρ h (fun v h1 => match truA v h1 with
  | some k => Q (.bl (!k)) h1
  | none => False) E
theorem de_one {op} (ha : DE X B a da) : DE X B (.BoolOp op [a] pos) da := pe_one ha
theorem de_and (ha : DE X B a da) (hb : DE X B (.BoolOp .And (b :: rest) pos) db) : DE X B (.BoolOp .And (a :: b :: rest) pos) (vAnd da db) :=
  PEi (pe_andT ha hb) fun σ H Q ⟨ρ, h, Q', S, q, C⟩ => ⟨ρ, h, _, S, q, fun v h1 x H1 q1 s1 rv1 r1 => by
    split at q1
    · rename_i k e
      refine ⟨k, tru_rel r1 rv1 e, ?_⟩
      cases k with
      | true =>
        rw [if_pos rfl] at q1 ⊢
        exact ⟨ρ, h1, _, S.step s1 r1, q1, C.trans s1⟩
      | false =>
        rw [if_neg Bool.false_ne_true] at q1 ⊢
        exact C _ _ _ _ q1 s1 rv1 r1
    · exact q1.elim⟩
theorem de_or (ha : DE X B a da) (hb : DE X B (.BoolOp .Or (b :: rest) pos) db) : DE X B (.BoolOp .Or (a :: b :: rest) pos) (vOr da db) :=
  PEi (pe_orT ha hb) fun σ H Q ⟨ρ, h, Q', S, q, C⟩ => ⟨ρ, h, _, S, q, fun v h1 x H1 q1 s1 rv1 r1 => by
    split at q1
    · rename_i k e
      refine ⟨k, tru_rel r1 rv1 e, ?_⟩
      cases k with
      | false =>
        rw [if_neg Bool.false_ne_true] at q1 ⊢
        exact ⟨ρ, h1, _, S.step s1 r1, q1, C.trans s1⟩
      | true =>
        rw [if_pos rfl] at q1 ⊢
        exact C _ _ _ _ q1 s1 rv1 r1
    · exact q1.elim⟩
theorem de_not (ha : DE X B a da) : DE X B (.UnaryOp .Not a pos) (vNot da) :=
  PEi (pe_notT ha) fun σ H Q ⟨ρ, h, Q', S, q, C⟩ => ⟨ρ, h, _, S, q, fun v h1 x H1 q1 s1 rv1 r1 => by
    split at q1
    · rename_i k e
      exact ⟨k, tru_rel r1 rv1 e, C _ _ _ _ q1 s1 (by rw [RV]) r1⟩
    · exact q1.elim⟩
@[simp] def dIfE (t : TD) (da db : ED) : ED := fun ρ h Q E => t ρ h (fun k h1 => if k = true then da ρ h1 Q E else db ρ h1 Q E) E
theorem de_if (hc : DT X B c ta) (ha : DE X B a da) (hb : DE X B b db) : DE X B (.IfExp c a b pos) (dIfE ta da db) :=
  PEi (pe_ifExp hc ha hb) fun σ H Q ⟨ρ, h, Q', S, q, C⟩ => ⟨ρ, h, _, S, q, fun k h1 H1 q1 s1 r1 => by
    cases k with
    | true =>
      rw [if_pos rfl] at q1 ⊢
      exact ⟨ρ, h1, _, S.step s1 r1, q1, C.trans s1⟩
    | false =>
      rw [if_neg Bool.false_ne_true] at q1 ⊢
      exact ⟨ρ, h1, _, S.step s1 r1, q1, C.trans s1⟩⟩

/-! ### argument lists, displays -/
variable {es : List Expr} {aa : AD}
@[simp] def aNil : AD := fun _ h Q _ => Q [] h
@[simp] def aCons (da : ED) (dr : AD) : AD := fun ρ h Q E => da ρ h (fun v h1 => dr ρ h1 (fun vs h2 => Q (v :: vs) h2) E) E
theorem da_nil : DA X B [] aNil := PAi pa_nil fun σ H Q ⟨ρ, h, Q', S, q, C⟩ => C _ _ _ _ q (Step.refl _ _) RVs.nil S.r
theorem da_cons (ha : DE X B e d) (hr : DA X B es aa) (hs : starEach (e :: es) X.env = (false, eval e X.env) :: starEach es X.env := by rfl) : DA X B (e :: es) (aCons d aa) :=
  PAi (pa_cons ha hr hs) fun σ H Q ⟨ρ, h, Q', S, q, C⟩ => ⟨ρ, h, _, S, q, fun v h1 x H1 q1 s1 rv1 r1 =>
    ⟨ρ, h1, _, S.step s1 r1, q1, fun vs h2 xs H2 q2 s2 rv2 r2 => C _ _ _ _ q2 (s1.trans s2) (RVs.cons (rv1.step s2) rv2) r2⟩⟩
@[simp] def dTup (aa : AD) : ED := fun ρ h Q E => aa ρ h (fun vs h1 => vs.length ≤ sizeLine ∧ Q (.tup vs) h1) E
@[simp] def dLst (aa : AD) : ED := fun ρ h Q E => aa ρ h (fun vs h1 => vs.length ≤ sizeLine ∧ Q (.lst vs) h1) E
@[simp] def dLstH (aa : AD) : ED := fun ρ h Q E => aa ρ h (fun vs h1 => vs.length ≤ sizeLine ∧ ∀ p, h1 p = none → Q (.ref p) (put h1 p (.lst vs))) E
theorem de_tup {k} (ha : DA X B es aa) : DE X B (.Tuple es k pos) (dTup aa) :=
  PEi (pe_tup ha) fun σ H Q ⟨ρ, h, Q', S, q, C⟩ => ⟨ρ, h, _, S, q, fun vs h1 xs H1 q1 s1 rv1 r1 => ⟨by rw [← rv1.len]; exact q1.1, fun p e => (C.trans s1).tup r1 rv1 e q1.2⟩⟩
theorem de_lst (ha : DA X B es aa) : DE X B (.List es pos) (dLst aa) :=
  PEi (pe_lst ha) fun σ H Q ⟨ρ, h, Q', S, q, C⟩ => ⟨ρ, h, _, S, q, fun vs h1 xs H1 q1 s1 rv1 r1 => ⟨by rw [← rv1.len]; exact q1.1, fun p e => (C.trans s1).lst r1 rv1 e q1.2⟩⟩
theorem de_lstH (ha : DA X B es aa) : DE X B (.List es pos) (dLstH aa) :=
  PEi (pe_lst ha) fun σ H Q ⟨ρ, h, Q', S, q, C⟩ => ⟨ρ, h, _, S, q, fun vs h1 xs H1 q1 s1 rv1 r1 => ⟨by rw [← rv1.len]; exact q1.1, fun p e => (C.trans s1).lstH r1 rv1 e (q1.2 p (r1.nof e))⟩⟩

/-! ### calls of builtins by values -/
abbrev FA := List Val → Hv → PV → Prop
def CaL (K : PySem.W.Frag) (f : FA) (r : List V → Hp → VK → Prop) : Prop := ∀ vs xs h H Q' Q, RH K H h → RVs K H h vs xs → f vs h Q' → Cont K h H Q' Q → r xs H Q
@[simp] def dCB (f : FA) (aa : AD) : ED := fun ρ h Q E => aa ρ h (fun vs h1 => f vs h1 Q) E
theorem rd_cb {f : FA} {r : List V → Hp → VK → Prop} {K : PySem.W.Frag} (hl : CaL K f r) : ∀ σ H Q, rdE K B (dCB f aa) σ H Q → tCB r (rdA K B aa) σ H Q := fun σ H Q ⟨ρ, h, Q', S, q, C⟩ =>
  ⟨ρ, h, _, S, q, fun vs h1 xs H1 q1 s1 rv1 r1 => hl vs xs h1 H1 Q' Q r1 rv1 q1 (C.trans s1)⟩
theorem de_callB {x : Str} {id : String} {p : Pos} {f : FA} {r : List V → Hp → VK → Prop} (hc : CallR X (.builtin id) r) (hl : CaL X.K f r) (hg : Gl X x) (hm : X.mg x = none) (hv : bootBuiltins x = some (.builtin id)) (ha : DA X B (e :: es) aa) (hn : x ≠ "__name__" := by decide) (hdb : (x == ("__debug__" : Str)) = false := by decide)
    (he : starEach (e :: es) X.env = (false, eval e X.env) :: starEach es X.env := by rfl) (hpl : (backTo pos (starEach es X.env)).any (·.1) = false := by rfl) : DE X B (.Call (.Name x p) (e :: es) [] pos) (dCB f aa) :=
  PEi (pe_callB hc hg hm hv ha hn hdb he hpl) (rd_cb hl)
theorem de_callTy {x : Str} {T : String} {p : Pos} {f : FA} {r : List V → Hp → VK → Prop} (hc : CallR X (.type T) r) (hl : CaL X.K f r) (hg : Gl X x) (hm : X.mg x = none) (hv : bootBuiltins x = some (.type T)) (ha : DA X B (e :: es) aa) (hn : x ≠ "__name__" := by decide) (hdb : (x == ("__debug__" : Str)) = false := by decide)
    (he : starEach (e :: es) X.env = (false, eval e X.env) :: starEach es X.env := by rfl) (hpl : (backTo pos (starEach es X.env)).any (·.1) = false := by rfl) : DE X B (.Call (.Name x p) (e :: es) [] pos) (dCB f aa) :=
  PEi (pe_callTy hc hg hm hv ha hn hdb he hpl) (rd_cb hl)
end
end DL
namespace DL
open PySem PySem.Spec PyProof.Rows L2

/-! ### ints -/
@[simp] def fI (C : Int → Int → Prop) (g : Int → Int → Val) : F2 := fun v w h Q => match v, w with
  | .int i, .int j => C i j ∧ Q (g i j) h
  | _, _ => False
@[simp] def fI0 (g : Int → Int → Val) : F2 := fun v w h Q => match v, w with
  | .int i, .int j => Q (g i j) h
  | _, _ => False
section
variable {K : PySem.W.Frag}
theorem rv_bl {H : Hp} {h : Hv} {b : Bool} : RV K H h (.bl b) (.bl b) := by rw [RV]
theorem rv_int {H : Hp} {h : Hv} {b : Int} : RV K H h (.int b) (.int b) := by rw [RV]
theorem rv_str {H : Hp} {h : Hv} {b : Str} : RV K H h (.str b) (.str b) := by rw [RV]
theorem rv_non {H : Hp} {h : Hv} : RV K H h .non .non := by rw [RV]
theorem ol_I {C : Int → Int → Prop} {g : Int → Int → Int} : OpL K (fI C fun i j => .int (g i j)) (rI C fun i j => .int (g i j)) := fun v w x y h H Q' Q r rv rw' q c => by
  cases v <;> cases w <;> first | exact q.elim | (rw [RV] at rv rw'; exact ⟨_, _, rv, rw', q.1, c.val r (by rw [RV]) q.2⟩)
theorem ol_I0 {g : Int → Int → Int} : OpL K (fI0 fun i j => .int (g i j)) (rI0 fun i j => .int (g i j)) := fun v w x y h H Q' Q r rv rw' q c => by
  cases v <;> cases w <;> first | exact q.elim | (rw [RV] at rv rw'; exact ⟨_, _, rv, rw', c.val r (by rw [RV]) q⟩)
theorem ol_B0 {g : Int → Int → Bool} : OpL K (fI0 fun i j => .bl (g i j)) (rI0 fun i j => .bl (g i j)) := fun v w x y h H Q' Q r rv rw' q c => by
  cases v <;> cases w <;> first | exact q.elim | (rw [RV] at rv rw'; exact ⟨_, _, rv, rw', c.val r (by rw [RV]) q⟩)
@[simp] def fNeg : F1 := fun v h Q => match v with
  | .int i => Q (.int (-i)) h
  | _ => False
theorem ul_neg : UnL K fNeg (rU fun i => .int (-i)) := fun v x h H Q' Q r rv q c => by
  cases v <;> first | exact q.elim | (rw [RV] at rv; exact ⟨_, rv, c.val r (by rw [RV]) q⟩)
abbrev fSub : F2 := fI0 fun i j => .int (i - j)
abbrev fMul : F2 := fI CMul fun i j => .int (i * j)
abbrev fDiv : F2 := fI CDiv fun i j => .int (i / j)
abbrev fMod : F2 := fI (fun _ j => 0 < j) fun i j => .int (i % j)
abbrev fPow : F2 := fI CPow fun i j => .int (i ^ j.toNat)
abbrev fShl : F2 := fI CPow fun i j => .int (i * 2 ^ j.toNat)
abbrev fShr : F2 := fI (fun _ j => 0 ≤ j) fun i j => .int (i / 2 ^ j.toNat)
abbrev fBand : F2 := fI0 fun i j => .int (Builtin.bitAnd i j)
abbrev fBxor : F2 := fI0 fun i j => .int (Builtin.bitXor i j)
abbrev fLtI : F2 := fI0 fun i j => .bl (decide (i < j))
abbrev fLe : F2 := fI0 fun i j => .bl (decide (i ≤ j))
abbrev fGt : F2 := fI0 fun i j => .bl (decide (j < i))
abbrev fGe : F2 := fI0 fun i j => .bl (decide (j ≤ i))

/-! ### + -/
@[simp] def listOf (v : Val) (h : Hv) : Option (List Val) := match v with
  | .lst vs => some vs
  | .ref a => match h a with
    | some (.lst vs) => some vs
    | _ => none
  | _ => none
theorem listOf_rel {H : Hp} {h : Hv} {v : Val} {x : V} {vs : List Val} (r : RH K H h) (rv : RV K H h v x) (e : listOf v h = some vs) : ∃ a xs, x = .ref a ∧ H a = some (.lst xs) ∧ RVs K H h vs xs := by
  cases v with
  | lst ws =>
    rw [RV] at rv
    obtain ⟨a, xs, e1, _, ha, rs⟩ := rv
    cases e
    exact ⟨a, xs, e1, ha, rs⟩
  | ref a =>
    rw [RV] at rv
    unfold listOf at e
    dsimp only at e
    split at e
    · rename_i ws hw
      cases e
      obtain ⟨xs, e1, rs⟩ := r a _ hw
      exact ⟨a, xs, rv, e1, rs⟩
    · cases e
  | _ => cases e
@[simp] def fAdd : F2 := fun v w h Q => match v, w with
  | .int i, .int j => Q (.int (i + j)) h
  | .str a, .str b => a.length + b.length ≤ sizeLine ∧ Q (.str (a ++ b)) h
  | .tup xs, .tup ys => xs.length + ys.length ≤ sizeLine ∧ Q (.tup (xs ++ ys)) h
  | _, _ => match listOf v h, listOf w h with
    | some xs, some ys => xs.length + ys.length ≤ sizeLine ∧ Q (.lst (xs ++ ys)) h
    | _, _ => False
@[simp] def fAddH : F2 := fun v w h Q => match listOf v h, listOf w h with
    | some xs, some ys => xs.length + ys.length ≤ sizeLine ∧ ∀ p, h p = none → Q (.ref p) (put h p (.lst (xs ++ ys)))
    | _, _ => False
def rAddA (K : PySem.W.Frag) : R2 := fun x y H Q => rI0 (fun i j => .int (i + j)) x y H Q ∨ (∃ i j, x = .str i ∧ y = .str j ∧ i.length + j.length ≤ sizeLine ∧ Q (.str (i ++ j)) H) ∨ rCatA K x y H Q ∨ rCat x y H Q
theorem or_add {X : Cx} : OpR X (binaryOp .Add) (rAddA X.K) := op_add.or (op_add_str.or (op_catA.or op_cat))
theorem fAdd_lists {v w : Val} {x y : V} {h : Hv} {H : Hp} {Q' : PV} {Q : VK} (r : RH K H h) (rv : RV K H h v x) (rw' : RV K H h w y)
    (q : match listOf v h, listOf w h with
    | some xs, some ys => xs.length + ys.length ≤ sizeLine ∧ Q' (.lst (xs ++ ys)) h
    | _, _ => False) (c : Cont K h H Q' Q) : rCat x y H Q := by
  split at q
  · rename_i xs ys e1 e2
    obtain ⟨a, us, ea, ha, ra⟩ := listOf_rel r rv e1
    obtain ⟨b, ws, eb, hb, rb⟩ := listOf_rel r rw' e2
    exact ⟨a, b, us, ws, ea, eb, ha, hb, by rw [← ra.len, ← rb.len]; exact q.1, fun p e => c.lst r (ra.append rb) e q.2⟩
  · exact q.elim
theorem ol_add : OpL K fAdd (rAddA K) := fun v w x y h H Q' Q r rv rw' q c => by
  unfold fAdd at q
  split at q
  · rw [RV] at rv rw'; exact .inl ⟨_, _, rv, rw', c.val r (by rw [RV]) q⟩
  · rw [RV] at rv rw'; exact .inr (.inl ⟨_, _, rv, rw', q.1, c.val r (by rw [RV]) q.2⟩)
  · rename_i xs ys
    have rv0 := rv
    have rw0 := rw'
    rw [RV] at rv rw'
    obtain ⟨a, us, ea, na, ha, ra⟩ := rv
    obtain ⟨b, ws, eb, nb, hb, rb⟩ := rw'
    refine .inr (.inr (.inl ⟨a, b, us, ws, ea, eb, .of ha, .of hb, by rw [← ra.len, ← rb.len]; exact q.1, fun e => ?_, fun e1 e2 => ?_, fun _ _ p e => c.tup r (ra.append rb) e q.2⟩))
    · have : xs = [] := List.eq_nil_of_length_eq_zero (by rw [ra.len, e]; rfl)
      subst this
      rw [← eb]
      exact c.val r rw0 q.2
    · have : ys = [] := List.eq_nil_of_length_eq_zero (by rw [rb.len, e2]; rfl)
      subst this
      rw [← ea]
      have q2 := q.2
      rw [List.append_nil] at q2
      exact c.val r rv0 q2
  · exact .inr (.inr (.inr (fAdd_lists r rv rw' q c)))
theorem ol_addH : OpL K fAddH (rAddA K) := fun v w x y h H Q' Q r rv rw' q c => by
  unfold fAddH at q
  split at q
  · rename_i xs ys e1 e2
    obtain ⟨a, us, ea, ha, ra⟩ := listOf_rel r rv e1
    obtain ⟨b, ws, eb, hb, rb⟩ := listOf_rel r rw' e2
    exact .inr (.inr (.inr ⟨a, b, us, ws, ea, eb, ha, hb, by rw [← ra.len, ← rb.len]; exact q.1, fun p e => c.lstH r (ra.append rb) e (q.2 p (r.nof e))⟩))
  · exact q.elim

/-! ### == -/
mutual
def dat : Val → Option PyData
  | .non => some .none
  | .bl b => some (.bool b)
  | .int i => some (.int i)
  | .str x => some (.str x)
  | .tup vs => (dats vs).map .tuple
  | .lst vs => (dats vs).map .list
  | .scr ns => some (.list (ns.map .int))
  | .ref _ => none
  | .ty _ => none
def dats : List Val → Option (List PyData)
  | [] => some []
  | v :: vs => match dat v, dats vs with
    | some d, some ds => some (d :: ds)
    | _, _ => none
end
theorem dpAll_ints {H : Hp} : ∀ ns : List Int, DpAll K H (ns.map V.int) (ns.map PyData.int)
  | [] => .nil
  | n :: ns => .cons (.int n) (dpAll_ints ns)
mutual
theorem dat_rel {H : Hp} {h : Hv} : ∀ {v : Val} {x : V} {d : PyData}, RV K H h v x → dat v = some d → Dp K H x d
  | .non, x, d, r, e => by rw [RV] at r; rw [dat] at e; cases e; subst r; exact .non
  | .bl b, x, d, r, e => by rw [RV] at r; rw [dat] at e; cases e; subst r; exact .bl b
  | .int b, x, d, r, e => by rw [RV] at r; rw [dat] at e; cases e; subst r; exact .int b
  | .str b, x, d, r, e => by rw [RV] at r; rw [dat] at e; cases e; subst r; exact .str b
  | .tup vs, x, d, r, e => by
    rw [RV] at r; rw [dat] at e
    obtain ⟨a, xs, e1, n, ha, rs⟩ := r
    obtain ⟨ds, e2, e3⟩ := Option.map_eq_some_iff.mp e
    subst e1 e3
    exact .tup (.of ha) (dats_rel rs e2)
  | .lst vs, x, d, r, e => by
    rw [RV] at r; rw [dat] at e
    obtain ⟨a, xs, e1, n, ha, rs⟩ := r
    obtain ⟨ds, e2, e3⟩ := Option.map_eq_some_iff.mp e
    subst e1 e3
    exact .lst (.of ha) (dats_rel rs e2)
  | .scr ns, x, d, r, e => by
    obtain ⟨a, e1, q⟩ := scr_sql r
    rw [dat] at e; cases e
    subst e1
    exact .lst q (dpAll_ints ns)
  | .ref a, x, d, r, e => by rw [dat] at e; cases e
  | .ty a, x, d, r, e => by rw [dat] at e; cases e
theorem dats_rel {H : Hp} {h : Hv} : ∀ {vs : List Val} {xs : List V} {ds : List PyData}, RVs K H h vs xs → dats vs = some ds → DpAll K H xs ds
  | [], xs, ds, r, e => by rw [RVs] at r; rw [dats] at e; cases e; subst r; exact .nil
  | v :: vs, xs, ds, r, e => by
    rw [RVs] at r; rw [dats] at e
    obtain ⟨y, ys, e1, r1, r2⟩ := r
    split at e
    · rename_i d ds' h1 h2
      cases e
      subst e1
      exact .cons (dat_rel r1 h1) (dats_rel r2 h2)
    · cases e
end
/-- of a list of the abstract heap too -/
def datH (v : Val) (h : Hv) : Option PyData := match v with
  | .ref a => match h a with
    | some (.lst vs) => (dats vs).map .list
    | _ => none
  | v => dat v
theorem datH_rel {H : Hp} {h : Hv} {v : Val} {x : V} {d : PyData} (r : RH K H h) (rv : RV K H h v x) (e : datH v h = some d) : Dp K H x d := by
  unfold datH at e
  split at e
  · rename_i a
    split at e
    · rename_i vs hv
      rw [RV] at rv
      obtain ⟨xs, e1, rs⟩ := r a _ hv
      obtain ⟨ds, e2, e3⟩ := Option.map_eq_some_iff.mp e
      subst rv e3
      exact .lst (.of e1) (dats_rel rs e2)
    · cases e
  · exact dat_rel rv e
/-- == of two scalars -/
@[simp] def scA : Val → Val → Option Bool
  | .non, .non => some true
  | .non, .int _ => some false
  | .int _, .non => some false
  | .non, .bl _ => some false
  | .bl _, .non => some false
  | .non, .str _ => some false
  | .str _, .non => some false
  | .int i, .int j => some (i == j)
  | .bl i, .bl j => some (i == j)
  | .str i, .str j => some (i == j)
  | .int _, .str _ => some false
  | .str _, .int _ => some false
  | .bl _, .str _ => some false
  | .str _, .bl _ => some false
  | _, _ => none
theorem scA_rel {H : Hp} {h : Hv} {v w : Val} {x y : V} {b : Bool} (rv : RV K H h v x) (rw' : RV K H h w y) (e : scA v w = some b) : scal x y = true ∧ decide (x = y) = b := by
  cases v <;> cases w <;> first | (cases e; done) | skip
  all_goals
    rw [RV] at rv
    rw [RV] at rw'
    subst rv
    subst rw'
    cases e
    refine ⟨rfl, ?_⟩
    first
      | exact dec_int
      | exact dec_bl
      | exact dec_str
      | simp
def datEq (v w : Val) (h : Hv) (Q : Bool → Prop) : Prop := ∃ d e, datH v h = some d ∧ datH w h = some e ∧ SeqAt.shaped d = true ∧ SeqAt.shaped e = true ∧ Q (PyData.eqv d e)
@[simp] def fEq : F2 := fun v w h Q => match scA v w with
  | some b => Q (.bl b) h
  | none => datEq v w h fun b => Q (.bl b) h
@[simp] def fNe : F2 := fun v w h Q => match scA v w with
  | some b => Q (.bl (!b)) h
  | none => datEq v w h fun b => Q (.bl (!b)) h
theorem or_eq {X : Cx} (hu : X.A.units + 64 < cLine) : OpR X (compareOp .Eq) (fun x y H Q => rEq x y H Q ∨ rEqD X.K x y H Q) := op_eq.or (op_eqD hu)
theorem or_ne {X : Cx} (hu : X.A.units + 64 < cLine) : OpR X (compareOp .NotEq) (fun x y H Q => rNe x y H Q ∨ rNeD X.K x y H Q) := op_ne.or (op_neD hu)
theorem ol_eq : OpL K fEq (fun x y H Q => rEq x y H Q ∨ rEqD K x y H Q) := fun v w x y h H Q' Q r rv rw' q c => by
  unfold fEq at q
  split at q
  · rename_i b e
    obtain ⟨s, d⟩ := scA_rel rv rw' e
    exact .inl ⟨s, by rw [d]; exact c.val r rv_bl q⟩
  · obtain ⟨d, e, h1, h2, s1, s2, q⟩ := q
    exact .inr ⟨d, e, datH_rel r rv h1, datH_rel r rw' h2, s1, s2, c.val r rv_bl q⟩
theorem ol_ne : OpL K fNe (fun x y H Q => rNe x y H Q ∨ rNeD K x y H Q) := fun v w x y h H Q' Q r rv rw' q c => by
  unfold fNe at q
  split at q
  · rename_i b e
    obtain ⟨s, d⟩ := scA_rel rv rw' e
    exact .inl ⟨s, by rw [d]; exact c.val r rv_bl q⟩
  · obtain ⟨d, e, h1, h2, s1, s2, q⟩ := q
    exact .inr ⟨d, e, datH_rel r rv h1, datH_rel r rw' h2, s1, s2, c.val r rv_bl q⟩

/-! ### is None -/
@[simp] def fIsN : F2 := fun v w h Q => match w with
  | .non => match v with
    | .non => Q (.bl true) h
    | _ => Q (.bl false) h
  | _ => False
@[simp] def fNotN : F2 := fun v w h Q => match w with
  | .non => match v with
    | .non => Q (.bl false) h
    | _ => Q (.bl true) h
  | _ => False
theorem RV.non_iff {H : Hp} {h : Hv} {v : Val} {x : V} (r : RV K H h v x) : x = .non ↔ v = .non := by
  cases v with
  | non => rw [RV] at r; exact ⟨fun _ => rfl, fun _ => r⟩
  | bl b => rw [RV] at r; subst r; exact ⟨fun z => (nomatch z), fun z => (nomatch z)⟩
  | int b => rw [RV] at r; subst r; exact ⟨fun z => (nomatch z), fun z => (nomatch z)⟩
  | str b => rw [RV] at r; subst r; exact ⟨fun z => (nomatch z), fun z => (nomatch z)⟩
  | tup b => rw [RV] at r; obtain ⟨a, xs, e, _⟩ := r; subst e; exact ⟨fun z => (nomatch z), fun z => (nomatch z)⟩
  | lst b => rw [RV] at r; obtain ⟨a, xs, e, _⟩ := r; subst e; exact ⟨fun z => (nomatch z), fun z => (nomatch z)⟩
  | scr b => rw [RV] at r; obtain ⟨a, e, _⟩ := r; subst e; exact ⟨fun z => (nomatch z), fun z => (nomatch z)⟩
  | ref b => rw [RV] at r; subst r; exact ⟨fun z => (nomatch z), fun z => (nomatch z)⟩
  | ty b => rw [RV] at r; subst r; exact ⟨fun z => (nomatch z), fun z => (nomatch z)⟩
theorem ol_isN : OpL K fIsN (fun x y H Q => y = .non ∧ Q (.bl (decide (x = .non))) H) := fun v w x y h H Q' Q r rv rw' q c => by
  cases w with
  | non =>
    refine ⟨by rw [RV] at rw'; exact rw', ?_⟩
    by_cases e : v = .non
    · subst e
      rw [decide_eq_true (rv.non_iff.mpr rfl)]
      exact c.val r (by rw [RV]) q
    · rw [decide_eq_false (fun z => e (rv.non_iff.mp z))]
      cases v <;> first | exact absurd rfl e | exact c.val r (by rw [RV]) q
  | _ => exact q.elim
theorem ol_notN : OpL K fNotN (fun x y H Q => y = .non ∧ Q (.bl (!decide (x = .non))) H) := fun v w x y h H Q' Q r rv rw' q c => by
  cases w with
  | non =>
    refine ⟨by rw [RV] at rw'; exact rw', ?_⟩
    by_cases e : v = .non
    · subst e
      rw [decide_eq_true (rv.non_iff.mpr rfl)]
      exact c.val r rv_bl q
    · rw [decide_eq_false (fun z => e (rv.non_iff.mp z))]
      cases v <;> first | exact absurd rfl e | exact c.val r rv_bl q
  | _ => exact q.elim

/-! ### in: a flat value in a list or tuple of flat ones; one sign in a text -/
@[simp] def seqOf (v : Val) (h : Hv) : Option (List Val) := match v with
  | .lst vs => some vs
  | .tup vs => some vs
  | .scr ns => some (ns.map .int)
  | .ref a => match h a with
    | some (.lst vs) => some vs
    | _ => none
  | _ => none
theorem seqOf_rel {H : Hp} {h : Hv} {v : Val} {x : V} {vs : List Val} (r : RH K H h) (rv : RV K H h v x) (e : seqOf v h = some vs) : ∃ a xs, x = .ref a ∧ (SqL K H a xs ∨ SqT K H a xs) ∧ RVs K H h vs xs := by
  cases v with
  | lst ws =>
    rw [RV] at rv
    obtain ⟨a, xs, e1, _, ha, rs⟩ := rv
    cases e
    exact ⟨a, xs, e1, .inl (.of ha), rs⟩
  | tup ws =>
    rw [RV] at rv
    obtain ⟨a, xs, e1, _, ha, rs⟩ := rv
    cases e
    exact ⟨a, xs, e1, .inr (.of ha), rs⟩
  | scr ns =>
    obtain ⟨a, e1, q⟩ := scr_sql rv
    cases e
    exact ⟨a, _, e1, .inl q, RVs.ofInts ns⟩
  | ref a =>
    rw [RV] at rv
    unfold seqOf at e
    dsimp only at e
    split at e
    · rename_i ws hw
      cases e
      obtain ⟨xs, e1, rs⟩ := r a _ hw
      exact ⟨a, xs, rv, .inl (.of e1), rs⟩
    · cases e
  | _ => cases e
@[simp] def flatA : Val → Bool
  | .non => true
  | .bl _ => true
  | .int _ => true
  | .str _ => true
  | _ => false
def eqA : Val → Val → Bool
  | .non, .non => true
  | .bl a, .bl b => a == b
  | .bl a, .int b => (if a then 1 else 0) == b
  | .int a, .bl b => a == (if b then 1 else 0)
  | .int a, .int b => a == b
  | .str a, .str b => a == b
  | _, _ => false
theorem flat_rel {H : Hp} {h : Hv} {v : Val} {x : V} (r : RV K H h v x) (f : flatA v = true) : flatV x = true := by
  cases v <;> first | (cases f; done) | (rw [RV] at r; subst r; rfl)
theorem eqA_rel {H : Hp} {h : Hv} {v w : Val} {x y : V} (r : RV K H h v x) (r' : RV K H h w y) (f : flatA v = true) (f' : flatA w = true) : eqV x y = eqA v w := by
  cases v <;> cases w <;> first | (cases f; done) | (cases f'; done) | (rw [RV] at r; rw [RV] at r'; subst r; subst r'; rfl)
theorem flats_rel {H : Hp} {h : Hv} : ∀ {vs : List Val} {xs : List V}, RVs K H h vs xs → vs.all flatA = true → xs.all flatV = true
  | [], xs, r, _ => by rw [RVs] at r; rw [r]; rfl
  | v :: vs, xs, r, f => by
    rw [RVs] at r
    obtain ⟨y, ys, e, r1, r2⟩ := r
    rw [List.all_cons, Bool.and_eq_true] at f
    rw [e, List.all_cons, flat_rel r1 f.1, flats_rel r2 f.2]; rfl
theorem any_eqA {H : Hp} {h : Hv} {w : Val} {y : V} (rw' : RV K H h w y) (fw : flatA w = true) : ∀ {vs : List Val} {xs : List V}, RVs K H h vs xs → vs.all flatA = true → xs.any (fun z => eqV z y) = vs.any (fun z => eqA z w)
  | [], xs, r, _ => by rw [RVs] at r; rw [r]; rfl
  | v :: vs, xs, r, f => by
    rw [RVs] at r
    obtain ⟨z, ys, e, r1, r2⟩ := r
    rw [List.all_cons, Bool.and_eq_true] at f
    rw [e, List.any_cons, List.any_cons, eqA_rel r1 rw' f.1 fw, any_eqA rw' fw r2 f.2]
def inA (v : Val) (vs : List Val) : Bool := vs.any fun z => eqA z v
@[simp] def fIn : F2 := fun v w h Q => match seqOf w h with
  | some vs => flatA v = true ∧ vs.all flatA = true ∧ Q (.bl (inA v vs)) h
  | none => False
@[simp] def fNotIn : F2 := fun v w h Q => match seqOf w h with
  | some vs => flatA v = true ∧ vs.all flatA = true ∧ Q (.bl (!inA v vs)) h
  | none => False
theorem ol_in : OpL K fIn (rIn K false) := fun v w x y h H Q' Q r rv rw' q c => by
  unfold fIn at q
  split at q
  · rename_i vs e
    obtain ⟨a, xs, e1, s, rs⟩ := seqOf_rel r rw' e
    refine ⟨a, xs, e1, s, flat_rel rv q.1, flats_rel rs q.2.1, ?_⟩
    rw [if_neg Bool.false_ne_true]
    unfold inV
    rw [any_eqA rv q.1 rs q.2.1]
    exact c.val r rv_bl q.2.2
  · exact q.elim
theorem ol_notIn : OpL K fNotIn (rIn K true) := fun v w x y h H Q' Q r rv rw' q c => by
  unfold fNotIn at q
  split at q
  · rename_i vs e
    obtain ⟨a, xs, e1, s, rs⟩ := seqOf_rel r rw' e
    refine ⟨a, xs, e1, s, flat_rel rv q.1, flats_rel rs q.2.1, ?_⟩
    rw [if_pos rfl]
    unfold inV
    rw [any_eqA rv q.1 rs q.2.1]
    exact c.val r rv_bl q.2.2
  · exact q.elim
end
end DL
namespace DL
open PySem PySem.Spec PyProof.Rows L2
section
variable {K : PySem.W.Frag} {H : Hp} {h : Hv}

/-! ### subscripts -/
theorem atI_rel {vs : List Val} {xs : List V} {i : Int} {v : Val} (r : RVs K H h vs xs) (e : atI vs i = some v) : ∃ x, atI xs i = some x ∧ RV K H h v x := by
  unfold atI at e ⊢
  rw [r.len] at e
  cases q : ixN xs.length i with
  | none => rw [q] at e; cases e
  | some j =>
    rw [q] at e
    exact r.get e
theorem seqOf_rel2 {v : Val} {x : V} {vs : List Val} (r : RH K H h) (rv : RV K H h v x) (e : seqOf v h = some vs) : ∃ a xs, x = .ref a ∧ (SqL K H a xs ∨ SqT K H a xs) ∧ RVs K H h vs xs := seqOf_rel r rv e
@[simp] def fIx : F2 := fun v w h Q => match w with
  | .int i => match v with
    | .str z => z.length ≤ sizeLine ∧ (match atI z.cps.toList i with
      | some c => Q (.str ⟨#[c]⟩) h
      | none => False)
    | _ => match seqOf v h with
      | some vs => (match atI vs i with
        | some u => Q u h
        | none => False)
      | none => False
  | _ => False
theorem ol_ix : OpL K fIx (rIx K) := fun v w x y h H Q' Q r rv rw' q c => by
  cases w with
  | int i =>
    rw [RV] at rw'
    have go : (match seqOf v h with
      | some vs => (match atI vs i with
        | some u => Q' u h
        | none => False)
      | none => False) → rIx K x y H Q := fun q => by
      split at q
      · rename_i vs e
        obtain ⟨a, xs, e1, s, rs⟩ := seqOf_rel r rv e
        split at q
        · rename_i u eu
          obtain ⟨z, ez, rz⟩ := atI_rel rs eu
          rcases s with s | s
          · exact .inl ⟨a, xs, i, z, e1, rw', s, ez, c.val r rz q⟩
          · exact .inr (.inl ⟨a, xs, i, z, e1, rw', s, ez, c.val r rz q⟩)
        · exact q.elim
      · exact q.elim
    cases v with
    | str z =>
      rw [RV] at rv
      obtain ⟨hz, q⟩ := q
      split at q
      · rename_i cc ec
        exact .inr (.inr ⟨z, i, cc, rv, rw', hz, ec, c.val r rv_str q⟩)
      · exact q.elim
    | non => exact go q
    | bl b => exact go q
    | int b => exact go q
    | tup b => exact go q
    | lst b => exact go q
    | scr b => exact go q
    | ref b => exact go q
    | ty b => exact go q
  | _ => exact q.elim
theorem de_ix {X : Cx} {B : Bs} {a b : Expr} {da db : ED} {pos : Pos} (ha : DE X B a da) (hb : DE X B b db) (hs : PlainIx b := by exact fun _ _ => rfl) : DE X B (.Subscript a b pos) (dBin fIx da db) :=
  PEi (pe_ix ix_seq ha hb hs) (rd_bin ol_ix)

/-! ### slices -/
def cutA (xs : List Val) (lo hi : Option Int) : List Val := (xs.drop (HT.sIx xs.length 0 lo)).take (HT.sIx xs.length xs.length hi - HT.sIx xs.length 0 lo)
theorem cut_rel {vs : List Val} {xs : List V} (lo hi : Option Int) (r : RVs K H h vs xs) : RVs K H h (cutA vs lo hi) (cutV xs lo hi) := by
  unfold cutA cutV
  rw [r.len]
  exact (r.drop _).take _
theorem cut_whole {xs : List Val} {lo hi : Option Int} (e : HT.sIx xs.length 0 lo = 0 ∧ HT.sIx xs.length xs.length hi = xs.length) : cutA xs lo hi = xs := by
  unfold cutA
  rw [e.1, e.2]
  simp
abbrev OD := Sl → Hv → (Option Int → Hv → Prop) → PX → Prop
def rdO (K : PySem.W.Frag) (B : Bs) (d : OD) : TO := fun σ H Q => ∃ ρ h Q', ST K B σ H ρ h ∧ d ρ h Q' B.E ∧ ∀ i h' H', Q' i h' → Step h H h' H' → RH K H' h' → Q i H'
@[simp] def oNone : OD := fun _ h Q _ => Q none h
@[simp] def oSome (d : ED) : OD := fun ρ h Q E => d ρ h (fun v h1 => match v with
  | .int i => Q (some i) h1
  | _ => False) E
theorem do_none {X : Cx} {B : Bs} : PO X none (rdO X.K B oNone) := ⟨fun pins s σ H Q I ⟨ρ, h, Q', S, q, C⟩ => po_none.run pins s σ H Q I (C _ _ _ q (Step.refl _ _) S.r)⟩
theorem do_some {X : Cx} {B : Bs} {e : Expr} {d : ED} (he : DE X B e d) : PO X (some e) (rdO X.K B (oSome d)) := ⟨fun pins s σ H Q I ⟨ρ, h, Q', S, q, C⟩ => (po_some he).run pins s σ H Q I ⟨ρ, h, _, S, q, fun v h1 x H1 q1 s1 rv1 r1 => by
    cases v with
    | int i => rw [RV] at rv1; exact ⟨i, rv1, C _ _ _ q1 s1 r1⟩
    | _ => exact q1.elim⟩⟩
abbrev F3 := Val → Option Int → Option Int → Hv → PV → Prop
@[simp] def dSl (f : F3) (d : ED) (lo hi : OD) : ED := fun ρ h Q E => d ρ h (fun v h1 => lo ρ h1 (fun l h2 => hi ρ h2 (fun u h3 => f v l u h3 Q) E) E) E
@[simp] def fSl : F3 := fun v lo hi h Q => match v with
  | .tup vs => Q (.tup (cutA vs lo hi)) h
  | .lst vs => Q (.lst (cutA vs lo hi)) h
  | .str z => z.length ≤ sizeLine ∧ Q (.str (cutS z lo hi)) h
  | .ref a => match h a with
    | some (.lst vs) => Q (.lst (cutA vs lo hi)) h
    | _ => False
  | _ => False
def rSlAll (K : PySem.W.Frag) : V → Option Int → Option Int → Hp → VK → Prop := fun x lo hi H Q => rSlL K x lo hi H Q ∨ rSlA K x lo hi H Q ∨ rSlS x lo hi H Q
theorem de_slice {X : Cx} {B : Bs} {a : Expr} {da : ED} {lo hi : Option Expr} {dl dh : OD} {pos p2 : Pos} (ha : DE X B a da) (hl : PO X lo (rdO X.K B dl)) (hu : PO X hi (rdO X.K B dh)) : DE X B (.Subscript a (.Slice lo hi none p2) pos) (dSl fSl da dl dh) := by
  refine PEi (pe_slice (r := rSlAll X.K) (sl_list.or (sl_tupA.or sl_str)) ha hl hu) fun σ H Q ⟨ρ, h, Q', S, q, C⟩ => ?_
  refine ⟨ρ, h, _, S, q, fun v h1 x H1 q1 s1 rv1 r1 => ⟨ρ, h1, _, S.step s1 r1, q1, fun l h2 H2 q2 s2 r2 => ⟨ρ, h2, _, S.step (s1.trans s2) r2, q2, fun u h3 H3 q3 s3 r3 => ?_⟩⟩⟩
  have C3 := C.trans (s1.trans (s2.trans s3))
  have rv := rv1.step (s2.trans s3)
  cases v with
  | tup vs =>
    have rv0 := rv
    rw [RV] at rv
    obtain ⟨a, xs, e1, n, ha, rs⟩ := rv
    refine .inr (.inl ⟨a, xs, e1, .of ha, fun e => ?_, fun _ p e => C3.tup r3 (cut_rel l u rs) e q3⟩)
    rw [← rs.len] at e
    have q3' : Q' (.tup (cutA vs l u)) h3 := q3
    rw [cut_whole e] at q3'
    rw [← e1]
    exact C3.val r3 rv0 q3'
  | lst vs =>
    rw [RV] at rv
    obtain ⟨a, xs, e1, n, ha, rs⟩ := rv
    exact .inl ⟨a, xs, e1, .of ha, fun p e => C3.lst r3 (cut_rel l u rs) e q3⟩
  | str z =>
    rw [RV] at rv
    exact .inr (.inr ⟨z, rv, q3.1, C3.val r3 rv_str q3.2⟩)
  | ref a =>
    rw [RV] at rv
    have q3' : (match h3 a with
      | some (.lst vs) => Q' (.lst (cutA vs l u)) h3
      | _ => False) := q3
    split at q3'
    · rename_i vs hv
      obtain ⟨xs, e1, rs⟩ := r3 a _ hv
      exact .inl ⟨a, xs, rv, .of e1, fun p e => C3.lst r3 (cut_rel l u rs) e q3'⟩
    · exact q3'.elim
  | _ => exact q3.elim

/-! ### < of ints, texts, tuples of such -/
def ltF : Val → Val → Option Bool
  | .int i, .int j => some (decide (i < j))
  | .str a, .str b => some (decide (a.cps.toList < b.cps.toList))
  | _, _ => none
def ltL : List Val → List Val → Option Bool
  | [], [] => some false
  | [], _ :: _ => some true
  | _ :: _, [] => some false
  | x :: xs, y :: ys => if eqA x y = true then ltL xs ys else ltF x y
@[simp] def ltA : Val → Val → Option Bool
  | .tup xs, .tup ys => if (xs.all flatA && ys.all flatA && (xs.zip ys).all fun p => (ltF p.1 p.2).isSome || eqA p.1 p.2) = true then ltL xs ys else none
  | v, w => ltF v w
theorem lex_ltL {e r : Nat → Bool} : ∀ {xs ys : List Val} {b : Bool} (i : Nat), ltL xs ys = some b →
    (∀ (j : Nat) x y, xs[j]? = some x → ys[j]? = some y → e (i + j) = eqA x y) → (∀ (j : Nat) x y k, xs[j]? = some x → ys[j]? = some y → ltF x y = some k → r (i + j) = k) →
    Ob.lexAt e r (decide (xs.length < ys.length)) i (min xs.length ys.length) = b
  | [], [], b, i, h, _, _ => by cases h; rfl
  | [], _ :: _, b, i, h, _, _ => by cases h; rfl
  | _ :: _, [], b, i, h, _, _ => by cases h; rfl
  | x :: xs, y :: ys, b, i, h, he, hr => by
    have e1 : min (x :: xs).length (y :: ys).length = min xs.length ys.length + 1 := by simp only [List.length_cons]; omega
    have e2 : decide ((x :: xs).length < (y :: ys).length) = decide (xs.length < ys.length) := by
      simp only [List.length_cons]
      rw [Bool.eq_iff_iff]
      simp
    rw [e1, e2, Ob.lexAt_succ]
    have e0 := he 0 x y rfl rfl
    rw [Nat.add_zero] at e0
    unfold ltL at h
    rw [e0]
    split at h
    · rename_i q
      rw [if_pos q]
      exact lex_ltL (i + 1) h (fun j x' y' h1 h2 => by rw [Nat.add_assoc, Nat.add_comm 1 j]; exact he (j + 1) x' y' (by simpa using h1) (by simpa using h2)) fun j x' y' k h1 h2 h3 => by rw [Nat.add_assoc, Nat.add_comm 1 j]; exact hr (j + 1) x' y' k (by simpa using h1) (by simpa using h2) h3
    · rename_i q
      rw [if_neg q]
      have := hr 0 x y b rfl rfl h
      rwa [Nat.add_zero] at this
end

section
variable {X : Cx}
@[simp] def fLt : F2 := fun v w h Q => match ltA v w with
  | some b => Q (.bl b) h
  | none => False
theorem ltF_rel {A : Around} {s : Shared} {K : PySem.W.Frag} {H : Hp} {h : Hv} {v w : Val} {x y : V} {u1 u2 : Value} {b : Bool} (e : ltF v w = some b) (r1 : RV K H h v x) (r2 : RV K H h w y) (q1 : RelV x u1) (q2 : RelV y u2) : Ob.RcOp .Lt A s u1 u2 b := by
  cases v <;> cases w <;> first | (cases e; done) | skip
  · rename_i i j
    cases e
    rw [RV] at r1 r2
    subst r1; subst r2
    obtain ⟨t, rfl⟩ := q1
    obtain ⟨t', rfl⟩ := q2
    exact Ob.RcOp.lt_int _ _ _ _
  · rename_i i j
    cases e
    rw [RV] at r1 r2
    subst r1; subst r2
    obtain ⟨t, rfl⟩ := q1
    obtain ⟨t', rfl⟩ := q2
    exact fun _ _ _ _ h => PyProof.Rows.lt_str h
/-- the reading: any two values that ltA orders -/
def rLtV (K : PySem.W.Frag) : R2 := fun x y H Q => ∃ v w h b, RH K H h ∧ RV K H h v x ∧ RV K H h w y ∧ ltA v w = some b ∧ Q (.bl b) H
theorem op_ltV (hu : X.A.units < cLine) : OpR X (compareOp .Lt) (rLtV X.K) := by
  intro pins s σ H x y v1 v2 Q I rx ry hq
  obtain ⟨v, w, h, b, r, rv, rw', e, q⟩ := hq
  suffices z : Ob.RcOp .Lt X.A s v1 v2 b by exact z X.prog X.w X.xe (EP X pins σ Q) ⟨.bl _, H, I, rfl, q⟩
  have flat : ltF v w = some b → Ob.RcOp .Lt X.A s v1 v2 b := fun e => ltF_rel e rv rw' rx ry
  cases v with
  | tup xs =>
    cases w with
    | tup ys =>
      have e : (if (xs.all flatA && ys.all flatA && (xs.zip ys).all fun p => (ltF p.1 p.2).isSome || eqA p.1 p.2) = true then ltL xs ys else none) = some b := e
      split at e
      · rename_i hf
        rw [Bool.and_eq_true, Bool.and_eq_true] at hf
        obtain ⟨hf, hz⟩ := hf
        rw [RV] at rv rw'
        obtain ⟨a, us, e1, n1, ha, ra⟩ := rv
        obtain ⟨b', ws, e2, n2, hb, rb⟩ := rw'
        subst e1 e2
        cases rx
        cases ry
        obtain ⟨its, i1, p1, _⟩ := I.tuple (.of ha)
        obtain ⟨its2, i2, p2, _⟩ := I.tuple (.of hb)
        have l1 : its.toArray.size = xs.length := by rw [List.size_toArray, ← i1.length, ra.len]
        have l2 : its2.toArray.size = ys.length := by rw [List.size_toArray, ← i2.length, rb.len]
        have at1 : ∀ j (h1 : j < its.toArray.size), ∃ z y, xs[j]? = some z ∧ RV X.K H h z y ∧ RelV y its.toArray[j] := fun j h1 => by
          have hj : j < xs.length := by rw [← l1]; exact h1
          obtain ⟨y, ey, ry⟩ := ra.get (i := j) (v := xs[j]) (by simp [hj])
          obtain ⟨u, eu, ru⟩ := i1.get ey
          refine ⟨xs[j], y, by simp [hj], ry, ?_⟩
          have : its.toArray[j] = u := by
            have z : its[j]? = some u := eu
            simp only [List.getElem_toArray]
            exact (List.getElem?_eq_some_iff.mp z).2
          rw [this]; exact ru
        have at2 : ∀ j (h1 : j < its2.toArray.size), ∃ z y, ys[j]? = some z ∧ RV X.K H h z y ∧ RelV y its2.toArray[j] := fun j h1 => by
          have hj : j < ys.length := by rw [← l2]; exact h1
          obtain ⟨y, ey, ry⟩ := rb.get (i := j) (v := ys[j]) (by simp [hj])
          obtain ⟨u, eu, ru⟩ := i2.get ey
          refine ⟨ys[j], y, by simp [hj], ry, ?_⟩
          have : its2.toArray[j] = u := by
            have z : its2[j]? = some u := eu
            simp only [List.getElem_toArray]
            exact (List.getElem?_eq_some_iff.mp z).2
          rw [this]; exact ru
        have fl1 : ∀ (j : Nat) z, xs[j]? = some z → flatA z = true := fun j z hz => List.all_eq_true.mp hf.1 z (List.mem_of_getElem? hz)
        have fl2 : ∀ (j : Nat) z, ys[j]? = some z → flatA z = true := fun j z hz => List.all_eq_true.mp hf.2 z (List.mem_of_getElem? hz)
        -- equality by place; the answer at the first place that differs
        have ez : ∀ (j : Nat) x y, xs[j]? = some x → ys[j]? = some y → (fun j => match xs[j]?, ys[j]? with
          | some x, some y => eqA x y
          | _, _ => true) j = eqA x y := fun j x y h1 h2 => by dsimp only; rw [h1, h2]
        have R := Ob.RcOp.tuples_lt (A := X.A) (s := s) (e := fun j => match xs[j]?, ys[j]? with
          | some x, some y => eqA x y
          | _, _ => true) (r := fun j => match xs[j]?, ys[j]? with
          | some x, some y => (ltF x y).getD false
          | _, _ => true) p1 p2 hu (fun j h1 h2 => by
            obtain ⟨z, y, ez, rz, qz⟩ := at1 j h1
            obtain ⟨z', y', ez', rz', qz'⟩ := at2 j h2
            rw [ez, ez']
            dsimp only
            rw [← eqA_rel rz rz' (fl1 j z ez) (fl2 j z' ez')]
            exact eqAt_V qz qz' (flat_rel rz (fl1 j z ez)) (flat_rel rz' (fl2 j z' ez'))) (fun j h1 h2 he => by
            obtain ⟨z, y, ez, rz, qz⟩ := at1 j h1
            obtain ⟨z', y', ez', rz', qz'⟩ := at2 j h2
            rw [ez, ez'] at he ⊢
            dsimp only at he ⊢
            have m : (z, z') ∈ xs.zip ys := List.mem_of_getElem? (i := j) (by rw [List.getElem?_zip_eq_some]; exact ⟨ez, ez'⟩)
            have k := List.all_eq_true.mp hz _ m
            dsimp only at k
            rw [he, Bool.or_false] at k
            obtain ⟨k', ek⟩ := Option.isSome_iff_exists.mp k
            rw [ek]
            exact ltF_rel ek rz rz' qz qz')
        rw [l1, l2] at R
        rw [lex_ltL 0 e (fun j x y h1 h2 => by rw [Nat.zero_add, h1, h2]) (fun j x y k h1 h2 h3 => by rw [Nat.zero_add, h1, h2]; dsimp only; rw [h3]; rfl)] at R
        exact R
      · cases e
    | _ => exact flat e
  | _ => exact flat (by cases w <;> exact e)
end
end DL
namespace DL
open PySem PySem.Spec PyProof.Rows L2
section
variable {K : PySem.W.Frag}
theorem ol_lt : OpL K fLt (rLtV K) := fun v w x y h H Q' Q r rv rw' q c => by
  unfold fLt at q
  split at q
  · rename_i b e
    exact ⟨v, w, h, b, r, rv, rw', e, c.val r rv_bl q⟩
  · exact q.elim
/-- a text in a text -/
@[simp] def fInS : F2 := fun v w h Q => match v, w with
  | .str ⟨⟨[c]⟩⟩, .str z => Q (.bl (decide (c ∈ z.cps.toList))) h
  | _, _ => False
@[simp] def fNotInS : F2 := fun v w h Q => match v, w with
  | .str ⟨⟨[c]⟩⟩, .str z => Q (.bl (!decide (c ∈ z.cps.toList))) h
  | _, _ => False
theorem ol_inS : OpL K fInS (fun x y H Q => ∃ (c : Nat) (z : Str), x = .str ⟨#[c]⟩ ∧ y = .str z ∧ Q (.bl (decide (c ∈ z.cps.toList))) H) := fun v w x y h H Q' Q r rv rw' q c => by
  unfold fInS at q
  split at q
  · rw [RV] at rv rw'
    exact ⟨_, _, rv, rw', c.val r rv_bl q⟩
  · exact q.elim
theorem ol_notInS : OpL K fNotInS (fun x y H Q => ∃ (c : Nat) (z : Str), x = .str ⟨#[c]⟩ ∧ y = .str z ∧ Q (.bl (!decide (c ∈ z.cps.toList))) H) := fun v w x y h H Q' Q r rv rw' q c => by
  unfold fNotInS at q
  split at q
  · rw [RV] at rv rw'
    exact ⟨_, _, rv, rw', c.val r rv_bl q⟩
  · exact q.elim

/-! ### len, all, any, sum -/
@[simp] def lenA (v : Val) (h : Hv) : Option Nat := match v with
  | .str z => if z.length ≤ sizeLine then some z.length else none
  | v => (seqOf v h).map List.length
@[simp] def fLen : FA := fun vs h Q => match vs with
  | [v] => match lenA v h with
    | some n => Q (.int n) h
    | none => False
  | _ => False
theorem rvs1 {H : Hp} {h : Hv} {v : Val} {xs : List V} (r : RVs K H h [v] xs) : ∃ x, xs = [x] ∧ RV K H h v x := by
  rw [RVs] at r
  obtain ⟨y, ys, e, r1, r2⟩ := r
  rw [RVs] at r2
  subst r2
  exact ⟨y, e, r1⟩
theorem rvs2 {H : Hp} {h : Hv} {v w : Val} {xs : List V} (r : RVs K H h [v, w] xs) : ∃ x y, xs = [x, y] ∧ RV K H h v x ∧ RV K H h w y := by
  rw [RVs] at r
  obtain ⟨y, ys, e, r1, r2⟩ := r
  obtain ⟨z, e2, r3⟩ := rvs1 r2
  subst e2
  exact ⟨y, z, e, r1, r3⟩
theorem cl_len : CaL K fLen (fun xs H Q => ∃ x n, xs = [x] ∧ LenV K x H n ∧ Q (.int n) H) := fun vs xs h H Q' Q r rs q c => by
  unfold fLen at q
  split at q
  · rename_i v
    obtain ⟨x, e, rv⟩ := rvs1 rs
    split at q
    · rename_i n en
      refine ⟨x, n, e, ?_, c.val r rv_int q⟩
      unfold lenA at en
      split at en
      · rename_i z
        split at en
        · rename_i hz
          cases en
          rw [RV] at rv
          subst rv
          exact ⟨hz, rfl⟩
        · cases en
      · obtain ⟨ws, e1, e2⟩ := Option.map_eq_some_iff.mp en
        obtain ⟨a, ys, e3, s, rss⟩ := seqOf_rel r rv e1
        subst e3
        rw [← e2]
        rcases s with s | s
        · exact .inl ⟨ys, s, rss.len⟩
        · exact .inr ⟨ys, s, rss.len⟩
    · exact q.elim
  · exact q.elim
def blsOf : List Val → Option (List Bool)
  | [] => some []
  | .bl b :: vs => (blsOf vs).map (b :: ·)
  | _ :: _ => none
theorem blsOf_eq : ∀ {vs : List Val} {bs : List Bool}, blsOf vs = some bs → vs = bs.map Val.bl
  | [], bs, e => by cases e; rfl
  | v :: vs, bs, e => by
    cases v with
    | bl b =>
      obtain ⟨cs, e1, e2⟩ := Option.map_eq_some_iff.mp e
      rw [← e2, List.map_cons, blsOf_eq e1]
    | _ => cases e
@[simp] theorem blsOf_map {α : Type} (g : α → Bool) : ∀ xs : List α, blsOf (xs.map fun x => Val.bl (g x)) = some (xs.map g)
  | [] => rfl
  | x :: xs => by rw [List.map_cons, blsOf, blsOf_map g xs]; rfl
@[simp] theorem blsOf_map' (bs : List Bool) : blsOf (bs.map Val.bl) = some bs := by
  have := blsOf_map id bs
  simpa using this
@[simp] def fAll : FA := fun vs h Q => match vs with
  | [v] => match (listOf v h).bind blsOf with
    | some bs => Q (.bl (bs.all id)) h
    | none => False
  | _ => False
@[simp] def fAny : FA := fun vs h Q => match vs with
  | [v] => match (listOf v h).bind blsOf with
    | some bs => Q (.bl (bs.any id)) h
    | none => False
  | _ => False
theorem cl_all : CaL K fAll (rAll K) := fun vs xs h H Q' Q r rs q c => by
  unfold fAll at q
  split at q
  · obtain ⟨x, e, rv⟩ := rvs1 rs
    split at q
    · rename_i bs eb
      obtain ⟨ws, e1, e2⟩ := Option.bind_eq_some_iff.mp eb
      obtain ⟨a, ys, e3, ha, rss⟩ := listOf_rel r rv e1
      rw [blsOf_eq e2] at rss
      rw [rss.bls] at ha
      exact ⟨a, bs, by rw [e, e3], .of ha, c.val r rv_bl q⟩
    · exact q.elim
  · exact q.elim
theorem cl_any : CaL K fAny (rAny K) := fun vs xs h H Q' Q r rs q c => by
  unfold fAny at q
  split at q
  · obtain ⟨x, e, rv⟩ := rvs1 rs
    split at q
    · rename_i bs eb
      obtain ⟨ws, e1, e2⟩ := Option.bind_eq_some_iff.mp eb
      obtain ⟨a, ys, e3, ha, rss⟩ := listOf_rel r rv e1
      rw [blsOf_eq e2] at rss
      rw [rss.bls] at ha
      exact ⟨a, bs, by rw [e, e3], .of ha, c.val r rv_bl q⟩
    · exact q.elim
  · exact q.elim
def intsOf : List Val → Option (List Int)
  | [] => some []
  | .int b :: vs => (intsOf vs).map (b :: ·)
  | _ :: _ => none
theorem intsOf_eq : ∀ {vs : List Val} {bs : List Int}, intsOf vs = some bs → vs = bs.map Val.int
  | [], bs, e => by cases e; rfl
  | v :: vs, bs, e => by
    cases v with
    | int b =>
      obtain ⟨cs, e1, e2⟩ := Option.map_eq_some_iff.mp e
      rw [← e2, List.map_cons, intsOf_eq e1]
    | _ => cases e
@[simp] theorem intsOf_map {α : Type} (g : α → Int) : ∀ xs : List α, intsOf (xs.map fun x => Val.int (g x)) = some (xs.map g)
  | [] => rfl
  | x :: xs => by rw [List.map_cons, intsOf, intsOf_map g xs]; rfl
@[simp] theorem intsOf_map' (bs : List Int) : intsOf (bs.map Val.int) = some bs := by
  have := intsOf_map id bs
  simpa using this
@[simp] def fSum : FA := fun vs h Q => match vs with
  | [v] => match (listOf v h).bind intsOf with
    | some bs => Q (.int bs.sum) h
    | none => False
  | _ => False
theorem cl_sum : CaL K fSum (rSum K) := fun vs xs h H Q' Q r rs q c => by
  unfold fSum at q
  split at q
  · obtain ⟨x, e, rv⟩ := rvs1 rs
    split at q
    · rename_i bs eb
      obtain ⟨ws, e1, e2⟩ := Option.bind_eq_some_iff.mp eb
      obtain ⟨a, ys, e3, ha, rss⟩ := listOf_rel r rv e1
      rw [intsOf_eq e2] at rss
      rw [rss.ints] at ha
      exact ⟨a, bs, by rw [e, e3], .of ha, c.val r rv_int q⟩
    · exact q.elim
  · exact q.elim
/-! ### tuple(..), list(..) -/
@[simp] def fTuple : FA := fun vs h Q => match vs with
  | [v] => match seqOf v h with
    | some ws => Q (.tup ws) h
    | none => False
  | _ => False
theorem sq_inj {H : Hp} {h : Hv} {v : Val} {x : V} {ws : List Val} (r : RH K H h) (rv : RV K H h v x) (e : seqOf v h = some ws) :
    (∃ a xs, x = .ref a ∧ SqL K H a xs ∧ RVs K H h ws xs) ∨ (v = .tup ws ∧ ∃ a xs, x = .ref a ∧ SqT K H a xs ∧ RVs K H h ws xs) := by
  cases v with
  | tup us =>
    rw [RV] at rv
    obtain ⟨a, xs, e1, _, ha, rs⟩ := rv
    cases e
    exact .inr ⟨rfl, a, xs, e1, .of ha, rs⟩
  | lst us =>
    rw [RV] at rv
    obtain ⟨a, xs, e1, _, ha, rs⟩ := rv
    cases e
    exact .inl ⟨a, xs, e1, .of ha, rs⟩
  | scr ns =>
    obtain ⟨a, e1, q⟩ := scr_sql rv
    cases e
    exact .inl ⟨a, _, e1, q, RVs.ofInts ns⟩
  | ref a =>
    rw [RV] at rv
    unfold seqOf at e
    dsimp only at e
    split at e
    · rename_i us hw
      cases e
      obtain ⟨xs, e1, rs⟩ := r a _ hw
      exact .inl ⟨a, xs, rv, .of e1, rs⟩
    · cases e
  | _ => cases e
theorem cl_tuple : CaL K fTuple (fun xs H Q => ∃ p ys, xs = [.ref p] ∧ ((SqL K H p ys ∧ ∀ l, H l = none → Q (.ref l) (upd H l (.tup ys))) ∨ (SqT K H p ys ∧ Q (.ref p) H))) := fun vs xs h H Q' Q r rs q c => by
  unfold fTuple at q
  split at q
  · obtain ⟨x, e, rv⟩ := rvs1 rs
    split at q
    · rename_i v ws ew
      rcases sq_inj r rv ew with ⟨a, ys, e3, ha, rss⟩ | ⟨e0, a, ys, e3, ha, rss⟩
      · exact ⟨a, ys, by rw [e, e3], .inl ⟨ha, fun l hl => c.tup r rss hl q⟩⟩
      · subst e0
        refine ⟨a, ys, by rw [e, e3], .inr ⟨ha, ?_⟩⟩
        rw [← e3]
        exact c.val r rv q
    · exact q.elim
  · exact q.elim
@[simp] def fList : FA := fun vs h Q => match vs with
  | [v] => match seqOf v h with
    | some ws => Q (.lst ws) h
    | none => False
  | _ => False
@[simp] def fListH : FA := fun vs h Q => match vs with
  | [v] => match seqOf v h with
    | some ws => ∀ p, h p = none → Q (.ref p) (put h p (.lst ws))
    | none => False
  | _ => False
theorem cl_list : CaL K fList (fun xs H Q => ∃ p ys, xs = [.ref p] ∧ (SqL K H p ys ∨ SqT K H p ys) ∧ ∀ l, H l = none → Q (.ref l) (upd H l (.lst ys))) := fun vs xs h H Q' Q r rs q c => by
  unfold fList at q
  split at q
  · obtain ⟨x, e, rv⟩ := rvs1 rs
    split at q
    · rename_i v ws ew
      obtain ⟨a, ys, e3, s, rss⟩ := seqOf_rel r rv ew
      exact ⟨a, ys, by rw [e, e3], s, fun l hl => c.lst r rss hl q⟩
    · exact q.elim
  · exact q.elim
theorem cl_listH : CaL K fListH (fun xs H Q => ∃ p ys, xs = [.ref p] ∧ (SqL K H p ys ∨ SqT K H p ys) ∧ ∀ l, H l = none → Q (.ref l) (upd H l (.lst ys))) := fun vs xs h H Q' Q r rs q c => by
  unfold fListH at q
  split at q
  · obtain ⟨x, e, rv⟩ := rvs1 rs
    split at q
    · rename_i v ws ew
      obtain ⟨a, ys, e3, s, rss⟩ := seqOf_rel r rv ew
      exact ⟨a, ys, by rw [e, e3], s, fun l hl => c.lstH r rss hl (q l (r.nof hl))⟩
    · exact q.elim
  · exact q.elim
/-! ### isinstance with a builtin class -/
@[simp] def tyN (v : Val) (h : Hv) : Option String := match v with
  | .non => some "NoneType"
  | .bl _ => some "bool"
  | .int _ => some "int"
  | .str _ => some "str"
  | .tup _ => some "tuple"
  | .lst _ => some "list"
  | .scr _ => none
  | .ref a => match h a with
    | some (.lst _) => some "list"
    | some (.dK _) => some "dict"
    | some (.dT _) => some "dict"
    | _ => none
  | .ty _ => none
@[simp] def isT (t T : String) : Bool := t == T || (t == "bool" && T == "int")
theorem kitB_is : (["NoneType", "bool", "int", "str", "tuple", "list", "dict"].all fun t => ["int", "bool", "str", "tuple", "list"].all fun T => kitB t T == some (isT t T)) = true := by decide +kernel
theorem kitB_eq {t T : String} (h1 : t ∈ ["NoneType", "bool", "int", "str", "tuple", "list", "dict"]) (h2 : T ∈ ["int", "bool", "str", "tuple", "list"]) : kitB t T = some (isT t T) := by
  have a := List.all_eq_true.mp kitB_is t h1
  have b := List.all_eq_true.mp a T h2
  exact beq_iff_eq.mp b
theorem tyN_rel {H : Hp} {h : Hv} {v : Val} {x : V} {t : String} (r : RH K H h) (rv : RV K H h v x) (e : tyN v h = some t) : TyX K H x (.type t) ∧ t ∈ ["NoneType", "bool", "int", "str", "tuple", "list", "dict"] := by
  cases v with
  | non => rw [RV] at rv; subst rv; cases e; exact ⟨.base .non, by decide⟩
  | bl b => rw [RV] at rv; subst rv; cases e; exact ⟨.base (.bl b), by decide⟩
  | int b => rw [RV] at rv; subst rv; cases e; exact ⟨.base (.int b), by decide⟩
  | str b => rw [RV] at rv; subst rv; cases e; exact ⟨.base (.str b), by decide⟩
  | tup vs =>
    rw [RV] at rv
    obtain ⟨a, xs, e1, _, ha, rs⟩ := rv
    subst e1; cases e
    exact ⟨.base (.tup ha), by decide⟩
  | lst vs =>
    rw [RV] at rv
    obtain ⟨a, xs, e1, _, ha, rs⟩ := rv
    subst e1; cases e
    exact ⟨.base (.lst ha), by decide⟩
  | scr ns => cases e
  | ref a =>
    rw [RV] at rv
    subst rv
    unfold tyN at e
    dsimp only at e
    split at e
    · rename_i vs hv
      obtain ⟨xs, e1, rs⟩ := r a _ hv
      cases e
      exact ⟨.base (.lst e1), by decide⟩
    · rename_i vs hv
      obtain ⟨xs, e1, rs⟩ := r a _ hv
      cases e
      exact ⟨.base (.dK e1), by decide⟩
    · rename_i vs hv
      obtain ⟨xs, e1, rs⟩ := r a _ hv
      cases e
      exact ⟨.base (.dT e1), by decide⟩
    · cases e
  | ty n => cases e
@[simp] def fIsi : FA := fun vs h Q => match vs with
  | [v, .ty T] => match tyN v h with
    | some t => T ∈ ["int", "bool", "str", "tuple", "list"] ∧ Q (.bl (isT t T)) h
    | none => False
  | _ => False
theorem cl_isi : CaL K fIsi (rIsi K) := fun vs xs h H Q' Q r rs q c => by
  unfold fIsi at q
  split at q
  · rename_i v T
    obtain ⟨x, y, e, rv, rw'⟩ := rvs2 rs
    split at q
    · rename_i t et
      obtain ⟨hT, q⟩ := q
      obtain ⟨ty, ht⟩ := tyN_rel r rv et
      rw [RV] at rw'
      exact ⟨x, y, .type t, .type T, isT t T, e, by rw [rw']; exact .ty T, ty, kit_ty (kitB_eq ht hT), c.val r rv_bl q⟩
    · exact q.elim
  · exact q.elim
end

/-! ### defs -/
abbrev PF := Str → Option Val → Hv → Prop
abbrev SpF := List Val → Hv → PV → PF → Prop
/-- what an exception bears -/
def PLd (K : PySem.W.Frag) (H : Hp) (h : Hv) (d : Option Addr) (pl : Option Val) : Prop := (d = none ∧ pl = none) ∨ ∃ a x v, d = some a ∧ pl = some v ∧ H a = some (.xd [("land", x)]) ∧ h a = none ∧ RV K H h v x
theorem PLd.step {K : PySem.W.Frag} {H H' : Hp} {h h' : Hv} {d : Option Addr} {pl : Option Val} (x : PLd K H h d pl) (s : Step h H h' H') : PLd K H' h' d pl := by
  rcases x with x | ⟨a, x, v, e1, e2, ha, n, rv⟩
  · exact .inl x
  · have z := s.n a _ ha n (fun _ z => nomatch z)
    exact .inr ⟨a, x, v, e1, e2, z.1, z.2, rv.step s⟩
def ContX (K : PySem.W.Frag) (mg : Str → Option Value) (h : Hv) (H : Hp) (E' : PF) (E : XK) : Prop := ∀ nm pl h' cls d H', E' nm pl h' → Step h H h' H' → RH K H' h' → mg nm = some cls → PLd K H' h' d pl → E cls d H'
def spA (K : PySem.W.Frag) (mg : Str → Option Value) (n : Nat) (fs : SpF) : Sp := fun vs H Q E => ∃ as h Q' E', RVs K H h as vs ∧ RH K H h ∧ as.length = n ∧ fs as h Q' E' ∧ Cont K h H Q' Q ∧ ContX K mg h H E' E
/-- what a body wants of an exception -/
def wx (mg : Str → Option Value) (K : PySem.W.Frag) (B : Bs) : WX := fun cls d σ H => ∃ nm pl ρ h, mg nm = some cls ∧ ST K B σ H ρ h ∧ PLd K H h d pl ∧ B.E nm pl ρ h
def TakesB (X : Cx) (B : Bs) : Prop := Takes X (wx X.mg X.K B)
/-- a def that stands under a name, with its promise -/
def Fn (P : Program) (w : World) (K : PySem.W.Frag) (mg : Str → Option Value) (base : Heap) (A : Around) (x : Str) (n : Nat) (fs : SpF) : Prop :=
  ∃ (k : Nat) (f : Addr) (fd : FuncData) (ps : List Str), FnOk P w K mg base (L2.CX P w) k f fd ps (spA K mg n fs) ∧ Room k A ∧ mg x = some (.ref f) ∧ PySem.W.keepIn K (.ref f) = true ∧ Binds K fd ps []
@[simp] def dCall (n : Nat) (fs : SpF) (aa : AD) : ED := fun ρ h Q E => aa ρ h (fun vs h1 => vs.length = n ∧ fs vs h1 Q (fun nm pl h' => E nm pl ρ h')) E
theorem rd_call {K : PySem.W.Frag} {mg : Str → Option Value} {B : Bs} {n : Nat} {fs : SpF} {aa : AD} : ∀ σ H Q, rdE K B (dCall n fs aa) σ H Q → tCallS (spA K mg n fs) (WE (wx mg K B)) (rdA K B aa) σ H Q := fun σ H Q ⟨ρ, h, Q', S, q, C⟩ =>
  ⟨ρ, h, _, S, q, fun vs h1 xs H1 q1 s1 rv1 r1 => ⟨vs, h1, Q', fun nm pl h' => B.E nm pl ρ h', rv1, r1, q1.1, q1.2, C.trans s1, fun nm pl h' cls d H' hE s2 r2 hm pld => ⟨nm, pl, ρ, h', hm, S.step (s1.trans s2) r2, pld, hE⟩⟩⟩
theorem de_call {X : Cx} {B : Bs} {x : Str} {n : Nat} {fs : SpF} {p pos : Pos} {e : Expr} {es : List Expr} {aa : AD} (F : Fn X.prog X.w X.K X.mg X.base X.A x n fs) (tk : TakesB X B) (ha : DA X B (e :: es) aa) (hg : Gl X x := by rfl)
    (hdb : (x == ("__debug__" : Str)) = false := by decide) (he : starEach (e :: es) X.env = (false, eval e X.env) :: starEach es X.env := by rfl) (hpl : (backTo pos (starEach es X.env)).any (·.1) = false := by rfl) :
    DE X B (.Call (.Name x p) (e :: es) [] pos) (dCall n fs aa) := by
  obtain ⟨k, f, fd, ps, G, hr, hm, hk, hb⟩ := F
  exact PEi (pe_callS (E := WE (wx X.mg X.K B)) G hr hg hm hk hb (fun σ => passAt tk σ) ha hdb he hpl) rd_call
theorem de_call0 {X : Cx} {B : Bs} {x : Str} {fs : SpF} {p pos : Pos} (F : Fn X.prog X.w X.K X.mg X.base X.A x 0 fs) (tk : TakesB X B) (hg : Gl X x := by rfl)
    (hdb : (x == ("__debug__" : Str)) = false := by decide) : DE X B (.Call (.Name x p) [] [] pos) (dCall 0 fs aNil) := by
  obtain ⟨k, f, fd, ps, G, hr, hm, hk, hb⟩ := F
  refine ⟨fun pins s σ H Q I h => ?_⟩
  refine wpAny_Call_Name_kw (ld_glob I hg hm ?_ hdb)
  refine PySem.W.callWith_K0 I.kIn hk (run_fnS (us := []) (vs := []) (E := WE (wx X.mg X.K B)) G hr hb (passAt tk σ) I .nil ?_)
  obtain ⟨ρ, h, Q', S, q, C⟩ := h
  exact ⟨[], h, Q', fun nm pl h' => B.E nm pl ρ h', RVs.nil, S.r, rfl, q.2, C, fun nm pl h' cls d H' hE s2 r2 hm pld => ⟨nm, pl, ρ, h', hm, S.step s2 r2, pld, hE⟩⟩
theorem takesF {X : Cx} {h0 : Hv} {H0 : Hp} : TakesB X ⟨fun _ _ _ _ => False, h0, H0⟩ := fun u s' ⟨a, B, sI, pins, σ, H, cls, d, e, I, nb, up, sky, na, os, ag, w⟩ => by
  obtain ⟨_, _, _, _, _, _, _, z⟩ := w
  exact z.elim
end DL
namespace DL
open PySem PySem.Spec PyProof.Rows L2

section
variable {X : Cx} {B : Bs} {st : Stmt} {rest a b : List Stmt} {d d1 d2 : SD} {e : Expr} {de : ED} {pos : Pos} {c : Expr} {tc : TD}
/-! ### blocks -/
@[simp] def sNext : SD := fun ρ h D _ => D.nx ρ h
@[simp] def sSeq (d1 d2 : SD) : SD := fun ρ h D E => d1 ρ h { D with nx := fun ρ' h' => d2 ρ' h' D E } E
theorem dss_nil : DSs X B [] sNext := PSsi pss_nil fun D σ H ⟨ρ, h, D', S, q, C⟩ => C.nx _ _ _ _ q (Step.refl _ _) S
theorem dss_one (hs : DS X B st d) : DSs X B [st] d := pss_one hs
theorem dss_cons (h1 : DS X B st d1) (h2 : DSs X B rest d2) : DSs X B (st :: rest) (sSeq d1 d2) :=
  PSsi (pss_cons h1 h2) fun D σ H ⟨ρ, h, D', S, q, C⟩ => ⟨ρ, h, _, S, q, ⟨fun ρ1 h1 σ1 H1 q1 s1 S1 => ⟨ρ1, h1, D', S1, q1, C.trans s1⟩, C.rt, C.bk, C.ct⟩⟩
theorem ds_pass : DS X B (.Pass pos) sNext := PSi ps_pass fun D σ H ⟨ρ, h, D', S, q, C⟩ => C.nx _ _ _ _ q (Step.refl _ _) S
@[simp] def sBreak : SD := fun ρ h D _ => D.bk ρ h
@[simp] def sCont : SD := fun ρ h D _ => D.ct ρ h
theorem ds_break : DS X B (.Break pos) sBreak := PSi ps_break fun D σ H ⟨ρ, h, D', S, q, C⟩ => C.bk _ _ _ _ q (Step.refl _ _) S
theorem ds_continue : DS X B (.Continue pos) sCont := PSi ps_continue fun D σ H ⟨ρ, h, D', S, q, C⟩ => C.ct _ _ _ _ q (Step.refl _ _) S
@[simp] def sExpr (de : ED) : SD := fun ρ h D E => de ρ h (fun _ h1 => D.nx ρ h1) E
theorem ds_expr (he : DE X B e de) (hs : swapsWith e none pos.line X.env = pure false := by rfl) : DS X B (.Expr e pos) (sExpr de) :=
  PSi (ps_expr he hs) fun D σ H ⟨ρ, h, D', S, q, C⟩ => ⟨ρ, h, _, S, q, fun v h1 x H1 q1 s1 rv1 r1 => C.nx _ _ _ _ q1 s1 (S.step s1 r1)⟩
@[simp] def sRet (de : ED) : SD := fun ρ h D E => de ρ h D.rt E
theorem ds_ret (he : DE X B e de) : DS X B (.Return (some e) pos) (sRet de) :=
  PSi (ps_ret he) fun D σ H ⟨ρ, h, D', S, q, C⟩ => ⟨ρ, h, _, S, q, C.rt⟩
@[simp] def sRetN : SD := fun ρ h D _ => D.rt .non h
theorem ds_retN : DS X B (.Return none pos) sRetN := PSi ps_retN fun D σ H ⟨ρ, h, D', S, q, C⟩ => C.rt _ _ _ _ q (Step.refl _ _) rv_non S.r
@[simp] def sIf (tc : TD) (d1 d2 : SD) : SD := fun ρ h D E => tc ρ h (fun k h1 => if k = true then d1 ρ h1 D E else d2 ρ h1 D E) E
theorem ds_if (hc : DT X B c tc) (ha : DSs X B a d1) (hb : DSs X B b d2) : DS X B (.If c a b pos) (sIf tc d1 d2) :=
  PSi (ps_if hc ha hb) fun D σ H ⟨ρ, h, D', S, q, C⟩ => ⟨ρ, h, _, S, q, fun k h1 H1 q1 s1 r1 => by
    cases k with
    | true => rw [if_pos rfl] at q1 ⊢; exact ⟨ρ, h1, D', S.step s1 r1, q1, C.trans s1⟩
    | false => rw [if_neg Bool.false_ne_true] at q1 ⊢; exact ⟨ρ, h1, D', S.step s1 r1, q1, C.trans s1⟩⟩
@[simp] def sSet (i : Nat) (de : ED) : SD := fun ρ h D E => de ρ h (fun v h1 => D.nx (ρ.set i (some v)) h1) E
theorem rd_set {K : PySem.W.Frag} {i : Nat} : ∀ D σ H, rdS K B (sSet i de) D σ H → tAsg (rdE K B de) (gName i) D σ H := fun D σ H ⟨ρ, h, D', S, q, C⟩ =>
  ⟨ρ, h, _, S, q, fun v h1 x H1 q1 s1 rv1 r1 => C.nx _ _ _ _ q1 s1 ((S.step s1 r1).set i rv1)⟩
theorem ds_set {i : Nat} {x : Str} {pos' : Pos} (hN : X.N.Nodup) (hi : X.N[i]? = some x) (hx : Loc X.env.scope x) (he : DE X B e de) (hs : swapsWith e (some (.Name x pos')) pos.line X.env = pure false := by rfl) (hf : X.fn x = true ∨ X.env.scope.names.lookup x = some .local := by first | exact .inl rfl | exact .inr rfl | assumption) :
    DS X B (.Assign [.Name x pos'] e pos) (sSet i de) := PSi (ps_set hN hi hx he hs hf) rd_set
@[simp] def sAug (i : Nat) (f : F2) (de : ED) : SD := fun ρ h D E => match ρ[i]? with
  | some (some v) => de ρ h (fun w h1 => f v w h1 (fun z h2 => D.nx (ρ.set i (some z)) h2)) E
  | _ => False
theorem ds_augI {i : Nat} {x : Str} {op : Operator} {f : F2} {r : R2} {pos' : Pos} (hN : X.N.Nodup) (hi : X.N[i]? = some x) (hx : Loc X.env.scope x) (he : DE X B e de) (ho : OpR X (inplaceOp op) r) (hl : OpL X.K f r) (hf : X.fn x = true ∨ X.env.scope.names.lookup x = some .local := by first | exact .inl rfl | exact .inr rfl | assumption) :
    DS X B (.AugAssign (.Name x pos') op e pos) (sAug i f de) :=
  PSi (ps_aug (ti := r) hN hi hx he ho hf) fun D σ H ⟨ρ, h, D', S, q, C⟩ => by
    unfold sAug at q
    split at q
    · rename_i v ev
      obtain ⟨x, ex, rx⟩ := S.s.2 i v ev
      refine ⟨x, ex, ρ, h, _, S, q, fun w h1 y H1 q1 s1 rv1 r1 => ?_⟩
      exact hl v w x y h1 H1 _ _ r1 (rx.step s1) rv1 q1 fun z h2 zx H2 q2 s2 rv2 r2 => C.nx _ _ _ _ q2 (s1.trans s2) ((S.step (s1.trans s2) r2).set i rv2)
    · exact q.elim
/-! ### while -/
def whileN (tc : TD) (d : SD) : Nat → Sl → Hv → AE → PX → Prop
  | 0, _, _, _, _ => False
  | n + 1, ρ, h, D, E => tc ρ h (fun k h1 => if k = true then d ρ h1 { D with nx := fun ρ' h' => whileN tc d n ρ' h' D E, ct := fun ρ' h' => whileN tc d n ρ' h' D E, bk := D.nx } E else D.nx ρ h1) E
def sWhile (tc : TD) (d : SD) : SD := fun ρ h D E => ∃ n, whileN tc d n ρ h D E
theorem ds_while (hp : PassesOwn (model X.prog X.w) X.A X.env X.xe) (hc : DT X B c tc) (hb : DSs X B a d) : DS X B (.While c a [] pos) (sWhile tc d) := by
  refine PSi (ps_while hp hc hb) fun D σ H ⟨ρ, h, D', S, ⟨n, q⟩, C⟩ => ?_
  refine ⟨fun m σ1 H1 => ∃ ρ1 h1, ST X.K B σ1 H1 ρ1 h1 ∧ Step h H h1 H1 ∧ whileN tc d m ρ1 h1 D' B.E, ⟨n, ρ, h, S, Step.refl _ _, q⟩, ?_⟩
  rintro m σ1 H1 ⟨ρ1, h1, S1, s1, q1⟩
  cases m with
  | zero => exact q1.elim
  | succ m =>
    refine ⟨ρ1, h1, _, S1, q1, fun k h2 H2 q2 s2 r2 => ?_⟩
    have S2 := S1.step s2 r2
    cases k with
    | false =>
      rw [if_neg Bool.false_ne_true] at q2
      exact iteF (C.nx _ _ _ _ q2 (s1.trans s2) S2)
    | true =>
      rw [if_pos rfl] at q2
      refine iteT ⟨fun σ3 H3 => ∃ ρ3 h3, ST X.K B σ3 H3 ρ3 h3 ∧ Step h H h3 H3 ∧ whileN tc d m ρ3 h3 D' B.E, fun σ3 H3 z => ⟨m, Nat.lt_succ_self m, z⟩, ρ1, h2, _, S2, q2, ?_⟩
      have s12 := s1.trans s2
      exact ⟨fun ρ3 h3 σ3 H3 q3 s3 S3 => ⟨ρ3, h3, S3, s12.trans s3, q3⟩, fun v h3 x H3 q3 s3 => C.rt v h3 x H3 q3 (s12.trans s3), fun ρ3 h3 σ3 H3 q3 s3 S3 => C.nx _ _ _ _ q3 (s12.trans s3) S3, fun ρ3 h3 σ3 H3 q3 s3 S3 => ⟨ρ3, h3, S3, s12.trans s3, q3⟩⟩
end

/-! ### targets -/
inductive Tg where
  | nm (i : Nat) | tp (ts : List Tg)
mutual
@[simp] def bT : Tg → Val → Sl → Option Sl
  | .nm i, v, ρ => some (ρ.set i (some v))
  | .tp ts, .tup vs, ρ => bTs ts vs ρ
  | .tp _, _, _ => none
@[simp] def bTs : List Tg → List Val → Sl → Option Sl
  | [], [], ρ => some ρ
  | t :: ts, v :: vs, ρ => match bT t v ρ with
    | some ρ' => bTs ts vs ρ'
    | none => none
  | _, _, _ => none
end
mutual
def gT (K : PySem.W.Frag) : Tg → TG
  | .nm i => gName i
  | .tp ts => gTup K ts.length (gTs K ts)
def gTs (K : PySem.W.Frag) : List Tg → TGs
  | [] => gNil
  | t :: ts => gCons (gT K t) (gTs K ts)
end
mutual
def slots : Tg → List Nat
  | .nm i => [i]
  | .tp ts => slotsL ts
def slotsL : List Tg → List Nat
  | [] => []
  | t :: ts => slots t ++ slotsL ts
end
theorem wipe_set {σ : L2.St} {i : Nat} {x : Option V} : ∀ {vs : List Nat}, i ∈ vs → wipe (σ.set i x) vs = wipe σ vs
  | v :: vs, h => by
    unfold wipe
    by_cases e : i ∈ vs
    · rw [wipe_set e]
    · have : i = v := by
        rcases List.mem_cons.mp h with z | z
        · exact z
        · exact absurd z e
      subst this
      have aux : ∀ (ws : List Nat) (τ : L2.St), i ∉ ws → wipe (τ.set i x) ws = (wipe τ ws).set i x := by
        intro ws
        induction ws with
        | nil => intro τ _; rfl
        | cons w ws ih =>
          intro τ hw
          unfold wipe
          rw [ih τ (fun z => hw (List.mem_cons_of_mem _ z)), List.set_comm _ _ (fun z => hw (by rw [z]; exact List.mem_cons_self))]
      rw [aux vs σ e, List.set_set]
section
variable {K : PySem.W.Frag} {H : Hp} {h : Hv}
mutual
theorem gT_rel : ∀ {t : Tg} {v : Val} {x : V} {ρ ρ' : Sl} {σ : L2.St}, RV K H h v x → RS K H h ρ σ → bT t v ρ = some ρ' → ∀ Q : L2.St → Hp → Prop, (∀ σ', RS K H h ρ' σ' → (∀ ws, (∀ i ∈ slots t, i ∈ ws) → wipe σ' ws = wipe σ ws) → Q σ' H) → gT K t x σ H Q
  | .nm i, v, x, ρ, ρ', σ, rv, rs, e, Q, k => by
    rw [bT] at e; cases e
    rw [gT]
    exact k _ (rs.set i rv) fun ws hw => wipe_set (hw i (by rw [slots]; exact List.mem_singleton_self _))
  | .tp ts, v, x, ρ, ρ', σ, rv, rs, e, Q, k => by
    cases v with
    | tup vs =>
      rw [bT] at e
      rw [RV] at rv
      obtain ⟨a, xs, e1, n, ha, rss⟩ := rv
      rw [gT]
      refine ⟨a, xs, e1, .of ha, ?_, gTs_rel rss rs e Q fun σ' r' hw => k σ' r' fun ws h1 => hw ws fun i hi => h1 i (by rw [slots]; exact hi)⟩
      rw [← rss.len]
      exact bTs_len e
    | _ => rw [bT] at e; cases e; (try (intros; contradiction))
theorem gTs_rel : ∀ {ts : List Tg} {vs : List Val} {xs : List V} {ρ ρ' : Sl} {σ : L2.St}, RVs K H h vs xs → RS K H h ρ σ → bTs ts vs ρ = some ρ' → ∀ Q : L2.St → Hp → Prop, (∀ σ', RS K H h ρ' σ' → (∀ ws, (∀ i ∈ slotsL ts, i ∈ ws) → wipe σ' ws = wipe σ ws) → Q σ' H) → gTs K ts xs σ H Q
  | [], [], xs, ρ, ρ', σ, rv, rs, e, Q, k => by
    rw [bTs] at e; cases e
    rw [RVs] at rv
    rw [gTs]
    exact ⟨rv, k _ rs fun _ _ => rfl⟩
  | [], _ :: _, xs, ρ, ρ', σ, rv, rs, e, Q, k => by simp at e
  | _ :: _, [], xs, ρ, ρ', σ, rv, rs, e, Q, k => by simp at e
  | t :: ts, v :: vs, xs, ρ, ρ', σ, rv, rs, e, Q, k => by
    rw [bTs] at e
    rw [RVs] at rv
    obtain ⟨y, ys, e1, r1, r2⟩ := rv
    split at e
    · rename_i ρ1 e2
      rw [gTs]
      refine ⟨y, ys, e1, gT_rel r1 rs e2 _ fun σ1 rs1 w1 => gTs_rel r2 rs1 e Q fun σ2 rs2 w2 => k σ2 rs2 fun ws hw => ?_⟩
      rw [w2 ws (fun i hi => hw i (by rw [slotsL]; exact List.mem_append_right _ hi)), w1 ws (fun i hi => hw i (by rw [slotsL]; exact List.mem_append_left _ hi))]
    · cases e
theorem bTs_len : ∀ {ts : List Tg} {vs : List Val} {ρ ρ' : Sl}, bTs ts vs ρ = some ρ' → vs.length = ts.length
  | [], [], _, _, _ => rfl
  | [], _ :: _, _, _, e => by simp at e
  | _ :: _, [], _, _, e => by simp at e
  | t :: ts, v :: vs, ρ, ρ', e => by
    rw [bTs] at e
    split at e
    · rename_i ρ1 e2
      rw [List.length_cons, List.length_cons, bTs_len e]
    · cases e
end
end
section
variable {X : Cx} {B : Bs} {e tg : Expr} {de : ED} {pos : Pos} {t : Tg}
/-- target = value, the target made of names -/
@[simp] def sAsg (t : Tg) (de : ED) : SD := fun ρ h D E => de ρ h (fun v h1 => match bT t v ρ with
  | some ρ' => D.nx ρ' h1
  | none => False) E
theorem ds_asg (he : DE X B e de) (hg : PG X tg (gT X.K t)) (hs : swapsWithSole [tg] e pos.line X.env = pure false := by rfl) (hw : swappedStores [tg] e X.env = pure none := by rfl)
    (h1 : (assignEach [tg] X.env).map (·.2) = [assign tg X.env] := by rfl) : DS X B (.Assign [tg] e pos) (sAsg t de) :=
  PSi (ps_asg he hg hs hw h1) fun D σ H ⟨ρ, h, D', S, q, C⟩ => ⟨ρ, h, _, S, q, fun v h1 x H1 q1 s1 rv1 r1 => by
    have S1 := S.step s1 r1
    split at q1
    · rename_i ρ' e1
      exact gT_rel rv1 S1.s e1 _ fun σ' rs' _ => C.nx _ _ _ _ q1 s1 ⟨rs', r1, S1.b⟩
    · exact q1.elim⟩
/-- a, b = x, y -/
@[simp] def sPar (is : List Nat) (aa : AD) : SD := fun ρ h D E => aa ρ h (fun vs h1 => match bTs (is.map Tg.nm) vs ρ with
  | some ρ' => D.nx ρ' h1
  | none => False) E
theorem ds_par2 {i j : Nat} {x y : Str} {a b : Expr} {aa : AD} {px py pt : Pos} {kt k2 pt2} (hc : X.calm = true) (hN : X.N.Nodup) (hi : X.N[i]? = some x) (hj : X.N[j]? = some y) (hij : i ≠ j)
    (hx : X.env.scope.names.lookup x = some .local) (hy : X.env.scope.names.lookup y = some .local) (ha : DA X B [a, b] aa)
    (hw : swappedStores [.Tuple [.Name x px, .Name y py] kt pt] (.Tuple [a, b] k2 pt2) X.env = pure (some [x, y]) := by rfl)
    (hs : swapsWithSole [.Tuple [.Name x px, .Name y py] kt pt] (.Tuple [a, b] k2 pt2) pos.line X.env = pure false := by rfl) :
    DS X B (.Assign [.Tuple [.Name x px, .Name y py] kt pt] (.Tuple [a, b] k2 pt2) pos) (sPar [i, j] aa) :=
  PSi (ps_par hc hN hi hj hij hx hy ha hw hs) fun D σ H ⟨ρ, h, D', S, q, C⟩ => ⟨ρ, h, _, S, q, fun vs h1 xs H1 q1 s1 rv1 r1 => by
    have S1 := S.step s1 r1
    match vs, q1 with
    | [v, w], q1 =>
      obtain ⟨x, y, e, rx, ry⟩ := rvs2 rv1
      exact ⟨x, y, e, C.nx _ _ _ _ q1 s1 ((S1.set i rx).set j ry)⟩
    | [], q1 => exact q1.elim
    | [_], q1 => exact q1.elim
    | _ :: _ :: _ :: _, q1 => exact q1.elim⟩
theorem ds_par3 {i j l : Nat} {x y z : Str} {a b c : Expr} {aa : AD} {px py pz pt : Pos} {kt k2 pt2} (hc : X.calm = true) (hN : X.N.Nodup) (hi : X.N[i]? = some x) (hj : X.N[j]? = some y) (hl : X.N[l]? = some z) (hij : i ≠ j) (hil : i ≠ l) (hjl : j ≠ l)
    (hx : X.env.scope.names.lookup x = some .local) (hy : X.env.scope.names.lookup y = some .local) (hz : X.env.scope.names.lookup z = some .local) (ha : DA X B [a, b, c] aa)
    (hw : swappedStores [.Tuple [.Name x px, .Name y py, .Name z pz] kt pt] (.Tuple [a, b, c] k2 pt2) X.env = pure (some [x, y, z]) := by rfl)
    (hs : swapsWithSole [.Tuple [.Name x px, .Name y py, .Name z pz] kt pt] (.Tuple [a, b, c] k2 pt2) pos.line X.env = pure false := by rfl) :
    DS X B (.Assign [.Tuple [.Name x px, .Name y py, .Name z pz] kt pt] (.Tuple [a, b, c] k2 pt2) pos) (sPar [i, j, l] aa) :=
  PSi (ps_par3 hc hN hi hj hl hij hil hjl hx hy hz ha hw hs) fun D σ H ⟨ρ, h, D', S, q, C⟩ => ⟨ρ, h, _, S, q, fun vs h1 xs H1 q1 s1 rv1 r1 => by
    have S1 := S.step s1 r1
    match vs, q1 with
    | [v, w, u], q1 =>
      rw [RVs] at rv1
      obtain ⟨x, xr, e1, rx, rr⟩ := rv1
      obtain ⟨y, z, e, ry, rz⟩ := rvs2 rr
      subst e
      exact ⟨x, y, z, e1, C.nx _ _ _ _ q1 s1 (((S1.set i rx).set j ry).set l rz)⟩
    | [], q1 => exact q1.elim
    | [_], q1 => exact q1.elim
    | [_, _], q1 => exact q1.elim
    | _ :: _ :: _ :: _ :: _, q1 => exact q1.elim⟩
end
end DL
namespace DL
open PySem PySem.Spec PyProof.Rows L2

/-! ### what is walked -/
structure Itr where
  items : List Val
  ok : Hv → Prop
abbrev ID := Sl → Hv → (Itr → Hv → Prop) → PX → Prop
def ItRel (K : PySem.W.Frag) (it : Itr) (J : It) (h : Hv) (H : Hp) : Prop := ∀ h2 H2, StepN h H h2 H2 → RH K H2 h2 → it.ok h2 →
  (∀ (i : Nat) v, it.items[i]? = some v → J.go i H2 ∧ ∀ x H3, J.yld i H2 x H3 → Step h2 H2 h2 H3 ∧ RH K H3 h2 ∧ RV K H3 h2 v x) ∧ J.stop it.items.length H2
def rdI (K : PySem.W.Frag) (B : Bs) (di : ID) : TI := fun σ H R => ∃ ρ h Q', ST K B σ H ρ h ∧ di ρ h Q' B.E ∧ ∀ it h' H' J, Q' it h' → Step h H h' H' → RH K H' h' → ItRel K it J h' H' → R J H'
abbrev DI (X : Cx) (B : Bs) (tg iter : Expr) (di : ID) : Prop := PI X tg iter (rdI X.K B di)
theorem PIi {X : Cx} {tg e : Expr} {t t' : TI} (p : PI X tg e t) (i : ∀ σ H Q, t' σ H Q → t σ H Q) : PI X tg e t' := ⟨fun pins s σ H Q I q => p.run pins s σ H Q I (i σ H Q q)⟩

def iAny (K : PySem.W.Frag) (tl : TE) : TI := fun σ H R => tl σ H fun x H1 => (∃ a, x = .ref a ∧ (∃ xs, SqL K H1 a xs) ∧ R (Itl K a) H1) ∨ (∃ a, x = .ref a ∧ (∃ xs, SqT K H1 a xs) ∧ R (Itt K a) H1) ∨ ∃ z, x = .str z ∧ R (Its z) H1
theorem pi_any {X : Cx} {tg l : Expr} {tl : TE} (hl : PE X l tl) : PI X tg l (iAny X.K tl) := by
  refine ⟨fun pins s σ H R I h => ?_⟩
  refine thn (hl.run pins s σ H _ I h) fun v s1 ⟨x, H1, I1, r1, q1⟩ => ?_
  rcases q1 with ⟨a, e, ⟨xs, hq⟩, q⟩ | ⟨a, e, ⟨xs, hq⟩, q⟩ | ⟨z, e, q⟩
  · subst e
    cases r1
    obtain ⟨its, rv, p, hz⟩ := I1.list hq
    refine wpAny_pyIter_list p.isList ?_
    refine ⟨s1.heap.objs.size, [s1.heap.objs.size], _, _, H1, rfl, I1.kept (t' := s1.toks) fun b o e => Heap.get?_push_of_some _ e, turn_list a _, ⟨_, Heap.get?_push_size _ rfl, rfl, rfl⟩, fun b hb => ?_, q⟩
    have e : b = s1.heap.objs.size := by simpa using hb
    subst e
    exact I1.fpOk (Nat.le_refl _) (I1.hok.fresh (Nat.le_refl _))
  · subst e
    cases r1
    obtain ⟨its, rv, p, hz⟩ := I1.tuple hq
    refine wpAny_pyIter_tuple (show s1.heap.IsTuple a its.toArray from p) ?_
    refine ⟨s1.heap.objs.size, [s1.heap.objs.size], _, _, H1, rfl, I1.kept (t' := s1.toks) fun b o e => Heap.get?_push_of_some _ e, turn_tuple a _, ⟨_, Heap.get?_push_size _ rfl, rfl, rfl⟩, fun b hb => ?_, q⟩
    have e : b = s1.heap.objs.size := by simpa using hb
    subst e
    exact I1.fpOk (Nat.le_refl _) (I1.hok.fresh (Nat.le_refl _))
  · subst e
    obtain ⟨t, rfl⟩ := r1
    cases ha : z.cps.all (· < 128)
    · exact wpAny_pyIter_wide ha (pi_one (tk := s1.toks) I1 _ (turn_str _ z t "str_iterator" (.inr rfl)) ⟨_, Heap.get?_push_size _ rfl, rfl, rfl⟩ q)
    · exact wpAny_pyIter_ascii ha (pi_one (tk := s1.toks) I1 _ (turn_str _ z t "str_ascii_iterator" (.inl rfl)) ⟨_, Heap.get?_push_size _ rfl, rfl, rfl⟩ q)

section
variable {K : PySem.W.Frag}
theorem itl_rel {h : Hv} {H : Hp} {a : Addr} {vs : List Val} {ok : Hv → Prop} (e : ∀ h2 H2, StepN h H h2 H2 → RH K H2 h2 → ok h2 → ∃ xs, SqL K H2 a xs ∧ RVs K H2 h2 vs xs) : ItRel K ⟨vs, ok⟩ (Itl K a) h H := fun h2 H2 s2 r2 o2 => by
  obtain ⟨xs, hq, rs⟩ := e h2 H2 s2 r2 o2
  refine ⟨fun i v hv => ?_, xs, hq, by rw [rs.len]; exact Nat.le_refl _⟩
  obtain ⟨x, ex, rx⟩ := rs.get hv
  refine ⟨⟨xs, x, hq, ex⟩, fun y H3 hy => ?_⟩
  obtain ⟨e3, hy⟩ := hy
  subst e3
  have := hy xs hq
  rw [ex] at this
  cases this
  exact ⟨Step.refl _ _, r2, rx⟩
theorem itt_rel {h : Hv} {H : Hp} {a : Addr} {vs : List Val} {ok : Hv → Prop} (e : ∀ h2 H2, StepN h H h2 H2 → RH K H2 h2 → ok h2 → ∃ xs, SqT K H2 a xs ∧ RVs K H2 h2 vs xs) : ItRel K ⟨vs, ok⟩ (Itt K a) h H := fun h2 H2 s2 r2 o2 => by
  obtain ⟨xs, hq, rs⟩ := e h2 H2 s2 r2 o2
  refine ⟨fun i v hv => ?_, xs, hq, by rw [rs.len]; exact Nat.le_refl _⟩
  obtain ⟨x, ex, rx⟩ := rs.get hv
  refine ⟨⟨xs, x, hq, ex⟩, fun y H3 hy => ?_⟩
  obtain ⟨e3, hy⟩ := hy
  subst e3
  have := hy xs hq
  rw [ex] at this
  cases this
  exact ⟨Step.refl _ _, r2, rx⟩
theorem its_rel {h : Hv} {H : Hp} {z : Str} {ok : Hv → Prop} : ItRel K ⟨z.cps.toList.map fun c => Val.str ⟨#[c]⟩, ok⟩ (Its z) h H := fun h2 H2 s2 r2 o2 => by
  refine ⟨fun i v hv => ?_, by show z.cps.size ≤ _; simp⟩
  simp only [List.getElem?_map, Option.map_eq_some_iff] at hv
  obtain ⟨c, hc, e⟩ := hv
  have hc' : z.cps[i]? = some c := by simpa using hc
  refine ⟨(Array.getElem?_eq_some_iff.mp hc').1, fun y H3 hy => ?_⟩
  obtain ⟨e3, c', hc2, ey⟩ := hy
  rw [hc'] at hc2
  cases hc2
  subst e3 e ey
  exact ⟨Step.refl _ _, r2, rv_str⟩
theorem itr_rel {h : Hv} {H : Hp} {lo : Int} {n : Nat} {ok : Hv → Prop} : ItRel K ⟨(List.range n).map fun i => Val.int (lo + (i : Nat)), ok⟩ (L2.Itr lo n) h H := fun h2 H2 s2 r2 o2 => by
  refine ⟨fun i v hv => ?_, by show n ≤ _; simp⟩
  simp only [List.getElem?_map, Option.map_eq_some_iff] at hv
  obtain ⟨c, hc, e⟩ := hv
  have hi : i < n := by
    have := (List.getElem?_eq_some_iff.mp hc).1
    simpa using this
  have : c = i := by
    have := (List.getElem?_eq_some_iff.mp hc).2
    simpa using this.symm
  subst this
  refine ⟨hi, fun y H3 hy => ?_⟩
  obtain ⟨e3, ey⟩ := hy
  subst e3 e ey
  exact ⟨Step.refl _ _, r2, rv_int⟩
end
section
variable {X : Cx} {B : Bs} {e e2 tg : Expr} {de : ED} {pos p : Pos} {aa : AD}
@[simp] def iterOf (v : Val) (h : Hv) : Option Itr := match v with
  | .tup vs => some ⟨vs, fun _ => True⟩
  | .lst vs => some ⟨vs, fun _ => True⟩
  | .str z => some ⟨z.cps.toList.map fun c => Val.str ⟨#[c]⟩, fun _ => True⟩
  | .ref a => match h a with
    | some (.lst vs) => some ⟨vs, fun h' => h' a = some (.lst vs)⟩
    | _ => none
  | _ => none
@[simp] def dIt (de : ED) : ID := fun ρ h Q E => de ρ h (fun v h1 => match iterOf v h1 with
  | some it => Q it h1
  | none => False) E
theorem di_any (he : DE X B e de) : DI X B tg e (dIt de) :=
  PIi (pi_any he) fun σ H R ⟨ρ, h, Q', S, q, C⟩ => ⟨ρ, h, _, S, q, fun v h1 x H1 q1 s1 rv1 r1 => by
    split at q1
    · rename_i it ei
      have fin : ∀ J, ItRel X.K it J h1 H1 → R J H1 := fun J hJ => C it h1 H1 J q1 s1 r1 hJ
      cases v with
      | tup vs =>
        rw [RV] at rv1
        obtain ⟨a, xs, e1, n, ha, rs⟩ := rv1
        cases ei
        exact .inr (.inl ⟨a, e1, ⟨xs, .of ha⟩, fin _ (itt_rel fun h2 H2 s2 r2 _ => ⟨xs, .of (s2 a _ ha n nt_tup).1, rs.stepN s2⟩)⟩)
      | lst vs =>
        rw [RV] at rv1
        obtain ⟨a, xs, e1, n, ha, rs⟩ := rv1
        cases ei
        exact .inl ⟨a, e1, ⟨xs, .of ha⟩, fin _ (itl_rel fun h2 H2 s2 r2 _ => ⟨xs, .of (s2 a _ ha n nt_lst).1, rs.stepN s2⟩)⟩
      | str z =>
        rw [RV] at rv1
        cases ei
        exact .inr (.inr ⟨z, rv1, fin _ its_rel⟩)
      | ref a =>
        rw [RV] at rv1
        unfold iterOf at ei
        dsimp only at ei
        split at ei
        · rename_i vs hv
          cases ei
          obtain ⟨xs, e1, rs⟩ := r1 a _ hv
          exact .inl ⟨a, rv1, ⟨xs, .of e1⟩, fin _ (itl_rel fun h2 H2 s2 r2 o2 => by
            obtain ⟨xs2, e2, rs2⟩ := r2 a _ o2
            exact ⟨xs2, .of e2, rs2⟩)⟩
        · cases ei
      | _ => cases ei
    · exact q1.elim⟩
@[simp] def dRange1 (aa : AD) : ID := fun ρ h Q E => aa ρ h (fun vs h1 => match vs with
  | [.int j] => -(2 ^ 62) ≤ j ∧ j < 2 ^ 62 ∧ Q ⟨(List.range j.toNat).map fun i => Val.int (0 + (i : Nat)), fun _ => True⟩ h1
  | _ => False) E
@[simp] def dRange2 (aa : AD) : ID := fun ρ h Q E => aa ρ h (fun vs h1 => match vs with
  | [.int i, .int j] => (-(2 ^ 62) ≤ i ∧ i < 2 ^ 62 ∧ -(2 ^ 62) ≤ j ∧ j < 2 ^ 62) ∧ Q ⟨(List.range (j - i).toNat).map fun k => Val.int (i + (k : Nat)), fun _ => True⟩ h1
  | _ => False) E
theorem di_range1 (hg : Gl X "range") (hm : X.mg "range" = none) (ha : DA X B [e] aa) (hs : starEach [e] X.env = [(false, eval e X.env)] := by rfl) : DI X B tg (.Call (.Name "range" p) [e] [] pos) (dRange1 aa) :=
  PIi (pi_range1 hg hm ha hs) fun σ H R ⟨ρ, h, Q', S, q, C⟩ => ⟨ρ, h, _, S, q, fun vs h1 xs H1 q1 s1 rv1 r1 => by
    split at q1
    · rename_i j
      obtain ⟨x, e1, rx⟩ := rvs1 rv1
      rw [RV] at rx
      subst rx
      exact ⟨j, e1, q1.1, q1.2.1, C _ h1 H1 _ q1.2.2 s1 r1 itr_rel⟩
    · exact q1.elim⟩
theorem di_range2 (hg : Gl X "range") (hm : X.mg "range" = none) (ha : DA X B [e, e2] aa) (hs : starEach [e, e2] X.env = [(false, eval e X.env), (false, eval e2 X.env)] := by rfl) (hs2 : starEach [e2] X.env = [(false, eval e2 X.env)] := by rfl) : DI X B tg (.Call (.Name "range" p) [e, e2] [] pos) (dRange2 aa) :=
  PIi (pi_range2 hg hm ha hs hs2) fun σ H R ⟨ρ, h, Q', S, q, C⟩ => ⟨ρ, h, _, S, q, fun vs h1 xs H1 q1 s1 rv1 r1 => by
    split at q1
    · rename_i i j
      obtain ⟨x, y, e1, rx, ry⟩ := rvs2 rv1
      rw [RV] at rx ry
      subst rx; subst ry
      exact ⟨i, j, e1, q1.1, C _ h1 H1 _ q1.2 s1 r1 itr_rel⟩
    · exact q1.elim⟩
/-- zip of two lists or two tuples -/
@[simp] def zipOf (v w : Val) (h : Hv) : Option Itr := match v, w with
  | .tup xs, .tup ys => some ⟨(xs.zip ys).map fun p => Val.tup [p.1, p.2], fun _ => True⟩
  | .lst xs, .lst ys => some ⟨(xs.zip ys).map fun p => Val.tup [p.1, p.2], fun _ => True⟩
  | _, _ => none
@[simp] def dZip (aa : AD) : ID := fun ρ h Q E => aa ρ h (fun vs h1 => match vs with
  | [v, w] => (match zipOf v w h1 with
    | some it => Q it h1
    | none => False)
  | _ => False) E
theorem pair_rel {K : PySem.W.Frag} {h2 : Hv} {H2 : Hp} {T : Addr} {v w : Val} {x y : V} (r2 : RH K H2 h2) (rx : RV K H2 h2 v x) (ry : RV K H2 h2 w y) (nT : H2 T = none) :
    Step h2 H2 h2 (upd H2 T (.tup [x, y])) ∧ RH K (upd H2 T (.tup [x, y])) h2 ∧ RV K (upd H2 T (.tup [x, y])) h2 (.tup [v, w]) (.ref T) := by
  refine ⟨Step.fresh nT, r2.fresh nT, ?_⟩
  rw [RV]
  exact ⟨T, _, rfl, r2.nof nT, upd_same, RVs.cons (rx.step (Step.fresh nT)) (RVs.cons (ry.step (Step.fresh nT)) RVs.nil)⟩
theorem zip_get {xs ys : List Val} {i : Nat} {v : Val} (h : ((xs.zip ys).map fun p => Val.tup [p.1, p.2])[i]? = some v) : ∃ a b, xs[i]? = some a ∧ ys[i]? = some b ∧ v = .tup [a, b] := by
  rw [List.getElem?_map, Option.map_eq_some_iff] at h
  obtain ⟨⟨a, b⟩, h1, h2⟩ := h
  rw [List.getElem?_zip_eq_some] at h1
  exact ⟨a, b, h1.1, h1.2, h2.symm⟩
theorem itz_rel {K : PySem.W.Frag} {h : Hv} {H : Hp} {a b : Addr} {vs ws : List Val} {ok : Hv → Prop} (e : ∀ h2 H2, StepN h H h2 H2 → RH K H2 h2 → ok h2 → ∃ xs ys, SqL K H2 a xs ∧ RVs K H2 h2 vs xs ∧ SqL K H2 b ys ∧ RVs K H2 h2 ws ys) :
    ItRel K ⟨(vs.zip ws).map fun p => Val.tup [p.1, p.2], ok⟩ (Itz K a b) h H := fun h2 H2 s2 r2 o2 => by
  obtain ⟨xs, ys, hq, rs, hq2, rs2⟩ := e h2 H2 s2 r2 o2
  refine ⟨fun i v hv => ?_, xs, ys, hq, hq2, ?_⟩
  · obtain ⟨v1, v2, e1, e2, ev⟩ := zip_get hv
    obtain ⟨x, ex, rx⟩ := rs.get e1
    obtain ⟨y, ey, ry⟩ := rs2.get e2
    refine ⟨⟨xs, ys, x, y, hq, hq2, ex, ey⟩, fun z H3 hz => ?_⟩
    obtain ⟨T, x', y', ez, nT, eH, hx, hy⟩ := hz
    have := hx xs hq
    rw [ex] at this
    cases this
    have := hy ys hq2
    rw [ey] at this
    cases this
    subst ez eH ev
    exact pair_rel r2 rx ry nT
  · simp only [List.length_map, List.length_zip]
    rw [rs.len, rs2.len]
    omega
theorem itzT_rel {K : PySem.W.Frag} {h : Hv} {H : Hp} {a b : Addr} {vs ws : List Val} {ok : Hv → Prop} (e : ∀ h2 H2, StepN h H h2 H2 → RH K H2 h2 → ok h2 → ∃ xs ys, SqT K H2 a xs ∧ RVs K H2 h2 vs xs ∧ SqT K H2 b ys ∧ RVs K H2 h2 ws ys) :
    ItRel K ⟨(vs.zip ws).map fun p => Val.tup [p.1, p.2], ok⟩ (RZ.ItzT K a b) h H := fun h2 H2 s2 r2 o2 => by
  obtain ⟨xs, ys, hq, rs, hq2, rs2⟩ := e h2 H2 s2 r2 o2
  refine ⟨fun i v hv => ?_, xs, ys, hq, hq2, ?_⟩
  · obtain ⟨v1, v2, e1, e2, ev⟩ := zip_get hv
    obtain ⟨x, ex, rx⟩ := rs.get e1
    obtain ⟨y, ey, ry⟩ := rs2.get e2
    refine ⟨⟨xs, ys, x, y, hq, hq2, ex, ey⟩, fun z H3 hz => ?_⟩
    obtain ⟨T, x', y', ez, nT, eH, hx, hy⟩ := hz
    have := hx xs hq
    rw [ex] at this
    cases this
    have := hy ys hq2
    rw [ey] at this
    cases this
    subst ez eH ev
    exact pair_rel r2 rx ry nT
  · simp only [List.length_map, List.length_zip]
    rw [rs.len, rs2.len]
    omega
theorem di_zip {elts : List Expr} {kk : Nat} {tpos : Pos} (hg : Gl X "zip") (hm : X.mg "zip" = none) (ha : DA X B [e, e2] aa) (hs : starEach [e, e2] X.env = (false, eval e X.env) :: starEach [e2] X.env := by rfl) (hpl : (backTo pos (starEach [e2] X.env)).any (·.1) = false := by rfl) :
    DI X B (.Tuple elts kk tpos) (.Call (.Name "zip" p) [e, e2] [] pos) (dZip aa) :=
  PIi (RZ.pi_zipA hg hm ha hs hpl) fun σ H R ⟨ρ, h, Q', S, q, C⟩ => ⟨ρ, h, _, S, q, fun vs h1 xs H1 q1 s1 rv1 r1 => by
    split at q1
    · rename_i v w
      obtain ⟨x, y, e1, rx, ry⟩ := rvs2 rv1
      split at q1
      · rename_i it ei
        unfold zipOf at ei
        split at ei
        · cases ei
          rw [RV] at rx ry
          obtain ⟨a, us, ea, na, ha, ra⟩ := rx
          obtain ⟨b, ws, eb, nb, hb, rb⟩ := ry
          exact ⟨a, b, us, ws, by rw [e1, ea, eb], .inr ⟨.of ha, .of hb, C _ h1 H1 _ q1 s1 r1 (itzT_rel fun h2 H2 s2 r2 _ => ⟨us, ws, .of (s2 a _ ha na nt_tup).1, ra.stepN s2, .of (s2 b _ hb nb nt_tup).1, rb.stepN s2⟩)⟩⟩
        · cases ei
          rw [RV] at rx ry
          obtain ⟨a, us, ea, na, ha, ra⟩ := rx
          obtain ⟨b, ws, eb, nb, hb, rb⟩ := ry
          exact ⟨a, b, us, ws, by rw [e1, ea, eb], .inl ⟨.of ha, .of hb, C _ h1 H1 _ q1 s1 r1 (itz_rel fun h2 H2 s2 r2 _ => ⟨us, ws, .of (s2 a _ ha na nt_lst).1, ra.stepN s2, .of (s2 b _ hb nb nt_lst).1, rb.stepN s2⟩)⟩⟩
        · cases ei
      · exact q1.elim
    · exact q1.elim⟩

/-! ### for -/
def forL (ok : Hv → Prop) (t : Tg) (d : SD) : List Val → Sl → Hv → AE → PX → Prop
  | [], ρ, h, D, _ => ok h ∧ D.nx ρ h
  | v :: vs, ρ, h, D, E => ok h ∧ match bT t v ρ with
    | some ρ' => d ρ' h { D with nx := fun ρ h => forL ok t d vs ρ h D E, ct := fun ρ h => forL ok t d vs ρ h D E, bk := D.nx } E
    | none => False
@[simp] def sFor (di : ID) (t : Tg) (d : SD) : SD := fun ρ h D E => di ρ h (fun it h1 => forL it.ok t d it.items ρ h1 D E) E
theorem ds_for {iter : Expr} {body : List Stmt} {di : ID} {t : Tg} {d : SD} (hp : PassesOwn (model X.prog X.w) X.A X.env X.xe) (hc : X.calm = true) (hi : DI X B tg iter di) (hg : PG X tg (gT X.K t)) (hb : DSs X B body d)
    (hs : ∀ x, foldedSetIterable iter X.env x = pure x := by intro _; rfl) : DS X B (.For tg iter body [] pos) (sFor di t d) := by
  refine PSi (ps_for hp hc hi hg hb hs) fun D σ H ⟨ρ, h, D', S, q, C⟩ => ?_
  refine ⟨ρ, h, _, S, q, fun it h1 H1 J q1 s1 r1 hJ => ?_⟩
  have S1 := S.step s1 r1
  refine ⟨fun i m σ2 H2 => ∃ ρ2 h2, i + m = it.items.length ∧ ST X.K B σ2 H2 ρ2 h2 ∧ Step h1 H1 h2 H2 ∧ forL it.ok t d (it.items.drop i) ρ2 h2 D' B.E, ⟨it.items.length, ρ, h1, by omega, S1, Step.refl _ _, q1⟩, ?_⟩
  rintro i m σ2 H2 ⟨ρ2, h2, em, S2, s2, q2⟩
  cases hd : it.items.drop i with
  | nil =>
    rw [hd] at q2
    have hi : it.items.length ≤ i := List.drop_eq_nil_iff.mp hd
    have ei : i = it.items.length := by omega
    subst ei
    exact .inl ⟨(hJ h2 H2 s2.n S2.r q2.1).2, C.nx _ _ _ _ q2.2 (s1.trans s2) S2⟩
  | cons v vs =>
    rw [hd] at q2
    have hi : i < it.items.length := by
      apply Nat.lt_of_not_le
      intro hh
      rw [List.drop_eq_nil_iff.mpr hh] at hd
      cases hd
    have hv : it.items[i]? = some v := by
      have := congrArg (·[0]?) hd
      simpa using this
    have hdr : it.items.drop (i + 1) = vs := by
      rw [← List.drop_drop, hd] <;> rfl
    obtain ⟨ok2, q2⟩ := q2
    obtain ⟨go, yl⟩ := (hJ h2 H2 s2.n S2.r ok2).1 i v hv
    refine .inr ⟨go, fun σ3 H3 => ∃ ρ3 h3, ST X.K B σ3 H3 ρ3 h3 ∧ Step h1 H1 h3 H3 ∧ forL it.ok t d vs ρ3 h3 D' B.E, fun σ3 H3 ⟨ρ3, h3, S3, s3, q3⟩ => ⟨m - 1, by omega, ρ3, h3, by omega, S3, s3, by rw [hdr]; exact q3⟩, fun x H3 hy => ?_⟩
    obtain ⟨s3, r3, rv3⟩ := yl x H3 hy
    have S3 := S2.step s3 r3
    split at q2
    · rename_i ρ' eρ
      refine gT_rel rv3 S3.s eρ _ fun σ' rs' _ => ?_
      have s13 := s2.trans s3
      exact ⟨ρ', h2, _, ⟨rs', r3, S3.b⟩, q2, ⟨fun ρ4 h4 σ4 H4 q4 s4 S4 => ⟨ρ4, h4, S4, s13.trans s4, q4⟩, fun v h4 x H4 q4 s4 => C.rt v h4 x H4 q4 (s1.trans (s13.trans s4)), fun ρ4 h4 σ4 H4 q4 s4 S4 => C.nx _ _ _ _ q4 (s1.trans (s13.trans s4)) S4, fun ρ4 h4 σ4 H4 q4 s4 S4 => ⟨ρ4, h4, S4, s13.trans s4, q4⟩⟩⟩
    · exact q2.elim
end
end DL
namespace DL
open PySem PySem.Spec PyProof.Rows L2

/-! ### list comprehensions -/
abbrev EF : PX := fun _ _ _ _ => False
abbrev Bs.blk (B : Bs) : Bs := ⟨EF, B.h0, B.H0⟩
theorem ST.blk {K : PySem.W.Frag} {B : Bs} {σ : L2.St} {H : Hp} {ρ : Sl} {h : Hv} (x : ST K B σ H ρ h) : ST K B.blk σ H ρ h := ⟨x.s, x.r, x.b⟩
@[simp] def wipeA (ρ : Sl) : List Nat → Sl
  | [] => ρ
  | v :: vs => (wipeA ρ vs).set v none
theorem RS.setN {K : PySem.W.Frag} {H : Hp} {h : Hv} {ρ : Sl} {σ : L2.St} (r : RS K H h ρ σ) (i : Nat) : RS K H h (ρ.set i none) (σ.set i none) := by
  refine ⟨by rw [List.length_set, List.length_set]; exact r.1, fun j w e => ?_⟩
  by_cases hj : i = j
  · subst hj
    by_cases hi : i < ρ.length
    · rw [List.getElem?_set_self hi] at e
      cases e
    · rw [List.getElem?_eq_none (by simpa using hi)] at e
      cases e
  · rw [List.getElem?_set_ne hj] at e ⊢
    exact r.2 j w e
theorem RS.wipe {K : PySem.W.Frag} {H : Hp} {h : Hv} {ρ : Sl} {σ : L2.St} (r : RS K H h ρ σ) : ∀ vs : List Nat, RS K H h (wipeA ρ vs) (L2.wipe σ vs)
  | [] => r
  | v :: vs => (RS.wipe r vs).setN v
theorem wipe_sub {σ : L2.St} {vs : List Nat} : ∀ us : List Nat, (∀ i ∈ us, i ∈ vs) → L2.wipe (L2.wipe σ us) vs = L2.wipe σ vs
  | [], _ => rfl
  | u :: us, h => by
    rw [show L2.wipe σ (u :: us) = (L2.wipe σ us).set u none from rfl, wipe_set (h u List.mem_cons_self)]
    exact wipe_sub us fun i hi => h i (List.mem_cons_of_mem _ hi)
theorem wipe_wipe (σ : L2.St) (vs : List Nat) : L2.wipe (L2.wipe σ vs) vs = L2.wipe σ vs := wipe_sub vs fun _ h => h
def lcL (ok : Hv → Prop) (t : Tg) (tt : TD) (te : ED) (ρw : Sl) : List Val → List Val → Hv → (List Val → Hv → Prop) → Prop
  | [], acc, h, Q => ok h ∧ Q acc h
  | v :: vs, acc, h, Q => ok h ∧ match bT t v ρw with
    | some ρ' => tt ρ' h (fun b h1 => if b = true then te ρ' h1 (fun y h2 => acc.length < sizeLine ∧ lcL ok t tt te ρw vs (acc ++ [y]) h2 Q) EF else lcL ok t tt te ρw vs acc h1 Q) EF
    | none => False
@[simp] def tTrue : TD := fun _ h Q _ => Q true h
/-- the list is data -/
def dLc (di : ID) (t : Tg) (tt : TD) (te : ED) (vs : List Nat) : ED := fun ρ h Q E => di ρ h (fun it h1 => ∀ D, h1 D = none → lcL it.ok t tt te (wipeA ρ vs) it.items [] (put h1 D .busy) (fun acc h2 => Q (.lst acc) (drop h2 D))) E
/-- the list is the abstract heap's -/
def dLcH (di : ID) (t : Tg) (tt : TD) (te : ED) (vs : List Nat) : ED := fun ρ h Q E => di ρ h (fun it h1 => ∀ D, h1 D = none → lcL it.ok t tt te (wipeA ρ vs) it.items [] (put h1 D .busy) (fun acc h2 => Q (.ref D) (put h2 D (.lst acc)))) E
theorem rd_lc {K : PySem.W.Frag} {B : Bs} {di : ID} {t : Tg} {tt : TD} {te : ED} {vs : List Nat} {d : ED} {heap : Bool} (hd : d = if heap = true then dLcH di t tt te vs else dLc di t tt te vs) (hsl : ∀ i ∈ slots t, i ∈ vs) :
    ∀ σ H Q, rdE K B d σ H Q → tLc (rdI K B di) (gT K t) (rdT K B.blk tt) (rdE K B.blk te) vs σ H Q := by
  rintro σ H Q ⟨ρ, h, Q', S, q, C⟩
  have q : di ρ h (fun it h1 => ∀ D, h1 D = none → lcL it.ok t tt te (wipeA ρ vs) it.items [] (put h1 D .busy) (fun acc h2 => if heap = true then Q' (.ref D) (put h2 D (.lst acc)) else Q' (.lst acc) (drop h2 D))) B.E := by
    rw [hd] at q
    cases heap <;> exact q
  refine ⟨ρ, h, _, S, q, fun it h1 H1 J q1 s1 r1 hJ D nD => ?_⟩
  have S1 := S.step s1 r1
  have nd : h1 D = none := r1.nof nD
  have sN : Step h1 H1 (put h1 D .busy) (upd H1 D (.lst [])) := Step.new nD
  have rN : RH K (upd H1 D (.lst [])) (put h1 D .busy) := r1.new nD ⟨_, upd_same, .inl ⟨_, rfl⟩⟩
  refine ⟨fun i m H2 => ∃ acc xs h2, i + m = it.items.length ∧ RH K H2 h2 ∧ Step h1 H1 h2 H2 ∧ h2 D = some .busy ∧ H2 D = some (.lst xs) ∧ RVs K H2 h2 acc xs ∧ lcL it.ok t tt te (wipeA ρ vs) (it.items.drop i) acc h2 (fun acc h2 => if heap = true then Q' (.ref D) (put h2 D (.lst acc)) else Q' (.lst acc) (drop h2 D)),
    ⟨it.items.length, [], [], put h1 D .busy, by omega, rN, sN, put_same, upd_same, RVs.nil, q1 D nd⟩, ?_⟩
  rintro i m H2 ⟨acc, xs, h2, em, r2, s2, hb2, hD2, ra2, q2⟩
  cases hdr : it.items.drop i with
  | nil =>
    rw [hdr] at q2
    have hi : it.items.length ≤ i := List.drop_eq_nil_iff.mp hdr
    have ei : i = it.items.length := by omega
    subst ei
    refine .inl ⟨(hJ h2 H2 s2.n r2 q2.1).2, ?_⟩
    have q3 := q2.2
    cases heap with
    | true =>
      rw [if_pos rfl] at q3
      have sw : StepN h2 H2 (put h2 D (.lst acc)) H2 := fun a o e n _ => by
        have : a ≠ D := fun z => by rw [z, hb2] at n; cases n
        exact ⟨e, by rw [put_ne this]; exact n⟩
      have sf : Step h1 H1 (put h2 D (.lst acc)) H2 := ⟨fun a o e n t => by
        obtain ⟨e2, n2⟩ := s2.n a o e n t
        exact sw a o e2 n2 t, fun a o e n => by
        have ne : a ≠ D := ne_of_none e nD
        rw [put_ne ne]
        exact s2.b a o e n⟩
      refine C _ _ _ _ q3 (s1.trans sf) (by rw [RV]) fun a o q => ?_
      by_cases ha : a = D
      · subst ha
        rw [put_same] at q
        cases q
        exact ⟨xs, hD2, ra2.stepN sw⟩
      · rw [put_ne ha] at q
        exact (r2 a o q).stepN sw fun _ z => z
    | false =>
      rw [if_neg Bool.false_ne_true] at q3
      have sf : Step h1 H1 (drop h2 D) H2 := ⟨fun a o e n t => by
        obtain ⟨e2, n2⟩ := s2.n a o e n t
        exact less_drop.stepN a o e2 n2 t, fun a o e n => by
        have ne : a ≠ D := ne_of_none e nD
        rw [drop_ne ne]
        exact s2.b a o e n⟩
      refine C _ _ _ _ q3 (s1.trans sf) ?_ (r2.less less_drop)
      rw [RV]
      exact ⟨D, xs, rfl, drop_same, hD2, ra2.stepN less_drop.stepN⟩
  | cons v ws =>
    rw [hdr] at q2
    have hi : i < it.items.length := by
      apply Nat.lt_of_not_le
      intro hh
      rw [List.drop_eq_nil_iff.mpr hh] at hdr
      cases hdr
    have hv : it.items[i]? = some v := by
      have := congrArg (·[0]?) hdr
      simpa using this
    have hdr' : it.items.drop (i + 1) = ws := by
      rw [← List.drop_drop, hdr] <;> rfl
    obtain ⟨ok2, q2⟩ := q2
    obtain ⟨go, yl⟩ := (hJ h2 H2 s2.n r2 ok2).1 i v hv
    refine .inr ⟨go, fun H3 => ∃ acc xs h3, RH K H3 h3 ∧ Step h1 H1 h3 H3 ∧ h3 D = some .busy ∧ H3 D = some (.lst xs) ∧ RVs K H3 h3 acc xs ∧ lcL it.ok t tt te (wipeA ρ vs) ws acc h3 (fun acc h2 => if heap = true then Q' (.ref D) (put h2 D (.lst acc)) else Q' (.lst acc) (drop h2 D)),
      fun H3 ⟨acc, xs, h3, r3, s3, b3, d3, a3, q3⟩ => ⟨m - 1, by omega, acc, xs, h3, by omega, r3, s3, b3, d3, a3, by rw [hdr']; exact q3⟩, fun x H3 hy => ?_⟩
    obtain ⟨s3, r3, rv3⟩ := yl x H3 hy
    split at q2
    · rename_i ρ' eρ
      have sl3 : RS K H3 h2 (wipeA ρ vs) (L2.wipe σ vs) := ((S1.s.wipe vs).step s2).step s3
      refine gT_rel rv3 sl3 eρ _ fun σ' rs' hw => ⟨?_, ?_⟩
      · rw [hw vs hsl]
        exact wipe_wipe σ vs
      · refine ⟨ρ', h2, _, ⟨rs', r3, S1.b.trans (s2.trans s3)⟩, q2, fun k h4 H4 q4 s4 r4 => ?_⟩
        have s24 := s3.trans s4
        have b4 := s24.b D _ hD2 hb2
        cases k with
        | false =>
          rw [if_neg Bool.false_ne_true] at q4
          exact iteF ⟨acc, xs, h4, r4, s2.trans s24, b4.2, b4.1, ra2.step s24, q4⟩
        | true =>
          rw [if_pos rfl] at q4
          refine iteT ⟨ρ', h4, _, ⟨rs'.step s4, r4, (S1.b.trans (s2.trans s3)).trans s4⟩, q4, fun y h5 yx H5 q5 s5 rv5 r5 => ?_⟩
          have s25 := s24.trans s5
          have b5 := s25.b D _ hD2 hb2
          refine ⟨xs, b5.1, ?_, acc ++ [y], xs ++ [yx], h5, ?_, ?_, b5.2, upd_same, ?_, q5.2⟩
          · rw [← ra2.len]; exact q5.1
          · intro a o q
            have sD : StepN h5 H5 h5 (upd H5 D (.lst (xs ++ [yx]))) := fun a o e n _ => by
              have : a ≠ D := fun z => by rw [z, b5.2] at n; cases n
              rw [upd_ne this]
              exact ⟨e, n⟩
            by_cases ha : a = D
            · subst ha
              rw [b5.2] at q
              cases q
              exact ⟨_, upd_same, .inl ⟨_, rfl⟩⟩
            · exact (r5 a o q).stepN sD fun _ z => by rw [upd_ne ha]; exact z
          · have s15 := s2.trans s25
            exact ⟨fun a o e n t => by
              obtain ⟨e2, n2⟩ := s15.n a o e n t
              rw [upd_ne (ne_of_none e nD)]
              exact ⟨e2, n2⟩, fun a o e n => by
              obtain ⟨e2, n2⟩ := s15.b a o e n
              rw [upd_ne (ne_of_none e nD)]
              exact ⟨e2, n2⟩⟩
          · have sD : StepN h5 H5 h5 (upd H5 D (.lst (xs ++ [yx]))) := fun a o e n _ => by
              have : a ≠ D := fun z => by rw [z, b5.2] at n; cases n
              rw [upd_ne this]
              exact ⟨e, n⟩
            exact ((ra2.step s25).append (RVs.cons rv5 RVs.nil)).stepN sD
    · exact q2.elim

section
variable {X : Cx} {B : Bs} {elt tg iter c : Expr} {ifs : List Expr} {scope : Scope} {own : List (Str × Nat)} {pos spos : Pos} {di : ID} {t : Tg} {tt : TD} {te : ED}
theorem dts_nil {B : Bs} : PTs X [] (rdT X.K B tTrue) := ⟨fun pins s σ H Q I ⟨ρ, h, Q', S, q, C⟩ => pts_nil.run pins s σ H Q I (C _ _ _ q (Step.refl _ _) S.r)⟩
theorem dts_one {B : Bs} (h : DT X B c tt) : PTs X [c] (rdT X.K B tt) := pts_one h
theorem de_lc (hc : X.calm = true) (hN : X.N.Nodup) (hi : DI X B tg iter di) (ok : BlkOk X.N X.env.scope scope own) (hsl : ∀ i ∈ slots t, i ∈ own.map (·.2))
    (hg : ∀ (s : Shared) (H : Hp) (C : Addr) (cl : List (Str × Addr)) (fp : List Addr), PG (X.blk s H scope (compEnvC scope cl C X.env) fp) tg (gT X.K t)) (ht : ∀ (s : Shared) (H : Hp) (C : Addr) (cl : List (Str × Addr)) (fp : List Addr), PTs (X.blk s H scope (compEnvC scope cl C X.env) fp) ifs (rdT X.K B.blk tt))
    (he : ∀ (s : Shared) (H : Hp) (C : Addr) (cl : List (Str × Addr)) (fp : List Addr), DE (X.blk s H scope (compEnvC scope cl C X.env) fp) B.blk elt te) (hs : ∀ x, foldedSetIterable iter X.env x = pure x := by intro _; rfl) :
    DE X B (.ListComp elt [⟨tg, iter, ifs, 0⟩] scope pos) (dLc di t tt te (own.map (·.2))) := PEi (pe_lc hc hN hi ok hg ht he hs) (rd_lc (heap := false) rfl hsl)
theorem de_lcH (hc : X.calm = true) (hN : X.N.Nodup) (hi : DI X B tg iter di) (ok : BlkOk X.N X.env.scope scope own) (hsl : ∀ i ∈ slots t, i ∈ own.map (·.2))
    (hg : ∀ (s : Shared) (H : Hp) (C : Addr) (cl : List (Str × Addr)) (fp : List Addr), PG (X.blk s H scope (compEnvC scope cl C X.env) fp) tg (gT X.K t)) (ht : ∀ (s : Shared) (H : Hp) (C : Addr) (cl : List (Str × Addr)) (fp : List Addr), PTs (X.blk s H scope (compEnvC scope cl C X.env) fp) ifs (rdT X.K B.blk tt))
    (he : ∀ (s : Shared) (H : Hp) (C : Addr) (cl : List (Str × Addr)) (fp : List Addr), DE (X.blk s H scope (compEnvC scope cl C X.env) fp) B.blk elt te) (hs : ∀ x, foldedSetIterable iter X.env x = pure x := by intro _; rfl) :
    DE X B (.ListComp elt [⟨tg, iter, ifs, 0⟩] scope pos) (dLcH di t tt te (own.map (·.2))) := PEi (pe_lc hc hN hi ok hg ht he hs) (rd_lc (heap := true) rfl hsl)
theorem ds_setLc {i : Nat} {y : Str} {py : Pos} {d : ED} (heap : Bool) (hd : d = if heap = true then dLcH di t tt te (own.map (·.2)) else dLc di t tt te (own.map (·.2))) (hc : X.calm = true) (hN : X.N.Nodup) (hy : X.N[i]? = some y) (hyl : X.env.scope.names.lookup y = some .local)
    (hsw : swapsWith (.ListComp elt [⟨tg, iter, ifs, 0⟩] scope pos) (some (.Name y py)) spos.line X.env = pure true) (hi : DI X B tg iter di) (ok : BlkOk X.N X.env.scope scope own) (hsl : ∀ i ∈ slots t, i ∈ own.map (·.2))
    (hg : ∀ (s : Shared) (H : Hp) (C : Addr) (cl : List (Str × Addr)) (fp : List Addr), PG (X.blk s H scope (compEnvC scope cl C X.env) fp) tg (gT X.K t)) (ht : ∀ (s : Shared) (H : Hp) (C : Addr) (cl : List (Str × Addr)) (fp : List Addr), PTs (X.blk s H scope (compEnvC scope cl C X.env) fp) ifs (rdT X.K B.blk tt))
    (he : ∀ (s : Shared) (H : Hp) (C : Addr) (cl : List (Str × Addr)) (fp : List Addr), DE (X.blk s H scope (compEnvC scope cl C X.env) fp) B.blk elt te) (hs : ∀ x, foldedSetIterable iter X.env x = pure x := by intro _; rfl) :
    DS X B (.Assign [.Name y py] (.ListComp elt [⟨tg, iter, ifs, 0⟩] scope pos) spos) (sSet i d) :=
  PSi (ps_setLc hc hN hy hyl hsw hi ok hg ht he hs) fun D σ H z => by
    obtain ⟨ρ, h, Q', S, q, C⟩ := rd_set D σ H z
    exact rd_lc hd hsl σ H _ ⟨ρ, h, Q', S, q, C⟩
end

/-! ### defs -/
/-- the abstract heap says less, but of no place that is being filled -/
structure Lss (h h2 : Hv) : Prop where
  l : Less h h2
  b : ∀ a, h a = some .busy → h2 a = some .busy
theorem Lss.refl (h : Hv) : Lss h h := ⟨Less.refl h, fun _ e => e⟩
theorem Lss.trans {h h1 h2 : Hv} (x : Lss h h1) (y : Lss h1 h2) : Lss h h2 := ⟨fun a => by
  rcases y.l a with z | z
  · exact .inl z
  · rw [z]; exact x.l a, fun a e => y.b a (x.b a e)⟩
theorem Lss.put {h : Hv} {p : Addr} {o : Ob} (e : h p = none) (n : o ≠ .busy) : Lss (put h p o) h := ⟨fun a => by
  by_cases ha : a = p
  · subst ha; exact .inl e
  · exact .inr (put_ne ha).symm, fun a q => by
  by_cases ha : a = p
  · subst ha; rw [put_same] at q; cases q; exact absurd rfl n
  · rw [put_ne ha] at q; exact q⟩
theorem Lss.step {h h2 : Hv} {H : Hp} (x : Lss h h2) : Step h H h2 H := ⟨x.l.stepN, fun a o e n => ⟨e, x.b a n⟩⟩
/-- what is handed back may be told otherwise: less of the heap, a list of it as data -/
def Conv (v : Val) (h : Hv) (v2 : Val) (h2 : Hv) : Prop := Lss h h2 ∧ ∀ (K : PySem.W.Frag) (H : Hp) (x : V), RH K H h → RV K H h v x → RV K H h2 v2 x
theorem conv_less {v : Val} {h h2 : Hv} (l : Lss h h2) : Conv v h v h2 := ⟨l, fun K H x _ rv => rv.stepN l.l.stepN⟩
theorem conv_frz {h h2 : Hv} {p : Addr} {vs : List Val} (l : Lss h h2) (e : h p = some (.lst vs)) (n : h2 p = none) : Conv (.ref p) h (.lst vs) h2 := ⟨l, fun K H x r rv => by
  rw [RV] at rv
  rw [RV]
  obtain ⟨xs, e1, rs⟩ := r p _ e
  exact ⟨p, xs, rv, n, e1, rs.stepN l.l.stepN⟩⟩
@[simp] def startA (N : List Str) (as : List Val) : Sl := as.map some ++ List.replicate (N.length - as.length) none
theorem RVs.getS {K : PySem.W.Frag} {H : Hp} {h : Hv} {as : List Val} {vs : List V} (r : RVs K H h as vs) (N : List Str) : RS K H h (startA N as) (L2.start N vs) := by
  unfold startA L2.start
  refine ⟨by simp [r.len], fun i v e => ?_⟩
  have hi : i < as.length := by
    apply Nat.lt_of_not_le
    intro hh
    rw [List.getElem?_append_right (by simpa using hh), List.getElem?_replicate] at e
    split at e <;> cases e
  rw [List.getElem?_append_left (by simpa using hi), List.getElem?_map] at e
  obtain ⟨w, e1, e2⟩ := Option.map_eq_some_iff.mp e
  cases e2
  obtain ⟨x, ex, rx⟩ := r.get e1
  refine ⟨x, ?_, rx⟩
  rw [List.getElem?_append_left (by rw [List.length_map, ← r.len]; exact hi), List.getElem?_map, ex]
  rfl
/-- a def by its body's denotation -/
theorem fn_mk {P : Program} {w : World} {K : PySem.W.Frag} {mg : Str → Option Value} {base : Heap} {x qual : Str} {st : Stmt} {f : Addr} {fd : FuncData} {N ps : List Str} {k : Nat} {fs : SpF} {den : SD} (F : Fun K x qual st f fd) (S : FnScope N ps (defScope st))
    (hd : ∀ (cdv : Value) (A : Around) (outer : List Env) (s : Shared) (H : Hp) (E : XK) (B : Bs), Room k (A.deeper (envOfC qual (defScope st) s.heap.objs.size f cdv)) → TakesB (cxOf (L2.CX P w) P w K mg base N qual (defScope st) f cdv A outer s H E) B →
      DSs (cxOf (L2.CX P w) P w K mg base N qual (defScope st) f cdv A outer s H E) B (defBody st) den)
    (hs : ∀ as h Q E, as.length = ps.length → fs as h Q E → den (startA N as) h ⟨fun _ h' => ∃ h2, Lss h' h2 ∧ Q .non h2, fun v h' => ∃ v2 h2, Conv v h' v2 h2 ∧ Q v2 h2, fun _ _ => False, fun _ _ => False⟩ (fun nm pl _ h' => ∃ h2, Lss h' h2 ∧ E nm pl h2)) :
    FnOk P w K mg base (L2.CX P w) (k + 1) f fd ps (spA K mg ps.length fs) := by
  refine F.okX S (fun vs H Q E h => ?_) (fun cdv A outer s H vs Q E hr h => ?_)
  · obtain ⟨as, h, Q', E', rs, _, e, _⟩ := h
    rw [← rs.len]; exact e
  · obtain ⟨as, h, Q', E', rs, r, e, q, C, CX⟩ := h
    refine ⟨_, hd cdv A outer s H E ⟨fun nm pl _ h' => ∃ h2, Lss h' h2 ∧ E' nm pl h2, h, H⟩ hr ?_, startA N as, h, _, ⟨rs.getS N, r, Step.refl _ _⟩, hs as h Q' E' e q, ?_⟩
    · have tk : Takes (cxOf (L2.CX P w) P w K mg base N qual (defScope st) f cdv A outer s H E) (fun cls d _ H => E cls d H) := takes_of rfl rfl rfl rfl
      refine tk.imp fun cls d σ H1 hw => ?_
      obtain ⟨nm, pl, ρ, h1, hm, S1, pld, h2, l2, hE⟩ := hw
      exact CX nm pl h2 cls d H1 hE (S1.b.trans l2.step) (S1.r.less l2.l) hm (pld.step l2.step)
    · refine ⟨fun ρ1 h1 σ1 H1 q1 s1 S1 => ?_, fun v h1 x H1 q1 s1 rv1 r1 => ?_, fun _ _ _ _ z => z.elim, fun _ _ _ _ z => z.elim⟩
      · obtain ⟨h2, l2, q2⟩ := q1
        exact C _ _ _ _ q2 (s1.trans l2.step) rv_non (S1.r.less l2.l)
      · obtain ⟨v2, h2, c2, q2⟩ := q1
        exact C _ _ _ _ q2 (s1.trans c2.1.step) (c2.2 K H1 x r1 rv1) (r1.less c2.1.l)
end DL
namespace DL
open PySem PySem.Spec PyProof.Rows L2

/-! ### methods of a builtin by values -/
abbrev FM := Val → List Val → Hv → PV → Prop
/-- of which type a value is -/
def tyA (v : Val) (h : Hv) (T : String) : Prop := match v with
  | .str _ => T = "str"
  | .lst _ => T = "list"
  | .ref a => match h a with
    | some (.lst _) => T = "list"
    | some (.dK _) => T = "dict"
    | some (.dT _) => T = "dict"
    | _ => False
  | _ => False
theorem tyA_rel {K : PySem.W.Frag} {H : Hp} {h : Hv} {v : Val} {x : V} {T : String} (r : RH K H h) (rv : RV K H h v x) (e : tyA v h T) : tyV K T x H := by
  cases v with
  | str z => rw [RV] at rv; subst rv; exact e
  | lst vs =>
    rw [RV] at rv
    obtain ⟨a, xs, e1, _, ha, rs⟩ := rv
    subst e1
    exact .inl ⟨e, xs, .of ha⟩
  | ref a =>
    rw [RV] at rv; subst rv
    unfold tyA at e
    dsimp only at e
    split at e
    · rename_i vs hv
      obtain ⟨xs, e1, rs⟩ := r a _ hv
      exact .inl ⟨e, xs, .of e1⟩
    · rename_i vs hv
      obtain ⟨xs, e1, rs⟩ := r a _ hv
      exact .inr (.inr (.inl ⟨e, .inl ⟨xs, e1⟩⟩))
    · rename_i vs hv
      obtain ⟨xs, e1, rs⟩ := r a _ hv
      exact .inr (.inr (.inl ⟨e, .inr ⟨xs, e1⟩⟩))
    · exact e.elim
  | _ => exact e.elim
def MtL (K : PySem.W.Frag) (f : FM) (r : V → List V → Hp → VK → Prop) : Prop := ∀ v ws x ys h H Q' Q, RH K H h → RV K H h v x → RVs K H h ws ys → f v ws h Q' → Cont K h H Q' Q → r x ys H Q
def dBM (T : String) (f : FM) (d : ED) (aa : AD) : ED := fun ρ h Q E => d ρ h (fun v h1 => tyA v h1 T ∧ aa ρ h1 (fun vs h2 => f v vs h2 Q) E) E
def dBM0 (T : String) (f : FM) (d : ED) : ED := fun ρ h Q E => d ρ h (fun v h1 => tyA v h1 T ∧ f v [] h1 Q) E
section
variable {X : Cx} {B : Bs} {o e : Expr} {es : List Expr} {d : ED} {aa : AD} {name : Str} {apos cpos : Pos} {T id : String} {r : V → List V → Hp → VK → Prop} {f : FM}
theorem de_bm (pa : PlainAttrs T) (slot : Slot T name id) (hty : typeOf (.builtin id) = pure (.type "method_descriptor")) (hm : MtR X id r) (hl : MtL X.K f r) (ho : DE X B o d) (ha : DA X B (e :: es) aa)
    (hbase : attributeBase o name X.env (eval o X.env) = eval o X.env := by rfl)
    (hfew : ((backTo cpos (starEach (e :: es) X.env)).all (fun x => !x.1) && (backToKw cpos (keywordEach [] X.env)).all (fun x => x.1.isSome)
      && decide ((e :: es).length + ([] : List Keyword).length + (if ([] : List Keyword).isEmpty then 0 else 1) < 30)) = true := by rfl)
    (hline : (apos.endLine == cpos.line) = true := by rfl) (hs : starEach (e :: es) X.env = (false, eval e X.env) :: starEach es X.env := by rfl) (hplain : (backTo cpos (starEach es X.env)).any (·.1) = false := by rfl) :
    DE X B (.Call (.Attribute o name apos) (e :: es) [] cpos) (dBM T f d aa) :=
  PEi (pe_bm pa slot hty hm ho ha hbase hfew hline hs hplain) fun σ H Q ⟨ρ, h, Q', S, q, C⟩ => ⟨ρ, h, _, S, q, fun v h1 x H1 q1 s1 rv1 r1 =>
    ⟨tyA_rel r1 rv1 q1.1, ρ, h1, _, S.step s1 r1, q1.2, fun vs h2 xs H2 q2 s2 rv2 r2 => hl v vs x xs h2 H2 Q' Q r2 (rv1.step s2) rv2 q2 (C.trans (s1.trans s2))⟩⟩
theorem de_bm0 (pa : PlainAttrs T) (slot : Slot T name id) (hty : typeOf (.builtin id) = pure (.type "method_descriptor")) (hm : MtR X id r) (hl : MtL X.K f r) (ho : DE X B o d)
    (hbase : attributeBase o name X.env (eval o X.env) = eval o X.env := by rfl) (hline : (apos.endLine == cpos.line) = true := by rfl) : DE X B (.Call (.Attribute o name apos) [] [] cpos) (dBM0 T f d) :=
  PEi (pe_bm0 pa slot hty hm ho hbase hline) fun σ H Q ⟨ρ, h, Q', S, q, C⟩ => ⟨ρ, h, _, S, q, fun v h1 x H1 q1 s1 rv1 r1 =>
    ⟨tyA_rel r1 rv1 q1.1, hl v [] x [] h1 H1 Q' Q r1 rv1 RVs.nil q1.2 (C.trans s1)⟩⟩
end
section
variable {K : PySem.W.Frag}
theorem Cont.write {h : Hv} {H : Hp} {Q' : PV} {Q : VK} (c : Cont K h H Q' Q) (r : RH K H h) {a : Addr} {vs ws : List Val} {ys : List V} {v : Val} {x : V} (e : h a = some (.lst vs)) (rs : RVs K H h ws ys) (rv : RV K H h v x) (q : Q' v (put h a (.lst ws))) : Q x (upd H a (.lst ys)) := by
  have nb : Ob.lst vs ≠ .busy := fun z => nomatch z
  have s : Step h H (put h a (.lst ws)) (upd H a (.lst ys)) := Step.write e nb
  exact c _ _ _ _ q s (rv.step s) (r.write e nb ⟨ys, upd_same, rs.step s⟩)
def fAppend : FM := fun v ws h Q => match v, ws with
  | .ref a, [w] => (match h a with
    | some (.lst vs) => vs.length < sizeLine ∧ Q .non (put h a (.lst (vs ++ [w])))
    | _ => False)
  | _, _ => False
theorem ml_append : MtL K fAppend rAppend := fun v ws x ys h H Q' Q r rv rs q c => by
  unfold fAppend at q
  split at q
  · rename_i a w
    split at q
    · rename_i vs hv
      obtain ⟨y, e1, ry⟩ := rvs1 rs
      obtain ⟨xs, e2, rx⟩ := r a _ hv
      rw [RV] at rv
      exact ⟨a, xs, y, rv, e1, e2, by rw [← rx.len]; exact q.1, c.write r hv (rx.append (RVs.cons ry RVs.nil)) rv_non q.2⟩
    · exact q.elim
  · exact q.elim
def fExtend : FM := fun v ws h Q => match v, ws with
  | .ref a, [w] => (match h a, listOf w h with
    | some (.lst vs), some us => vs.length + us.length ≤ sizeLine ∧ Q .non (put h a (.lst (vs ++ us)))
    | _, _ => False)
  | _, _ => False
theorem ml_extend : MtL K fExtend rExtend := fun v ws x ys h H Q' Q r rv rs q c => by
  unfold fExtend at q
  split at q
  · rename_i a w
    split at q
    · rename_i vs us hv hu
      obtain ⟨y, e1, ry⟩ := rvs1 rs
      obtain ⟨b, zs, e3, hb, rz⟩ := listOf_rel r ry hu
      obtain ⟨xs, e2, rx⟩ := r a _ hv
      rw [RV] at rv
      exact ⟨a, b, xs, zs, rv, by rw [e1, e3], e2, hb, by rw [← rx.len, ← rz.len]; exact q.1, c.write r hv (rx.append rz) rv_non q.2⟩
    · exact q.elim
  · exact q.elim
def fPop : FM := fun v ws h Q => match v, ws with
  | .ref a, [] => (match h a with
    | some (.lst vs) => (match vs[vs.length - 1]? with
      | some u => Q u (put h a (.lst (vs.take (vs.length - 1))))
      | none => False)
    | _ => False)
  | _, _ => False
theorem ml_pop : MtL K fPop rPop := fun v ws x ys h H Q' Q r rv rs q c => by
  unfold fPop at q
  split at q
  · rename_i a
    split at q
    · rename_i vs hv
      split at q
      · rename_i u eu
        rw [RVs] at rs
        obtain ⟨xs, e2, rx⟩ := r a _ hv
        obtain ⟨y, ey, ry⟩ := rx.get eu
        rw [RV] at rv
        refine ⟨a, xs, y, rv, rs, e2, by rw [← rx.len]; exact ey, ?_⟩
        rw [List.dropLast_eq_take]
        exact c.write r hv (by rw [rx.len]; exact rx.take _) ry q
      · exact q.elim
    · exact q.elim
  · exact q.elim
def fPopAt : FM := fun v ws h Q => match v, ws with
  | .ref a, [.int i] => (match h a with
    | some (.lst vs) => (0 ≤ i ∧ i < 2 ^ 62) ∧ (match vs[i.toNat]? with
      | some u => Q u (put h a (.lst (vs.eraseIdx i.toNat)))
      | none => False)
    | _ => False)
  | _, _ => False
theorem ml_popAt : MtL K fPopAt rPopAt := fun v ws x ys h H Q' Q r rv rs q c => by
  unfold fPopAt at q
  split at q
  · rename_i a i
    split at q
    · rename_i vs hv
      obtain ⟨⟨h0, h9⟩, q⟩ := q
      split at q
      · rename_i u eu
        obtain ⟨y, e1, ry⟩ := rvs1 rs
        rw [RV] at ry
        obtain ⟨xs, e2, rx⟩ := r a _ hv
        obtain ⟨z, ez, rz⟩ := rx.get eu
        rw [RV] at rv
        have hi : i.toNat < xs.length := (List.getElem?_eq_some_iff.mp ez).1
        refine ⟨a, xs, i, i.toNat, z, rv, by rw [e1, ry], e2, by omega, by omega, PySem.StrLaws.seqIndex_nonneg h0 (by omega), ez, ?_⟩
        exact c.write r hv (rx.erase _) rz q
      · exact q.elim
    · exact q.elim
  · exact q.elim
end

/-! ### dicts -/
section
variable {κ : Type} [DecidableEq κ]
def valA (kvs : List (κ × Val)) (k : κ) : Option Val := (kvs.find? fun kv => decide (kv.1 = k)).map (·.2)
def putA (kvs : List (κ × Val)) (k : κ) (v : Val) : List (κ × Val) :=
  if (kvs.any fun kv => decide (kv.1 = k)) = true then kvs.map (fun kv => if kv.1 = k then (kv.1, v) else kv) else kvs ++ [(k, v)]
theorem RKs.val {K : PySem.W.Frag} {H : Hp} {h : Hv} (k : κ) : ∀ {kvs : List (κ × Val)} {xs : List (κ × V)}, RKs K H h kvs xs → (valA kvs k = none ∧ valV xs k = none) ∨ ∃ v x, valA kvs k = some v ∧ valV xs k = some x ∧ RV K H h v x
  | [], xs, r => by rw [show xs = [] from r]; exact .inl ⟨rfl, rfl⟩
  | (j, v) :: kvs, xs, r => by
    obtain ⟨y, ys, e, r1, r2⟩ := r
    rw [e]
    by_cases q : j = k
    · refine .inr ⟨v, y, ?_, ?_, r1⟩
      · unfold valA; rw [List.find?_cons]; simp [q]
      · exact valV_pos q
    · rcases RKs.val k r2 with ⟨a, b⟩ | ⟨w, x, a, b, c⟩
      · refine .inl ⟨?_, by rw [valV_neg q]; exact b⟩
        rw [← a]; unfold valA; rw [List.find?_cons]; simp [q]
      · refine .inr ⟨w, x, ?_, by rw [valV_neg q]; exact b, c⟩
        rw [← a]; unfold valA; rw [List.find?_cons]; simp [q]
theorem RKs.any {K : PySem.W.Frag} {H : Hp} {h : Hv} (k : κ) : ∀ {kvs : List (κ × Val)} {xs : List (κ × V)}, RKs K H h kvs xs → (kvs.any fun kv => decide (kv.1 = k)) = xs.any fun kv => decide (kv.1 = k)
  | [], xs, r => by rw [show xs = [] from r]; rfl
  | (j, v) :: kvs, xs, r => by
    obtain ⟨y, ys, e, r1, r2⟩ := r
    rw [e, List.any_cons, List.any_cons, RKs.any k r2]
theorem RKs.app {K : PySem.W.Frag} {H : Hp} {h : Hv} {k : κ} {v : Val} {x : V} (rv : RV K H h v x) : ∀ {kvs : List (κ × Val)} {xs : List (κ × V)}, RKs K H h kvs xs → RKs K H h (kvs ++ [(k, v)]) (xs ++ [(k, x)])
  | [], xs, r => by rw [show xs = [] from r]; exact ⟨x, [], rfl, rv, rfl⟩
  | (j, w) :: kvs, xs, r => by
    obtain ⟨y, ys, e, r1, r2⟩ := r
    rw [e]
    exact ⟨y, _, rfl, r1, RKs.app rv r2⟩
theorem RKs.repl {K : PySem.W.Frag} {H : Hp} {h : Hv} {k : κ} {v : Val} {x : V} (rv : RV K H h v x) : ∀ {kvs : List (κ × Val)} {xs : List (κ × V)}, RKs K H h kvs xs → RKs K H h (kvs.map fun kv => if kv.1 = k then (kv.1, v) else kv) (xs.map fun kv => if kv.1 = k then (kv.1, x) else kv)
  | [], xs, r => by rw [show xs = [] from r]; exact rfl
  | (j, w) :: kvs, xs, r => by
    obtain ⟨y, ys, e, r1, r2⟩ := r
    rw [e, List.map_cons, List.map_cons]
    by_cases q : j = k
    · simp only [q, if_true]
      exact ⟨x, _, rfl, rv, RKs.repl rv r2⟩
    · simp only [q, if_false]
      exact ⟨y, _, rfl, r1, RKs.repl rv r2⟩
theorem RKs.put {K : PySem.W.Frag} {H : Hp} {h : Hv} {k : κ} {v : Val} {x : V} {kvs : List (κ × Val)} {xs : List (κ × V)} (r : RKs K H h kvs xs) (rv : RV K H h v x) : RKs K H h (putA kvs k v) (putK xs k x) := by
  unfold putA putK
  rw [r.any k]
  split
  · exact RKs.repl rv r
  · exact RKs.app rv r
omit [DecidableEq κ] in
theorem RKs.len {K : PySem.W.Frag} {H : Hp} {h : Hv} : ∀ {kvs : List (κ × Val)} {xs : List (κ × V)}, RKs K H h kvs xs → kvs.length = xs.length
  | [], xs, r => by rw [show xs = [] from r]; rfl
  | (j, w) :: kvs, xs, r => by
    obtain ⟨y, ys, e, r1, r2⟩ := r
    rw [e, List.length_cons, List.length_cons, RKs.len r2]
end
@[simp] def keyOf : Val → Option Key
  | .int i => some (.inl i)
  | .str z => some (.inr z)
  | _ => none
@[simp] def keysOf : List Val → Option (List Key)
  | [] => some []
  | v :: vs => match keyOf v, keysOf vs with
    | some k, some ks => some (k :: ks)
    | _, _ => none
section
variable {K : PySem.W.Frag} {H : Hp} {h : Hv}
theorem keyOf_rel {v : Val} {x : V} {k : Key} (rv : RV K H h v x) (e : keyOf v = some k) : x = kV k := by
  cases v <;> first | (cases e; done) | skip
  · rw [RV] at rv; cases e; exact rv
  · rw [RV] at rv; cases e; exact rv
theorem keysOf_rel : ∀ {vs : List Val} {xs : List V} {ks : List Key}, RVs K H h vs xs → keysOf vs = some ks → xs = ks.map kV
  | [], xs, ks, r, e => by rw [RVs] at r; cases e; exact r
  | v :: vs, xs, ks, r, e => by
    rw [RVs] at r
    obtain ⟨y, ys, e1, r1, r2⟩ := r
    unfold keysOf at e
    split at e
    · rename_i k ks' h1 h2
      cases e
      rw [e1, keyOf_rel r1 h1, keysOf_rel r2 h2]; rfl
    · cases e
/-- what a dict holds at a key: none where it is no dict of such keys -/
@[simp] def dgetA (d k : Val) (h : Hv) : Option (Option Val) := match d with
  | .ref a => (match h a with
    | some (.dK kvs) => (match keyOf k with
      | some k => some (valA kvs k)
      | none => none)
    | some (.dT kvs) => (match k with
      | .tup ks => (match keysOf ks with
        | some ks => some (valA kvs ks)
        | none => none)
      | _ => none)
    | some (.dF _ _ kvs) => (match keyOf k with
      | some k => some (valA kvs k)
      | none => none)
    | _ => none)
  | _ => none
theorem dget_rel {d k : Val} {x y : V} {o : Option Val} (r : RH K H h) (rd : RV K H h d x) (rk : RV K H h k y) (e : dgetA d k h = some o) : ∃ a u, x = .ref a ∧ DGet H a y u ∧ (IsD H a) ∧ ((o = none ∧ u = none) ∨ ∃ v z, o = some v ∧ u = some z ∧ RV K H h v z) := by
  unfold dgetA at e
  split at e
  · rename_i a
    rw [RV] at rd
    split at e
    · rename_i kvs hv
      obtain ⟨xs, e1, rs⟩ := r a _ hv
      split at e
      · rename_i kk hk
        cases e
        refine ⟨a, _, rd, by rw [keyOf_rel rk hk]; exact .k e1, .inl ⟨xs, .inl e1⟩, ?_⟩
        rcases rs.val kk with ⟨p, q⟩ | ⟨v, z, p, q, rv⟩
        · exact .inl ⟨p, q⟩
        · exact .inr ⟨v, z, p, q, rv⟩
      · cases e
    · rename_i kvs hv
      obtain ⟨xs, e1, rs⟩ := r a _ hv
      split at e
      · rename_i ks
        split at e
        · rename_i kk hk
          cases e
          rw [RV] at rk
          obtain ⟨b, ys, eb, n, hb, rb⟩ := rk
          rw [keysOf_rel rb hk] at hb
          refine ⟨a, _, rd, by rw [eb]; exact .t e1 hb, .inr ⟨xs, .inl e1⟩, ?_⟩
          rcases rs.val kk with ⟨p, q⟩ | ⟨v, z, p, q, rv⟩
          · exact .inl ⟨p, q⟩
          · exact .inr ⟨v, z, p, q, rv⟩
        · cases e
      · cases e
    · rename_i o xs kvs hv
      obtain ⟨e1, rs⟩ := r a _ hv
      split at e
      · rename_i kk hk
        cases e
        refine ⟨a, _, rd, by rw [keyOf_rel rk hk]; exact .inl ⟨xs, kk, .inr ⟨o, e1⟩, rfl, rfl⟩, .inl ⟨xs, .inr ⟨o, e1⟩⟩, ?_⟩
        rcases rs.val kk with ⟨p, q⟩ | ⟨v, z, p, q, rv⟩
        · exact .inl ⟨p, q⟩
        · exact .inr ⟨v, z, p, q, rv⟩
      · cases e
    · cases e
  · cases e
/-- the heap behind d[k] = v -/
def dputA (d k v : Val) (h : Hv) : Option Hv := match d with
  | .ref a => (match h a with
    | some (.dK kvs) => (match keyOf k with
      | some k => if kvs.length < sizeLine then some (put h a (.dK (putA kvs k v))) else none
      | none => none)
    | some (.dT kvs) => (match k with
      | .tup ks => (match keysOf ks with
        | some ks => if kvs.length < sizeLine then some (put h a (.dT (putA kvs ks v))) else none
        | none => none)
      | _ => none)
    | _ => none)
  | _ => none
theorem dput_rel {d k v : Val} {x y z : V} {h' : Hv} (r : RH K H h) (rd : RV K H h d x) (rk : RV K H h k y) (rv : RV K H h v z) (e : dputA d k v h = some h') : ∃ a H', x = .ref a ∧ DPut H a y z H' ∧ Step h H h' H' ∧ RH K H' h' := by
  unfold dputA at e
  split at e
  · rename_i a
    rw [RV] at rd
    split at e
    · rename_i kvs hv
      obtain ⟨xs, e1, rs⟩ := r a _ hv
      split at e
      · rename_i kk hk
        split at e
        · rename_i hl
          cases e
          have s : Step h H (put h a (.dK (putA kvs kk v))) (upd H a (.dK (putK xs kk z))) := Step.write hv (fun z => nomatch z)
          refine ⟨a, _, rd, by rw [keyOf_rel rk hk]; exact .k e1 (by rw [← rs.len]; exact hl), s, r.write hv (fun z => nomatch z) ⟨_, upd_same, (rs.put rv).step s⟩⟩
        · cases e
      · cases e
    · rename_i kvs hv
      obtain ⟨xs, e1, rs⟩ := r a _ hv
      split at e
      · rename_i ks
        split at e
        · rename_i kk hk
          split at e
          · rename_i hl
            cases e
            rw [RV] at rk
            obtain ⟨b, ys, eb, n, hb, rb⟩ := rk
            rw [keysOf_rel rb hk] at hb
            have s : Step h H (put h a (.dT (putA kvs kk v))) (upd H a (.dT (putK xs kk z))) := Step.write hv (fun z => nomatch z)
            refine ⟨a, _, rd, by rw [eb]; exact .t e1 hb (by rw [← rs.len]; exact hl), s, r.write hv (fun z => nomatch z) ⟨_, upd_same, (rs.put rv).step s⟩⟩
          · cases e
        · cases e
      · cases e
    · cases e
  · cases e
end
section
variable {X : Cx} {B : Bs} {o i e f : Expr} {dd di de df : ED} {pos pos' apos cpos : Pos}
@[simp] def dDGet (dd dk : ED) : ED := fun ρ h Q E => dd ρ h (fun v h1 => dk ρ h1 (fun k h2 => match dgetA v k h2 with
  | some (some u) => Q u h2
  | _ => False) E) E
theorem de_dget (hu : X.A.units + 1 < cLine) (ho : DE X B o dd) (hi : DE X B i di) (hs : NoSl i := by exact fun _ _ => rfl) : DE X B (.Subscript o i pos) (dDGet dd di) :=
  PEi (pe_dget hu ho hi hs) fun σ H Q ⟨ρ, h, Q', S, q, C⟩ => ⟨ρ, h, _, S, q, fun v h1 x H1 q1 s1 rv1 r1 => ⟨ρ, h1, _, S.step s1 r1, q1, fun k h2 y H2 q2 s2 rv2 r2 => by
    split at q2
    · rename_i u eu
      obtain ⟨a, z, ex, g, _, z1 | ⟨w, zz, e1, e2, rv⟩⟩ := dget_rel r2 (rv1.step s2) rv2 eu
      · cases z1.1
      · cases e1
        subst e2
        exact ⟨a, zz, ex, g, (C.trans (s1.trans s2)).val r2 rv q2⟩
    · exact q2.elim⟩⟩
@[simp] def dDGet2 (dd dk df : ED) : ED := fun ρ h Q E => dd ρ h (fun v h1 => (dgetA v (.int 0) h1).isSome = true ∧ dk ρ h1 (fun k h2 => df ρ h2 (fun w h3 => match dgetA v k h3 with
  | some (some u) => Q u h3
  | some none => Q w h3
  | none => False) E) E) E
theorem de_dget2 (hu : X.A.units + 1 < cLine) (ho : DE X B o dd) (he : DE X B e de) (hf : DE X B f df) (m : M2 X o "get" apos e f cpos) : DE X B (.Call (.Attribute o "get" apos) [e, f] [] cpos) (dDGet2 dd de df) :=
  PEi (pe_dget2 hu ho he hf m) fun σ H Q ⟨ρ, h, Q', S, q, C⟩ => ⟨ρ, h, _, S, q, fun v h1 x H1 q1 s1 rv1 r1 => by
    obtain ⟨q0, q1⟩ := q1
    obtain ⟨o', e0⟩ := Option.isSome_iff_exists.mp q0
    obtain ⟨a, z, ex, _, isd, _⟩ := dget_rel r1 rv1 (rv_int (b := 0)) e0
    refine ⟨a, ex, isd, ρ, h1, _, S.step s1 r1, q1, fun k h2 y H2 q2 s2 rv2 r2 => ⟨ρ, h2, _, S.step (s1.trans s2) r2, q2, fun w h3 yw H3 q3 s3 rv3 r3 => ?_⟩⟩
    have C3 := C.trans (s1.trans (s2.trans s3))
    split at q3
    · rename_i u eu
      obtain ⟨a', z, ex', g, _, z1 | ⟨w, zz, e1, e2, rv⟩⟩ := dget_rel r3 (rv1.step (s2.trans s3)) (rv2.step s3) eu
      · cases z1.1
      · cases e1
        subst e2
        rw [ex] at ex'
        cases ex'
        exact ⟨_, g, C3.val r3 rv q3⟩
    · rename_i eu
      obtain ⟨a', z, ex', g, _, z1 | ⟨w, zz, e1, e2, rv⟩⟩ := dget_rel r3 (rv1.step (s2.trans s3)) (rv2.step s3) eu
      · rw [ex] at ex'
        cases ex'
        refine ⟨_, g, ?_⟩
        rw [z1.2]
        exact C3.val r3 rv3 q3
      · cases e1
    · exact q3.elim⟩
@[simp] def dDIn (dk dd : ED) : ED := fun ρ h Q E => dk ρ h (fun k h1 => dd ρ h1 (fun v h2 => match dgetA v k h2 with
  | some o => Q (.bl o.isSome) h2
  | none => False) E) E
@[simp] def dDNotIn (dk dd : ED) : ED := fun ρ h Q E => dk ρ h (fun k h1 => dd ρ h1 (fun v h2 => match dgetA v k h2 with
  | some o => Q (.bl (!o.isSome)) h2
  | none => False) E) E
theorem rd_din {K : PySem.W.Frag} : ∀ σ H Q, rdE K B (dDIn di dd) σ H Q → tDIn (rdE K B di) (rdE K B dd) σ H Q := fun σ H Q ⟨ρ, h, Q', S, q, C⟩ => ⟨ρ, h, _, S, q, fun k h1 y H1 q1 s1 rv1 r1 => ⟨ρ, h1, _, S.step s1 r1, q1, fun v h2 x H2 q2 s2 rv2 r2 => by
    split at q2
    · rename_i u eu
      obtain ⟨a, z, ex, g, _, z1⟩ := dget_rel r2 rv2 (rv1.step s2) eu
      refine ⟨a, z, ex, g, (C.trans (s1.trans s2)).val r2 ?_ q2⟩
      rcases z1 with ⟨p, q⟩ | ⟨w, zz, e1, e2, rv⟩
      · rw [p, q]; exact rv_bl
      · rw [e1, e2]; exact rv_bl
    · exact q2.elim⟩⟩
theorem rd_dnotin {K : PySem.W.Frag} : ∀ σ H Q, rdE K B (dDNotIn di dd) σ H Q → tDNotIn (rdE K B di) (rdE K B dd) σ H Q := fun σ H Q ⟨ρ, h, Q', S, q, C⟩ => ⟨ρ, h, _, S, q, fun k h1 y H1 q1 s1 rv1 r1 => ⟨ρ, h1, _, S.step s1 r1, q1, fun v h2 x H2 q2 s2 rv2 r2 => by
    split at q2
    · rename_i u eu
      obtain ⟨a, z, ex, g, _, z1⟩ := dget_rel r2 rv2 (rv1.step s2) eu
      refine ⟨a, z, ex, g, (C.trans (s1.trans s2)).val r2 ?_ q2⟩
      rcases z1 with ⟨p, q⟩ | ⟨w, zz, e1, e2, rv⟩
      · rw [p, q]; exact rv_bl
      · rw [e1, e2]; exact rv_bl
    · exact q2.elim⟩⟩
theorem de_din (hu : X.A.units + 1 < cLine) (hi : DE X B i di) (ho : DE X B o dd) (h1 : behindInMarks .In o = false := by rfl) : DE X B (.Compare i [.In] [o] pos) (dDIn di dd) := PEi (pe_cmp (pc_din hu hi ho) h1) rd_din
theorem de_dnotin (hu : X.A.units + 1 < cLine) (hi : DE X B i di) (ho : DE X B o dd) (h1 : behindInMarks .NotIn o = false := by rfl) : DE X B (.Compare i [.NotIn] [o] pos) (dDNotIn di dd) := PEi (pe_cmp (pc_dnotin hu hi ho) h1) rd_dnotin
theorem dt_din (hu : X.A.units + 1 < cLine) (hi : DE X B i di) (ho : DE X B o dd) (h1 : behindInMarks .In o = false := by rfl) : DT X B (.Compare i [.In] [o] pos) (dTest (dDIn di dd)) := PTi (pt_cmp (pc_din hu hi ho) h1) (rd_test rd_din)
theorem dt_dnotin (hu : X.A.units + 1 < cLine) (hi : DE X B i di) (ho : DE X B o dd) (h1 : behindInMarks .NotIn o = false := by rfl) : DT X B (.Compare i [.NotIn] [o] pos) (dTest (dDNotIn di dd)) := PTi (pt_cmp (pc_dnotin hu hi ho) h1) (rd_test rd_dnotin)
@[simp] def sDPut (dd dk dv : ED) : SD := fun ρ h D E => dv ρ h (fun v h1 => dd ρ h1 (fun d h2 => dk ρ h2 (fun k h3 => match dputA d k v h3 with
  | some h4 => D.nx ρ h4
  | none => False) E) E) E
theorem ds_dput (hu : X.A.units + 1 < cLine) (ho : DE X B o dd) (hi : DE X B i di) (hv : DE X B e de) (hs : swapsWith e (some (.Subscript o i pos')) pos.line X.env = pure false := by rfl) : DS X B (.Assign [.Subscript o i pos'] e pos) (sDPut dd di de) :=
  PSi (ps_dput hu ho hi hv hs) fun D σ H ⟨ρ, h, D', S, q, C⟩ => ⟨ρ, h, _, S, q, fun v h1 z H1 q1 s1 rv1 r1 => ⟨ρ, h1, _, S.step s1 r1, q1, fun d h2 x H2 q2 s2 rv2 r2 => ⟨ρ, h2, _, S.step (s1.trans s2) r2, q2, fun k h3 y H3 q3 s3 rv3 r3 => by
    split at q3
    · rename_i h4 e4
      obtain ⟨a, H4, ex, g, s4, r4⟩ := dput_rel r3 (rv2.step s3) rv3 (rv1.step (s2.trans s3)) e4
      have s14 := s1.trans (s2.trans (s3.trans s4))
      exact ⟨a, H4, ex, g, C.nx _ _ _ _ q3 s14 (S.step s14 r4)⟩
    · exact q3.elim⟩⟩⟩
@[simp] def dNewK : ED := fun _ h Q _ => ∀ p, h p = none → Q (.ref p) (put h p (.dK []))
@[simp] def dNewT : ED := fun _ h Q _ => ∀ p, h p = none → Q (.ref p) (put h p (.dT []))
theorem de_dnewK : DE X B (.Dict [] [] pos) dNewK := PEi pe_dnewK fun σ H Q ⟨ρ, h, Q', S, q, C⟩ p e => C _ _ _ _ (q p (S.r.nof e)) (Step.new e) (by rw [RV]) (S.r.new e ⟨[], upd_same, rfl⟩)
theorem de_dnewT : DE X B (.Dict [] [] pos) dNewT := PEi pe_dnewT fun σ H Q ⟨ρ, h, Q', S, q, C⟩ p e => C _ _ _ _ (q p (S.r.nof e)) (Step.new e) (by rw [RV]) (S.r.new e ⟨[], upd_same, rfl⟩)
end
end DL
namespace DL
open PySem PySem.Spec PyProof.Rows L2

/-! ### calls with keywords: positional values, then the rest in the parameters' order -/
def gk {α : Type} (np nk : Nat) (us ws : List α) : List α := if us.length = np ∧ ws.length = nk then us ++ ws else []
def FnK (P : Program) (w : World) (K : PySem.W.Frag) (mg : Str → Option Value) (base : Heap) (A : Around) (x : Str) (np : Nat) (ks : List Str) (fs : SpF) : Prop :=
  ∃ (k : Nat) (f : Addr) (fd : FuncData) (ps : List Str), FnOk P w K mg base (L2.CX P w) k f fd ps (spA K mg (np + ks.length) fs) ∧ Room k A ∧ mg x = some (.ref f) ∧ PySem.W.keepIn K (.ref f) = true ∧ KBinds K fd ps ks (gk np ks.length) (gk np ks.length)
abbrev DK (X : Cx) (B : Bs) (kws : List Keyword) (d : AD) : Prop := PK X kws (rdA X.K B d)
section
variable {X : Cx} {B : Bs} {x : Str} {np : Nat} {ks : List Str} {fs : SpF} {p pos kpos : Pos} {e : Expr} {es : List Expr} {kws : List Keyword} {aa dk : AD} {de : ED} {nm : Option Str}
theorem PKi {X : Cx} {e : List Keyword} {t t' : TA} (p : PK X e t) (i : ∀ σ H Q, t' σ H Q → t σ H Q) : PK X e t' := ⟨fun w pins s σ H Q I q => p.run w pins s σ H Q I (i σ H Q q)⟩
theorem dk_nil : DK X B [] aNil := PKi pk_nil fun σ H Q ⟨ρ, h, Q', S, q, C⟩ => C _ _ _ _ q (Step.refl _ _) RVs.nil S.r
theorem dk_cons (ha : DE X B e de) (hr : DK X B kws dk) : DK X B (⟨nm, e, kpos⟩ :: kws) (aCons de dk) :=
  PKi (pk_cons ha hr) fun σ H Q ⟨ρ, h, Q', S, q, C⟩ => ⟨ρ, h, _, S, q, fun v h1 x H1 q1 s1 rv1 r1 =>
    ⟨ρ, h1, _, S.step s1 r1, q1, fun vs h2 xs H2 q2 s2 rv2 r2 => C _ _ _ _ q2 (s1.trans s2) (RVs.cons (rv1.step s2) rv2) r2⟩⟩
@[simp] def dCallK (np nk : Nat) (fs : SpF) (aa dk : AD) : ED := fun ρ h Q E => aa ρ h (fun vs h1 => dk ρ h1 (fun ws h2 => (vs.length = np ∧ ws.length = nk) ∧ fs (vs ++ ws) h2 Q (fun nm pl h' => E nm pl ρ h')) E) E
theorem run_fnkS {CX : CXT} {k : Nat} {f : Addr} {fd : FuncData} {ps : List Str} {sp : Sp} {E : L2.St → XK} {pins : List (Addr × Obj)} {σ : L2.St} {H : Hp} {s : Shared} {Q : VK} {us ws : List Value} {vs zs : List V} {g : List Value → List Value → List Value} {gV : List V → List V → List V} (F : FnOk X.prog X.w X.K X.mg X.base CX k f fd ps sp) (hr : Room k X.A) (hb : KBinds X.K fd ps ks g gV) (hx : PassesAt CX X σ (E σ))
    (I : Inv X pins σ H s) (r : Vals vs us) (rz : Vals zs ws) (h : sp (gV vs zs) H Q (E σ)) : wpAny (model X.prog X.w) X.A (call (.ref f) us (ks.zip ws)) (EP X pins σ Q) X.xe s := by
  have r2 := hb.rel r rz
  have hl : (g us ws).length = ps.length := by rw [← r2.length]; exact F.len _ _ _ _ h
  refine wpAny_call (codeAny_mono (F.run X.A X.stack s H ⟨us, ks.zip ws⟩ (g us ws) (gV vs zs) Q (E σ) hr I.env0 (hb.to s us ws I.kIn hl) r2 h) fun r s' hq => ?_)
  cases r with
  | error e => exact hx pins H s e s' I hq
  | ok fl =>
    cases fl with
    | ret u => exact I.after hq
    | next => exact False.elim hq
    | brk => exact False.elim hq
    | cont => exact False.elim hq
theorem de_callK (F : FnK X.prog X.w X.K X.mg X.base X.A x np ks fs) (tk : TakesB X B) (ha : DA X B (e :: es) aa) (hkw : DK X B kws dk) (hg : Gl X x := by rfl) (hall : (backToKw pos (keywordEach kws X.env)).all (·.1.isSome) = true := by rfl) (hks : (backToKw pos (keywordEach kws X.env)).filterMap (·.1) = ks := by rfl)
    (hdb : (x == ("__debug__" : Str)) = false := by decide) (he : starEach (e :: es) X.env = (false, eval e X.env) :: starEach es X.env := by rfl)
    (hpl : ((backTo pos (starEach (e :: es) X.env)).any (·.1) || (backToKw pos (keywordEach kws X.env)).any (·.1.isNone)) = false := by rfl) :
    DE X B (.Call (.Name x p) (e :: es) kws pos) (dCallK np ks.length fs aa dk) := by
  obtain ⟨k, f, fd, ps, G, hr, hm, hk, hb⟩ := F
  refine ⟨fun pins s σ H Q I ⟨ρ, h, Q', S, q, C⟩ => ?_⟩
  refine wpAny_Call_Name_kw (ld_glob I hg hm ?_ hdb)
  refine PySem.W.callWith_KW (h₀ := X.base) I.ok.mod.kin hk hall (thn (ha.run pos pins s σ H _ I ⟨ρ, h, _, S, q, fun vs h1 xs H1 q1 s1 rv1 r1 => (show (fun xs H1 => ∃ vs h1, Step h H h1 H1 ∧ RVs X.K H1 h1 vs xs ∧ RH X.K H1 h1 ∧ dk ρ h1 (fun ws h2 => (vs.length = np ∧ ws.length = ks.length) ∧ fs (vs ++ ws) h2 Q' (fun nm pl h' => B.E nm pl ρ h')) B.E) xs H1 from ⟨vs, h1, s1, rv1, r1, q1⟩)⟩) fun us s1 ⟨xs, H1, I1, r, vs, h1, st1, rv1, r1, q1⟩ => ?_) hpl he
  refine thn (hkw.run pos pins s1 σ H1 _ I1 ⟨ρ, h1, _, S.step st1 r1, q1, fun ws h2 ys H2 q2 s2 rv2 r2 => (show (fun ys H2 => ∃ ws h2, Step h H h2 H2 ∧ RVs X.K H2 h2 (vs ++ ws) (gk np ks.length xs ys) ∧ RH X.K H2 h2 ∧ (vs.length = np ∧ ws.length = ks.length) ∧ fs (vs ++ ws) h2 Q' (fun nm pl h' => B.E nm pl ρ h')) ys H2 from ⟨ws, h2, st1.trans s2, by rw [show gk np ks.length xs ys = xs ++ ys from if_pos ⟨rv1.len.symm.trans q2.1.1, rv2.len.symm.trans q2.1.2⟩]; exact (rv1.step s2).append rv2, r2, q2⟩)⟩) fun ws2 s2 ⟨ys, H2, I2, rz, ws, h2, st2, rv2, r2, ln, q2⟩ => ⟨I2.kIn, ?_⟩
  rw [hks]
  exact run_fnkS (E := WE (wx X.mg X.K B)) G hr hb (passAt tk σ) I2 r rz ⟨vs ++ ws, h2, Q', _, rv2, r2, by rw [List.length_append, ln.1, ln.2], q2, C.trans st2, fun nm pl h' cls d H' hE s3 r3 hm pld => ⟨nm, pl, ρ, h', hm, S.step (st2.trans s3) r3, pld, hE⟩⟩
theorem de_callK0 (F : FnK X.prog X.w X.K X.mg X.base X.A x np ks fs) (tk : TakesB X B) (hkw : DK X B kws dk) (hg : Gl X x := by rfl) (hall : (backToKw pos (keywordEach kws X.env)).all (·.1.isSome) = true := by rfl) (hks : (backToKw pos (keywordEach kws X.env)).filterMap (·.1) = ks := by rfl)
    (hdb : (x == ("__debug__" : Str)) = false := by decide)
    (hpl : ((backTo pos (starEach [] X.env)).any (·.1) || (backToKw pos (keywordEach kws X.env)).any (·.1.isNone)) = false := by rfl) :
    DE X B (.Call (.Name x p) [] kws pos) (dCallK np ks.length fs aNil dk) := by
  obtain ⟨k, f, fd, ps, G, hr, hm, hk, hb⟩ := F
  refine ⟨fun pins s σ H Q I ⟨ρ, h, Q', S, q, C⟩ => ?_⟩
  refine wpAny_Call_Name_kw (ld_glob I hg hm ?_ hdb)
  refine PySem.W.callWith_KW0 (h₀ := X.base) I.ok.mod.kin hk hall ?_ hpl
  have z := hkw.run pos pins s σ H (fun ys H2 => ∃ ws h2, Step h H h2 H2 ∧ RVs X.K H2 h2 ([] ++ ws) (gk np ks.length [] ys) ∧ RH X.K H2 h2 ∧ (([] : List Val).length = np ∧ ws.length = ks.length) ∧ fs ([] ++ ws) h2 Q' (fun nm pl h' => B.E nm pl ρ h')) I ⟨ρ, h, _, S, q, fun ws h2 ys H2 q2 s2 rv2 r2 => ⟨ws, h2, s2, by rw [show gk np ks.length [] ys = [] ++ ys from if_pos ⟨q2.1.1, rv2.len.symm.trans q2.1.2⟩]; exact rv2, r2, q2⟩⟩
  refine thn z fun ws2 s2 z2 => ?_
  obtain ⟨ys, H2, I2, rz, ws, h2, st2, rv2, r2, ln, q2⟩ := z2
  refine ⟨I2.kIn, ?_⟩
  rw [hks]
  exact run_fnkS (us := []) (vs := []) (E := WE (wx X.mg X.K B)) G hr hb (passAt tk σ) I2 .nil rz ⟨[] ++ ws, h2, Q', _, rv2, r2, by rw [List.length_append, ln.1, ln.2], q2, C.trans st2, fun nm pl h' cls d H' hE s3 r3 hm pld => ⟨nm, pl, ρ, h', hm, S.step (st2.trans s3) r3, pld, hE⟩⟩
end
theorem gk_vals {np nk : Nat} {vs : List V} {us : List Value} {zs : List V} {ws : List Value} (a : Vals vs us) (b : Vals zs ws) : Vals (gk np nk vs zs) (gk np nk us ws) := by
  unfold gk
  rw [a.length, b.length]
  split
  · exact a.append b
  · exact .nil
/-- how a def's arguments bind, the last ones by their names -/
theorem kbinds {K : PySem.W.Frag} {x qual : Str} {st : Stmt} {f : Addr} {fd : FuncData} {ps ks : List Str} {np : Nat} (F : Fun K x qual st f fd) (hp : ps ≠ [])
    (h : ∀ (kV doc pm : Value) (an : Option Addr) (cdv ct : Value) (us ws : List Value), us.length = np → ws.length = ks.length → bindArgs (PySem.W.fnOf x qual (defArgs st) (defBody st) (defScope st) .none kV doc pm an cdv ct) ⟨us, ks.zip ws⟩ = pure (ps.zip (us ++ ws))) : KBinds K fd ps ks (gk np ks.length) (gk np ks.length) := by
  obtain ⟨oc, od, kV, doc, pm, an, cdv, ct, osl, rfl, lk, hcd⟩ := F.ex
  refine ⟨fun s us ws _ hl => ?_, fun a b => gk_vals a b⟩
  unfold gk at hl ⊢
  split at hl
  · rename_i e
    rw [if_pos e]
    exact .of_eq (h kV doc pm an cdv ct us ws e.1 e.2)
  · exact absurd (List.eq_nil_of_length_eq_zero hl.symm) hp

/-! ### a displayed dict -/
@[simp] def dPairs : List (ED × ED) → Sl → Hv → (List (Val × Val) → Hv → Prop) → PX → Prop
  | [], _, h, Q, _ => Q [] h
  | (dk, dv) :: r, ρ, h, Q, E => dk ρ h (fun k h1 => dv ρ h1 (fun v h2 => dPairs r ρ h2 (fun ps h3 => Q ((k, v) :: ps) h3) E) E) E
@[simp] def kvsOf : List (Val × Val) → Option (List (Key × Val))
  | [] => some []
  | (k, v) :: r => match keyOf k, kvsOf r with
    | some k, some r => some ((k, v) :: r)
    | _, _ => none
@[simp] def mergeA (kvs more : List (Key × Val)) : List (Key × Val) := more.foldl (fun acc kv => putA acc kv.1 kv.2) kvs
def dDisp (ps : List (ED × ED)) : ED := fun ρ h Q E => ∀ p, h p = none → dPairs ps ρ (put h p .busy) (fun kvs h2 => match kvsOf kvs with
  | some kvs => kvs.length ≤ 15 ∧ Q (.ref p) (put h2 p (.dK (mergeA [] kvs)))
  | none => False) E
def RPs (K : PySem.W.Frag) (H : Hp) (h : Hv) : List (Val × Val) → List (V × V) → Prop
  | [], xs => xs = []
  | (k, v) :: r, xs => ∃ y z ys, xs = (y, z) :: ys ∧ RV K H h k y ∧ RV K H h v z ∧ RPs K H h r ys
theorem RPs.step {K : PySem.W.Frag} {H H' : Hp} {h h' : Hv} (s : Step h H h' H') : ∀ {ps : List (Val × Val)} {xs : List (V × V)}, RPs K H h ps xs → RPs K H' h' ps xs
  | [], xs, r => r
  | (k, v) :: ps, xs, r => by
    obtain ⟨y, z, ys, e, r1, r2, r3⟩ := r
    exact ⟨y, z, ys, e, r1.step s, r2.step s, RPs.step s r3⟩
theorem kvs_rel {K : PySem.W.Frag} {H : Hp} {h : Hv} : ∀ {ps : List (Val × Val)} {xs : List (V × V)} {kvs : List (Key × Val)}, RPs K H h ps xs → kvsOf ps = some kvs → ∃ ws : List (Key × V), xs = ws.map (fun kv => (kV kv.1, kv.2)) ∧ RKs K H h kvs ws
  | [], xs, kvs, r, e => by cases e; exact ⟨[], r, rfl⟩
  | (k, v) :: ps, xs, kvs, r, e => by
    obtain ⟨y, z, ys, e1, r1, r2, r3⟩ := r
    unfold kvsOf at e
    split at e
    · rename_i kk rr h1 h2
      cases e
      obtain ⟨ws, e2, rw'⟩ := kvs_rel r3 h2
      refine ⟨(kk, z) :: ws, ?_, z, ws, rfl, r2, rw'⟩
      rw [e1, e2, keyOf_rel r1 h1]; rfl
    · cases e
theorem merge_rel {K : PySem.W.Frag} {H : Hp} {h : Hv} : ∀ {more : List (Key × Val)} {ws : List (Key × V)} {kvs : List (Key × Val)} {xs : List (Key × V)}, RKs K H h more ws → RKs K H h kvs xs → RKs K H h (mergeA kvs more) (mergeK xs ws)
  | [], ws, kvs, xs, r, q => by rw [show ws = [] from r]; exact q
  | (k, v) :: more, ws, kvs, xs, r, q => by
    obtain ⟨y, ys, e, r1, r2⟩ := r
    rw [e]
    show RKs K H h (mergeA (putA kvs k v) more) (mergeK (putK xs k y) ys)
    exact merge_rel r2 (q.put r1)
section
variable {X : Cx} {B : Bs} {pos : Pos}
def trsOf (K : PySem.W.Frag) (B : Bs) (ps : List (ED × ED)) : List (TE × TE) := ps.map fun p => (rdE K B p.1, rdE K B p.2)
theorem pairs_rel {K : PySem.W.Frag} {B : Bs} : ∀ (ps : List (ED × ED)) {σ : L2.St} {H : Hp} {ρ : Sl} {h : Hv} {Q' : List (Val × Val) → Hv → Prop} {Q : List (V × V) → Hp → Prop}, ST K B σ H ρ h → dPairs ps ρ h Q' B.E →
    (∀ kvs h' xs H', Q' kvs h' → Step h H h' H' → RPs K H' h' kvs xs → RH K H' h' → Q xs H') → tPairs (trsOf K B ps) σ H Q
  | [], σ, H, ρ, h, Q', Q, S, q, C => C _ _ _ _ q (Step.refl _ _) rfl S.r
  | (dk, dv) :: ps, σ, H, ρ, h, Q', Q, S, q, C => by
    refine ⟨ρ, h, _, S, q, fun k h1 y H1 q1 s1 rv1 r1 => ⟨ρ, h1, _, S.step s1 r1, q1, fun v h2 z H2 q2 s2 rv2 r2 => ?_⟩⟩
    exact pairs_rel ps (S.step (s1.trans s2) r2) q2 fun kvs h3 xs H3 q3 s3 rp r3 => C _ _ _ _ q3 (s1.trans (s2.trans s3)) ⟨y, z, xs, rfl, rv1.step (s2.trans s3), rv2.step s3, rp⟩ r3
theorem de_disp {keys : List (Option Expr)} {values : List Expr} {ps : List (ED × ED)} (h : PPs X pos keys values (trsOf X.K B ps)) (hall : keys.all (·.isSome) = true := by rfl) (hl : keys.length = values.length := by rfl) (h0 : keys ≠ [] := by exact fun z => nomatch z)
    (h15 : keys.length ≤ 15 := by decide) : DE X B (.Dict keys values pos) (dDisp ps) := by
  refine PEi (pe_disp h hall hl h0 h15) fun σ H Q ⟨ρ, h, Q', S, q, C⟩ p e => ?_
  have nh : h p = none := S.r.nof e
  have s0 : Step h H (put h p .busy) (upd H p (.dK [])) := Step.new e
  have r0 : RH X.K (upd H p (.dK [])) (put h p .busy) := S.r.new e ⟨_, upd_same, .inr ⟨_, rfl⟩⟩
  refine pairs_rel ps (S.step s0 r0) (q p nh) fun kvs h2 xs H2 q2 s2 rp r2 => ?_
  have b2 := s2.b p _ upd_same put_same
  refine ⟨b2.1, ?_⟩
  split at q2
  · rename_i kvs' ek
    obtain ⟨ws, e1, rw'⟩ := kvs_rel rp ek
    refine ⟨ws, e1, by rw [← rw'.len]; exact q2.1, ?_⟩
    have sN : StepN h2 H2 (put h2 p (.dK (mergeA [] kvs'))) (upd H2 p (.dK (mergeK [] ws))) := fun a o ea n _ => by
      have : a ≠ p := fun z => by rw [z, b2.2] at n; cases n
      rw [upd_ne this, put_ne this]
      exact ⟨ea, n⟩
    have sf : Step h H (put h2 p (.dK (mergeA [] kvs'))) (upd H2 p (.dK (mergeK [] ws))) := ⟨fun a o ea n t => by
      obtain ⟨e2, n2⟩ := (s0.trans s2).n a o ea n t
      exact sN a o e2 n2 t, fun a o ea n => by
      have ne : a ≠ p := ne_of_none ea e
      rw [upd_ne ne, put_ne ne]
      exact (s0.trans s2).b a o ea n⟩
    refine C _ _ _ _ q2.2 sf (by rw [RV]) fun a o qa => ?_
    by_cases ha : a = p
    · subst ha
      rw [put_same] at qa
      cases qa
      exact ⟨_, upd_same, (merge_rel rw' (show RKs X.K H2 h2 [] [] from rfl)).stepN sN⟩
    · rw [put_ne ha] at qa
      exact (r2 a o qa).stepN sN fun _ z => by rw [upd_ne ha]; exact z
  · exact q2.elim
end
end DL
namespace DL
open PySem PySem.Spec PyProof.Rows L2
open PySem.AutoSeq1 (wpAny_loadPart')
open PySem.MeetsSeq PySem.MeetsSeq2 PySem.MeetsSeq3
theorem tuple_mul1 (l : Addr) (items : Array Value) (n : Nat) (dd : Option Addr) (sl : Array (Option Value)) (x : Int) (u : Tok) (c0 : (decide (x < -(2 ^ 63)) || decide (x ≥ 2 ^ 63)) = false) (c1 : (items.isEmpty || x == 1) = true) :
    Meets (Builtin.«tuple.__mul__» ⟨[.ref l, .int x u], []⟩) (fun _ R s => s.heap.get? l = some { cls := .type "tuple", dict := dd, data := .seq items n, slots := sl } ∧ R (.ok (.ret (Value.ref l))) s) :=
  .of_wp fun prog w A R s h => by
    obtain ⟨hp, g, d, tk, os⟩ := s
    obtain ⟨hl, h⟩ := h
    have f1 := AutoSeq1.idx_int
    wp_walk using wpAny_loadPart' hl
    refine wpAny_ite_false (decide_eq_false (by rw [c0]; exact Bool.false_ne_true)) ?_
    wp_walk using wpAny_loadPart' hl
    exact ⟨_, rfl, h⟩
theorem tuple_mul0 (l : Addr) (items : Array Value) (n : Nat) (dd : Option Addr) (sl : Array (Option Value)) (x : Int) (u : Tok) (c0 : (decide (x < -(2 ^ 63)) || decide (x ≥ 2 ^ 63)) = false) (c1 : (items.isEmpty || x == 1) = false) (c2 : (decide (x ≤ 0) || items.isEmpty) = true) :
    Meets (Builtin.«tuple.__mul__» ⟨[.ref l, .int x u], []⟩) (fun _ R s => s.heap.get? l = some { cls := .type "tuple", dict := dd, data := .seq items n, slots := sl } ∧
      R (.ok (.ret (Value.ref s.heap.objs.size))) { s with heap := s.heap.push { cls := Value.type "tuple", data := Data.seq #[] }, toks := s.toks }) :=
  .of_wp fun prog w A R s h => by
    obtain ⟨hp, g, d, tk, os⟩ := s
    obtain ⟨hl, h⟩ := h
    have f1 := AutoSeq1.idx_int
    wp_walk using wpAny_loadPart' hl
    repeat (first
      | (refine wpAny_ite_false (decide_eq_false (by rw [c0]; exact Bool.false_ne_true)) ?_; wp_walk using wpAny_loadPart' hl)
      | (refine wpAny_ite_false (decide_eq_false (by rw [c1]; exact Bool.false_ne_true)) ?_; wp_walk using wpAny_loadPart' hl)
      | (refine wpAny_ite_true (decide_eq_true c2) ?_; wp_walk using wpAny_loadPart' hl))
    exact ⟨_, rfl, h⟩
def rRepA (K : PySem.W.Frag) : R2 := fun x y H Q => ∃ l k xs, x = .ref l ∧ y = .int k ∧ SqT K H l xs ∧ -1000 ≤ k ∧ k ≤ 1000 ∧ xs.length ≤ 1000 ∧
  ((xs = [] ∨ k = 1) → Q (.ref l) H) ∧ (xs ≠ [] → k ≤ 0 → ∀ p, H p = none → Q (.ref p) (upd H p (.tup []))) ∧ (xs ≠ [] → 2 ≤ k → ∀ p, H p = none → Q (.ref p) (upd H p (.tup (List.replicate k.toNat xs).flatten)))
theorem op_repA {X : Cx} : OpR X (binaryOp .Mult) (rRepA X.K) := by
  intro pins s σ H x y v u Q I rx ry h
  obtain ⟨l, k, xs, e1, e2, hT, h1, h2, hz, q1, q2, q3⟩ := h
  by_cases hc : xs ≠ [] ∧ 2 ≤ k
  · exact op_repT pins s σ H x y v u Q I rx ry ⟨l, k, xs, e1, e2, hT, hc.1, hc.2, h2, hz, q3 hc.1 hc.2⟩
  subst e1; subst e2
  cases rx
  obtain ⟨t, rfl⟩ := ry
  obtain ⟨its, r, ⟨⟨cls, dd, data, sl⟩, ho, hcc, n, hd⟩, hs⟩ := I.tuple hT
  simp only at hcc hd
  subst hcc hd
  have hle : its.length = xs.length := r.length.symm
  have c0 : (decide (k < -(2 ^ 63)) || decide (k ≥ 2 ^ 63)) = false := by
    rw [decide_eq_false (by omega), decide_eq_false (by omega)] <;> rfl
  by_cases hx : xs = [] ∨ k = 1
  · have c1 : (its.toArray.isEmpty || k == 1) = true := by
      rcases hx with hx | hx
      · have : its = [] := List.eq_nil_of_length_eq_zero (by rw [hle, hx]; rfl)
        rw [this]; rfl
      · rw [hx]; simp
    exact wpAny_binaryOp_repeat_ref (T := "tuple") (U := "int") (by decide) ⟨_, ho, rfl⟩ (fun s' => typeIs_int s' k t) noFill_tuple_mul F.fills_int_mul F.slot_int_rmul repeat_tuple F.slot_int_index.lookup
      (call_meets F.slot_int_rmul (typeIs_int s k t) F.entry_int_rmul (F.args_int_rmul_2 _ _) (int_rmul_tuple k t l its.toArray n dd sl)
        ⟨ho, rfl, ⟨_, ho, rfl⟩, call_meets F.slot_tuple_mul ⟨_, ho, rfl⟩ F.entry_tuple_mul (F.args_tuple_mul_2 _ _) (tuple_mul1 l its.toArray n dd sl k t c0 c1) ⟨ho, ⟨.ref l, H, I, rfl, q1 hx⟩⟩⟩)
  · have hn : xs ≠ [] := fun z => hx (.inl z)
    have hk : k ≤ 0 := by
      apply Int.not_lt.mp
      intro hk
      exact hc ⟨hn, by have : k ≠ 1 := fun z => hx (.inr z); omega⟩
    have hi : its.toArray.isEmpty = false := by
      cases its with
      | nil => exact absurd (List.eq_nil_of_length_eq_zero hle.symm) hn
      | cons a b => rfl
    have c1 : (its.toArray.isEmpty || k == 1) = false := by
      rw [hi, Bool.false_or]
      exact beq_eq_false_iff_ne.mpr (by omega)
    have c2 : (decide (k ≤ 0) || its.toArray.isEmpty) = true := by rw [decide_eq_true hk]; rfl
    refine wpAny_binaryOp_repeat_ref (T := "tuple") (U := "int") (by decide) ⟨_, ho, rfl⟩ (fun s' => typeIs_int s' k t) noFill_tuple_mul F.fills_int_mul F.slot_int_rmul repeat_tuple F.slot_int_index.lookup
      (call_meets F.slot_int_rmul (typeIs_int s k t) F.entry_int_rmul (F.args_int_rmul_2 _ _) (int_rmul_tuple k t l its.toArray n dd sl)
        ⟨ho, rfl, ⟨_, ho, rfl⟩, call_meets F.slot_tuple_mul ⟨_, ho, rfl⟩ F.entry_tuple_mul (F.args_tuple_mul_2 _ _) (tuple_mul0 l its.toArray n dd sl k t c0 c1 c2) ⟨ho, ?_⟩⟩)
    refine ⟨.ref s.heap.objs.size, _, I.laid (t' := s.toks) (o := .tup []) (fun b ob q => Heap.get?_push_of_some _ q) (Nat.le_refl _) ?_, rfl, q2 hn hk _ (I.hok.fresh (Nat.le_refl _))⟩
    exact ⟨Nat.zero_le _, [], .nil, IsTup.new _ _⟩
@[simp] def fMulA : F2 := fun v w h Q => match v, w with
  | .int i, .int j => CMul i j ∧ Q (.int (i * j)) h
  | .tup xs, .int k => -1000 ≤ k ∧ k ≤ 1000 ∧ xs.length ≤ 1000 ∧ Q (.tup (List.replicate k.toNat xs).flatten) h
  | _, _ => False
theorem or_mul {X : Cx} : OpR X (binaryOp .Mult) (fun x y H Q => rI CMul (fun i j => .int (i * j)) x y H Q ∨ rRepA X.K x y H Q) := op_mul.or op_repA
theorem RVs.rep {K : PySem.W.Frag} {H : Hp} {h : Hv} {vs : List Val} {xs : List V} (r : RVs K H h vs xs) : ∀ k : Nat, RVs K H h (List.replicate k vs).flatten (List.replicate k xs).flatten
  | 0 => RVs.nil
  | k + 1 => by rw [List.replicate_succ, List.replicate_succ, List.flatten_cons, List.flatten_cons]; exact r.append (RVs.rep r k)
theorem ol_mul {K : PySem.W.Frag} : OpL K fMulA (fun x y H Q => rI CMul (fun i j => .int (i * j)) x y H Q ∨ rRepA K x y H Q) := fun v w x y h H Q' Q r rv rw' q c => by
  unfold fMulA at q
  split at q
  · rw [RV] at rv rw'; exact .inl ⟨_, _, rv, rw', q.1, c.val r rv_int q.2⟩
  · rename_i vs k
    have rv0 := rv
    rw [RV] at rv
    rw [RV] at rw'
    obtain ⟨a, xs, e1, n, ha, rs⟩ := rv
    obtain ⟨h1, h2, h3, q⟩ := q
    refine .inr ⟨a, k, xs, e1, rw', .of ha, h1, h2, by rw [← rs.len]; exact h3, fun hx => ?_, fun hx hk p e => ?_, fun hx hk p e => c.tup r (rs.rep _) e q⟩
    · rw [← e1]
      rcases hx with hx | hx
      · have : vs = [] := List.eq_nil_of_length_eq_zero (by rw [rs.len, hx]; rfl)
        subst this
        have : (List.replicate k.toNat ([] : List Val)).flatten = [] := by simp
        rw [this] at q
        exact c.val r rv0 q
      · subst hx
        simp only [Int.toNat_one, List.replicate_one, List.flatten_singleton] at q
        exact c.val r rv0 q
    · have : k.toNat = 0 := by omega
      rw [this] at q
      exact c.tup r RVs.nil e q
  · exact q.elim
/-! ### x[::-1] -/
theorem rev_pick (xs : Array Value) : ((List.range xs.size).filterMap fun (k : Nat) => xs[(((xs.size : Int) - 1) + (k : Int) * (-1)).toNat]?) = xs.toList.reverse := by
  have e : (fun (k : Nat) => xs[(((xs.size : Int) - 1) + (k : Int) * (-1)).toNat]?) = fun k => xs[xs.size - 1 - k]? := by
    funext k
    have : (((xs.size : Int) - 1) + (k : Int) * (-1)).toNat = xs.size - 1 - k := by omega
    rw [this]
  rw [e]
  have := PySem.W.krv_range xs.size
  have h2 : (List.range xs.size).filterMap (fun k => xs[xs.size - 1 - k]?) = ((List.range xs.size).map fun k => xs.size - 1 - k).filterMap (fun j => xs[j]?) := by
    rw [List.filterMap_map]; rfl
  rw [h2, this, List.filterMap_reverse, PySem.W.krv_all]
section
variable {prog : Program} {w : World} {A : Around} {E : Value → Shared → Prop} {s : Shared}
theorem getItem_tuple_rev {t sl : Addr} {items : Array Value} {vk : Value} {Q : Value → Shared → Prop} (ht : IsTup s.heap t items) (hs : s.heap.IsSliceOf sl .none .none vk) (pk : IsPart vk (some (-1)))
    (h : Q (.ref s.heap.objs.size) { s with heap := s.heap.push { cls := .type "tuple", data := .seq items.toList.reverse.toArray } })
    (hsz : items.size ≤ sizeLine) : wpAny (model prog w) A (getItem (.ref t) (.ref sl)) Q E s := by
  have htake : sizeOk (.seq items.toList.reverse.toArray) := by
    show items.toList.reverse.toArray.size ≤ sizeLine
    rw [List.size_toArray, List.length_reverse, Array.length_toList]
    omega
  obtain ⟨os, hos, hcs, hds⟩ := id hs
  have hTs : s.TypeIs (.ref sl) "slice" := ⟨os, hos, hcs⟩
  unfold getItem
  try with_reducible refine wpAny_holding ?_
  first | refine wpAny_bind (wpAny_pure ?_) | skip
  refine wpAny_bind (wpAny_sequenceKey ht.typeIs (by decide) ?_)
  refine wpAny_bind (wpAny_callSpecial?_slot (name := Str.ofString "__getitem__") ht.typeIs PyProof.Rows.slot_tuple_getitem
    (wpAny_call_entry PyProof.Rows.slot_tuple_getitem ht.typeIs entry_tuple_getitem ?_ (args_tuple_getitem _ _)))
  show wpAny _ _ (Builtin.Tuple.tupleItemsOf (.ref t) >>= _) _ _ s
  refine wpAny_bind (tupleItemsOf_ ht ?_)
  refine wpAny_bind (wpAny_typeOf hTs ?_)
  rw [if_pos (by decide)]
  have ap : ∀ {Q : Int × Int × Nat → Shared → Prop}, Q ((items.size : Int) - 1, -1, items.size) s → wpAny (model prog w) (A.under (.builtin "tuple.__getitem__" ⟨[.ref t, .ref sl], []⟩)) (Builtin.Slice.sliceApplied (.ref sl) (pure (items.size : Int))) Q E s := fun {Q} h => by
    unfold Builtin.Slice.sliceApplied Builtin.Slice.sliceFields
    refine wpAny_bind (wpAny_bind (wpAny_field hos hds (x := .none) rfl (wpAny_bind (wpAny_field hos hds (x := .none) rfl (wpAny_bind (wpAny_field hos hds (x := vk) rfl (wpAny_pure ?_)))))))
    refine wpAny_bind (HT.slicePart_ pk ?_)
    show wpAny _ _ (if ((-1 : Int) == 0) = true then _ else _) _ _ s
    rw [if_neg (by decide)]
    refine wpAny_bind (slicePart_none (wpAny_bind (slicePart_none (wpAny_bind (wpAny_pure ?_)))))
    show wpAny _ _ (pure ((items.size : Int) - 1, (-1 : Int), Builtin.Slice.slicePlaces ((items.size : Int) - 1) (-1) (-1))) _ _ s
    have e : Builtin.Slice.slicePlaces ((items.size : Int) - 1) (-1) (-1) = items.size := by
      unfold Builtin.Slice.slicePlaces
      have h1 : ¬ ((-1 : Int) > 0) := by decide
      rw [if_neg h1]
      by_cases h2 : (items.size : Int) - 1 > -1
      · rw [if_pos h2]
        have : ((items.size : Int) - 1 - -1 - 1) / (- -1) + 1 = (items.size : Int) := by
          rw [show (- -1 : Int) = 1 by decide, Int.ediv_one]
          omega
        rw [this]; omega
      · rw [if_neg h2]; omega
    rw [e]
    exact wpAny_pure h
  refine wpAny_bind ?_
  refine ap ?_
  have hno : ¬ ((((items.size : Int) - 1) == 0 && (-1 : Int) == 1 && items.size == items.size) = true) := by
    intro q
    rw [Bool.and_eq_true, Bool.and_eq_true] at q
    exact absurd q.1.2 (by decide)
  show wpAny _ _ (if ((((items.size : Int) - 1) == 0 && (-1 : Int) == 1 && items.size == items.size)) = true then _ else _) _ _ s
  rw [if_neg hno, rev_pick]
  first
    | exact wpAny_bind (m := Builtin.Tuple.tupleExact _) (wpAny_newObj_type (wpAny_pure ⟨_, rfl, wpAny_pure h⟩) htake)
    | exact wpAny_bind (m := Builtin.Tuple.tupleExact _) (wpAny_newObj_type (wpAny_bind (wpAny_pure (wpAny_pure ⟨_, rfl, wpAny_pure h⟩))) htake)
    | exact wpAny_bind (wpAny_bind (m := Builtin.Tuple.tupleExact _) (wpAny_newObj_type (wpAny_pure (wpAny_pure ⟨_, rfl, wpAny_pure h⟩)) htake))
    | exact wpAny_bind (wpAny_bind (m := Builtin.Tuple.tupleExact _) (wpAny_newObj_type (wpAny_pure ⟨_, rfl, wpAny_pure h⟩) htake))
end
/-- x[::-1] of a list or a tuple -/
def tRevA (K : PySem.W.Frag) (te : TE) : TE := fun σ H Q => te σ H fun x H1 => (∃ a xs, x = .ref a ∧ SqL K H1 a xs ∧ ∀ p, H1 p = none → Q (.ref p) (upd H1 p (.lst xs.reverse))) ∨ ∃ a xs, x = .ref a ∧ SqT K H1 a xs ∧ ∀ p, H1 p = none → Q (.ref p) (upd H1 p (.tup xs.reverse))
theorem pe_revA {X : Cx} {e : Expr} {te : TE} {k : Nat} {p1 p2 p3 pos : Pos} (he : PE X e te) : PE X (.Subscript e (.Slice none none (some (.UnaryOp .USub (.Constant (.int 1) k p1) p2)) p3) pos) (tRevA X.K te) := by
  refine ⟨fun pins s σ H Q I h => ?_⟩
  refine Subscript_ (thn (he.run pins s σ H _ I h) fun v s1 ⟨x, H1, I1, r1, q1⟩ => ?_)
  have hst : PO X (some (.UnaryOp .USub (.Constant (.int 1) k p1) p2)) (tPart (tUn (rU fun i => .int (-i)) (tC (.int 1)))) := po_some (pe_un un_neg pe_int)
  have hnone : ∀ {s : Shared} {H1 : Hp} {R : Value → Shared → Prop}, Inv X pins σ H1 s → (∀ s', Inv X pins σ H1 s' → R .none s') → wpAny (model X.prog X.w) X.A (evalPart none X.env) R X.xe s := fun {s H1 R} I h => by
    rw [evalPart_none]
    exact wpAny_pure (h s I)
  refine wpAny_Slice (hnone I1 fun s2 I2 => hnone I2 fun s3 I3 => ?_)
  refine thn (hst.run pins s3 σ H1 (fun o H4 => o = some (-1) ∧ H4 = H1) I3 ⟨1, rfl, -1, rfl, rfl, rfl⟩) fun vs s4 ⟨o, H4, I4, ps, eo, e4⟩ => ?_
  subst eo e4
  have I5 : Inv X pins σ H4 { s4 with heap := s4.heap.push { cls := .type "slice", data := .fields #[.none, .none, vs] } } := I4.kept (t' := s4.toks) fun b ob q => Heap.get?_push_of_some _ q
  rcases q1 with ⟨a, xs, ex, hx, q⟩ | ⟨a, xs, ex, hx, q⟩
  · subst ex
    cases r1
    obtain ⟨its, r, ht, hz⟩ := I5.list hx
    have hlen := r.length
    show wpAny (model X.prog X.w) X.A (subscriptTail e (.Slice none none (some (.UnaryOp .USub (.Constant (.int 1) k p1) p2)) p3) (.ref a) (.ref s4.heap.objs.size)) (EP X pins σ Q) X.xe { s4 with heap := s4.heap.push { cls := .type "slice", data := .fields #[.none, .none, vs] } }
    refine tail_any (ops := [.ref a, .ref s4.heap.objs.size]) ht.isList.typeIs (PySem.slot_list_getitem.lookup) ?_ (by with_unfolding_all rfl)
    refine wpAny_getItem_list_slice ht.isList (Heap.IsSliceOf.new _ .none .none vs) .none .none ps (by decide) ?_ (by rw [List.size_toArray]; omega)
    rw [PySem.W.krv_pick]
    refine ⟨.ref _, _, I5.laid (t' := s4.toks) (o := .lst xs.reverse) (fun b ob q => Heap.get?_push_of_some _ q) (Nat.le_refl _) ?_, rfl, q _ (I5.hok.fresh (Nat.le_refl _))⟩
    exact ⟨by rw [List.length_reverse]; exact hz, _, 0, r.reverse, Heap.get?_push_size _ rfl⟩
  · subst ex
    cases r1
    obtain ⟨its, r, ht, hz⟩ := I5.tuple hx
    have hlen := r.length
    show wpAny (model X.prog X.w) X.A (subscriptTail e (.Slice none none (some (.UnaryOp .USub (.Constant (.int 1) k p1) p2)) p3) (.ref a) (.ref s4.heap.objs.size)) (EP X pins σ Q) X.xe { s4 with heap := s4.heap.push { cls := .type "slice", data := .fields #[.none, .none, vs] } }
    refine tail_any (ops := [.ref a, .ref s4.heap.objs.size]) ht.typeIs (PyProof.Rows.slot_tuple_getitem.lookup) ?_ (by with_unfolding_all rfl)
    refine getItem_tuple_rev ht (Heap.IsSliceOf.new _ .none .none vs) ps ?_ (by rw [List.size_toArray]; omega)
    refine ⟨.ref _, _, I5.laid (t' := s4.toks) (o := .tup xs.reverse) (fun b ob q => Heap.get?_push_of_some _ q) (Nat.le_refl _) ?_, rfl, q _ (I5.hok.fresh (Nat.le_refl _))⟩
    exact ⟨by rw [List.length_reverse]; exact hz, _, r.reverse, IsTup.new _ _⟩
@[simp] def dRev (d : ED) : ED := fun ρ h Q E => d ρ h (fun v h1 => match v with
  | .tup vs => Q (.tup vs.reverse) h1
  | v => match listOf v h1 with
    | some vs => Q (.lst vs.reverse) h1
    | none => False) E
theorem de_rev {X : Cx} {B : Bs} {e : Expr} {d : ED} {k : Nat} {p1 p2 p3 pos : Pos} (he : DE X B e d) : DE X B (.Subscript e (.Slice none none (some (.UnaryOp .USub (.Constant (.int 1) k p1) p2)) p3) pos) (dRev d) :=
  PEi (pe_revA he) fun σ H Q ⟨ρ, h, Q', S, q, C⟩ => ⟨ρ, h, _, S, q, fun v h1 x H1 q1 s1 rv1 r1 => by
    have C1 := C.trans s1
    split at q1
    · rename_i vs
      rw [RV] at rv1
      obtain ⟨a, xs, e1, n, ha, rs⟩ := rv1
      exact .inr ⟨a, xs, e1, .of ha, fun p e => C1.tup r1 rs.reverse e q1⟩
    · split at q1
      · rename_i vs ev
        obtain ⟨a, xs, e1, ha, rs⟩ := listOf_rel r1 rv1 ev
        exact .inl ⟨a, xs, e1, .of ha, fun p e => C1.lst r1 rs.reverse e q1⟩
      · exact q1.elim⟩
end DL
namespace DL
open PySem PySem.Spec PyProof.Rows L2
/-! ### names of builtins -/
theorem bt_len : bootBuiltins "len" = some (.builtin "len") := by decide +kernel
theorem bt_all : bootBuiltins "all" = some (.builtin "all") := by decide +kernel
theorem bt_any : bootBuiltins "any" = some (.builtin "any") := by decide +kernel
theorem bt_sum : bootBuiltins "sum" = some (.builtin "sum") := by decide +kernel
theorem bt_sorted : bootBuiltins "sorted" = some (.builtin "sorted") := by decide +kernel
theorem bt_isinstance : bootBuiltins "isinstance" = some (.builtin "isinstance") := by decide +kernel
theorem bt_min : bootBuiltins "min" = some (.builtin "min") := by decide +kernel
theorem bt_max : bootBuiltins "max" = some (.builtin "max") := by decide +kernel
theorem bt_tuple : bootBuiltins "tuple" = some (.type "tuple") := by decide +kernel
theorem bt_list : bootBuiltins "list" = some (.type "list") := by decide +kernel
theorem bt_int : bootBuiltins "int" = some (.type "int") := by decide +kernel
theorem bt_bool : bootBuiltins "bool" = some (.type "bool") := by decide +kernel
theorem bt_str : bootBuiltins "str" = some (.type "str") := by decide +kernel
theorem bt_dict : bootBuiltins "dict" = some (.type "dict") := by decide +kernel
theorem bt_set : bootBuiltins "set" = some (.type "set") := by decide +kernel
/-! ### targets, for the printer -/
section
variable {X : Cx} {pos : Pos}
theorem gt_name {i : Nat} {x : Str} (hN : X.N.Nodup) (hi : X.N[i]? = some x) (hx : Loc X.env.scope x) (hf : X.fn x = true ∨ X.env.scope.names.lookup x = some .local := by first | exact .inl rfl | exact .inr rfl | assumption) : PG X (.Name x pos) (gT X.K (.nm i)) := by
  rw [gT]; exact pg_name hN hi hx hf
theorem gts_nil : PGs X [] (gTs X.K []) := by rw [gTs]; exact pgs_nil
theorem gts_cons {e : Expr} {es : List Expr} {t : Tg} {ts : List Tg} (h1 : PG X e (gT X.K t)) (h2 : PGs X es (gTs X.K ts))
    (hs : (assignEach (e :: es) X.env).map (·.2) = assign e X.env :: (assignEach es X.env).map (·.2) := by rfl) : PGs X (e :: es) (gTs X.K (t :: ts)) := by
  rw [gTs]; exact pgs_cons h1 h2 hs
theorem gt_tup {es : List Expr} {k : Nat} {ts : List Tg} (hc : X.calm = true) (h : PGs X es (gTs X.K ts))
    (hn : (assignEach es X.env).length = ts.length := by rfl) (hst : (assignEach es X.env).findIdx? (·.1) = none := by rfl) : PG X (.Tuple es k pos) (gT X.K (.tp ts)) := by
  rw [gT]; exact pg_tup hc h hn hst
end
/-- a def with its level -/
def FnR (P : Program) (w : World) (K : PySem.W.Frag) (mg : Str → Option Value) (base : Heap) (k : Nat) (x : Str) (n : Nat) (fs : SpF) : Prop :=
  ∃ (f : Addr) (fd : FuncData) (ps : List Str), FnOk P w K mg base (L2.CX P w) k f fd ps (spA K mg n fs) ∧ mg x = some (.ref f) ∧ PySem.W.keepIn K (.ref f) = true ∧ Binds K fd ps []
theorem FnR.at {P : Program} {w : World} {K : PySem.W.Frag} {mg : Str → Option Value} {base : Heap} {k j : Nat} {x : Str} {n : Nat} {fs : SpF} {A : Around} (F : FnR P w K mg base k x n fs) (hr : Room j A) (h : k ≤ j := by decide) : Fn P w K mg base A x n fs :=
  let ⟨f, fd, ps, a, b, c, d⟩ := F; ⟨k, f, fd, ps, a, hr.mono h, b, c, d⟩
def FnKR (P : Program) (w : World) (K : PySem.W.Frag) (mg : Str → Option Value) (base : Heap) (k : Nat) (x : Str) (np : Nat) (ks : List Str) (fs : SpF) : Prop :=
  ∃ (f : Addr) (fd : FuncData) (ps : List Str), FnOk P w K mg base (L2.CX P w) k f fd ps (spA K mg (np + ks.length) fs) ∧ mg x = some (.ref f) ∧ PySem.W.keepIn K (.ref f) = true ∧ KBinds K fd ps ks (gk np ks.length) (gk np ks.length)
theorem FnKR.at {P : Program} {w : World} {K : PySem.W.Frag} {mg : Str → Option Value} {base : Heap} {k j : Nat} {x : Str} {np : Nat} {ks : List Str} {fs : SpF} {A : Around} (F : FnKR P w K mg base k x np ks fs) (hr : Room j A) (h : k ≤ j := by decide) : FnK P w K mg base A x np ks fs :=
  let ⟨f, fd, ps, a, b, c, d⟩ := F; ⟨k, f, fd, ps, a, hr.mono h, b, c, d⟩
end DL
namespace DL
open PySem PySem.Spec PyProof.Rows L2
/-! ### what is never reached -/
def dDead : ED := fun _ _ _ _ => False
def sDead : SD := fun _ _ _ _ => False
section
variable {X : Cx} {B : Bs}
theorem de_dead {e : Expr} : DE X B e dDead := ⟨fun _ _ _ _ _ _ ⟨_, _, _, _, q, _⟩ => q.elim⟩
theorem ds_dead {s : Stmt} : DS X B s sDead := ⟨fun _ _ _ _ _ _ ⟨_, _, _, _, q, _⟩ => q.elim⟩
end
/-! ### sorting -/
section
variable {α : Type} (le : α → α → Bool)
def insB (x : α) : List α → List α
  | [] => [x]
  | y :: r => if le x y = true then x :: y :: r else y :: insB x r
def srtB : List α → List α
  | [] => []
  | x :: r => insB le x (srtB r)
variable {le}
theorem insB_perm (x : α) : ∀ l, (insB le x l).Perm (x :: l)
  | [] => List.Perm.refl _
  | y :: r => by
    unfold insB
    split
    · exact List.Perm.refl _
    · exact ((insB_perm x r).cons y).trans (List.Perm.swap x y r)
theorem srtB_perm : ∀ l : List α, (srtB le l).Perm l
  | [] => List.Perm.refl _
  | x :: r => (insB_perm x (srtB le r)).trans ((srtB_perm r).cons x)
theorem insB_srt (tot : ∀ a b, le a b = true ∨ le b a = true) (tr : ∀ a b c, le a b = true → le b c = true → le a c = true) (x : α) : ∀ {l}, l.Pairwise (fun a b => le a b = true) → (insB le x l).Pairwise (fun a b => le a b = true)
  | [], _ => by unfold insB; simp
  | y :: r, h => by
    rw [List.pairwise_cons] at h
    unfold insB
    split
    · rename_i hxy
      rw [List.pairwise_cons]
      refine ⟨fun z hz => ?_, List.pairwise_cons.mpr h⟩
      rcases List.mem_cons.mp hz with e | e
      · rw [e]; exact hxy
      · exact tr x y z hxy (h.1 z e)
    · rename_i hxy
      have hyx := (tot y x).resolve_right hxy
      rw [List.pairwise_cons]
      refine ⟨fun z hz => ?_, insB_srt tot tr x h.2⟩
      rcases List.mem_cons.mp ((insB_perm x r).subset hz) with e | e
      · rw [e]; exact hyx
      · exact h.1 z e
theorem srtB_srt (tot : ∀ a b, le a b = true ∨ le b a = true) (tr : ∀ a b c, le a b = true → le b c = true → le a c = true) : ∀ l : List α, (srtB le l).Pairwise (fun a b => le a b = true)
  | [] => List.Pairwise.nil
  | x :: r => insB_srt tot tr x (srtB_srt tot tr r)
theorem srt_unique (asym : ∀ a b, le a b = true → le b a = true → a = b) : ∀ {l m : List α}, l.Perm m → l.Pairwise (fun a b => le a b = true) → m.Pairwise (fun a b => le a b = true) → l = m
  | [], m, p, _, _ => (List.Perm.nil_eq p)
  | x :: r, [], p, _, _ => absurd p.length_eq (by simp)
  | x :: r, y :: t, p, h1, h2 => by
    rw [List.pairwise_cons] at h1 h2
    have hx : x = y := by
      have m1 : x ∈ y :: t := p.subset List.mem_cons_self
      have m2 : y ∈ x :: r := p.symm.subset List.mem_cons_self
      rcases List.mem_cons.mp m1 with e | e
      · exact e
      · rcases List.mem_cons.mp m2 with e2 | e2
        · exact e2.symm
        · exact asym x y (h1.1 y e2) (h2.1 x e)
    subst hx
    rw [srt_unique asym ((List.perm_cons x).mp p) h1.2 h2.2]
theorem srtB_eq (tot : ∀ a b, le a b = true ∨ le b a = true) (tr : ∀ a b c, le a b = true → le b c = true → le a c = true) (asym : ∀ a b, le a b = true → le b a = true → a = b) {l m : List α} (p : l.Perm m) (h : l.Pairwise (fun a b => le a b = true)) : l = srtB le m :=
  srt_unique asym (p.trans (srtB_perm m).symm) h (srtB_srt tot tr m)
theorem srtB_congr (tot : ∀ a b, le a b = true ∨ le b a = true) (tr : ∀ a b c, le a b = true → le b c = true → le a c = true) (asym : ∀ a b, le a b = true → le b a = true → a = b) {l m : List α} (p : l.Perm m) : srtB le l = srtB le m :=
  srtB_eq tot tr asym ((srtB_perm l).trans p) (srtB_srt tot tr l)
end
def leI (a b : Int) : Bool := decide (a ≤ b)
def sortI (ns : List Int) : List Int := srtB leI ns
theorem leI_tot (a b : Int) : leI a b = true ∨ leI b a = true := by unfold leI; simp; omega
theorem leI_tr (a b c : Int) (h : leI a b = true) (h' : leI b c = true) : leI a c = true := by unfold leI at *; simp at *; omega
theorem leI_as (a b : Int) (h : leI a b = true) (h' : leI b a = true) : a = b := by unfold leI at *; simp at *; omega
theorem sortI_eq {l m : List Int} (p : l.Perm m) (h : l.Pairwise (· ≤ ·)) : l = sortI m := srtB_eq leI_tot leI_tr leI_as p (h.imp fun h => decide_eq_true h)
theorem sortI_perm (ns : List Int) : (sortI ns).Perm ns := srtB_perm ns
theorem sortI_congr {l m : List Int} (p : l.Perm m) : sortI l = sortI m := srtB_congr leI_tot leI_tr leI_as p
def leS (a b : Str) : Bool := !decide (b.cps.toList < a.cps.toList)
def sortZ (zs : List Str) : List Str := srtB leS zs
theorem leS_iff {a b : Str} : leS a b = true ↔ ¬ b.cps.toList < a.cps.toList := by unfold leS; simp [-Array.lt_toList]
theorem str_ext {a b : Str} (h : a.cps.toList = b.cps.toList) : a = b := by
  obtain ⟨⟨l⟩⟩ := a
  obtain ⟨⟨m⟩⟩ := b
  simp at h
  rw [h]
theorem leS_tot (a b : Str) : leS a b = true ∨ leS b a = true := by
  rw [leS_iff, leS_iff]
  by_cases h : b.cps.toList < a.cps.toList
  · exact .inr (List.lt_asymm h)
  · exact .inl h
theorem leS_tr (a b c : Str) (h : leS a b = true) (h' : leS b c = true) : leS a c = true := by
  rw [leS_iff] at *
  exact List.not_lt.mpr (List.le_trans (List.not_lt.mp h) (List.not_lt.mp h'))
theorem leS_as (a b : Str) (h : leS a b = true) (h' : leS b a = true) : a = b := by
  rw [leS_iff] at *
  exact str_ext (List.le_antisymm (List.not_lt.mp h) (List.not_lt.mp h'))
theorem ltCps_iff (a b : List Nat) : ltCps a b = true ↔ a < b := by
  rw [PyProof.Rows.ltCps_eq, decide_eq_true_eq]
theorem risingS_pw : ∀ {zs : List Str} {p : Str}, risingS p zs = true → (p :: zs).Pairwise fun a b => leS a b = true
  | [], p, _ => by simp
  | x :: r, p, h => by
    unfold risingS at h
    rw [Bool.and_eq_true] at h
    have hpx : leS p x = true := by
      rw [leS_iff, ← ltCps_iff]
      simpa using h.1
    have i := risingS_pw h.2
    rw [List.pairwise_cons]
    refine ⟨fun z hz => ?_, i⟩
    rcases List.mem_cons.mp hz with e | e
    · rw [e]; exact hpx
    · exact leS_tr p x z hpx ((List.pairwise_cons.mp i).1 z e)
theorem sortZ_eq {l m : List Str} (p : l.Perm m) (h : sortedS l = true) : l = sortZ m := by
  refine srtB_eq leS_tot leS_tr leS_as p ?_
  cases l with
  | nil => exact List.Pairwise.nil
  | cons x r => exact risingS_pw h
theorem sortZ_perm (ns : List Str) : (sortZ ns).Perm ns := srtB_perm ns
theorem sortZ_congr {l m : List Str} (p : l.Perm m) : sortZ l = sortZ m := srtB_congr leS_tot leS_tr leS_as p
@[simp] def strsOf : List Val → Option (List Str)
  | [] => some []
  | .str z :: r => (strsOf r).map (z :: ·)
  | _ => none
theorem strsOf_eq : ∀ {vs : List Val} {zs : List Str}, strsOf vs = some zs → vs = zs.map .str
  | [], zs, e => by cases e; rfl
  | v :: r, zs, e => by
    cases v with
    | str z =>
      simp only [strsOf, Option.map_eq_some_iff] at e
      obtain ⟨ys, e1, rfl⟩ := e
      rw [strsOf_eq e1]; rfl
    | _ => simp [strsOf] at e
theorem strsOf_map (zs : List Str) : strsOf (zs.map Val.str) = some zs := by
  induction zs with
  | nil => rfl
  | cons z r ih => simp [strsOf, ih]
/-- sorted(xs): ints, or fewer than 64 texts -/
def fSorted : FA := fun vs h Q => match vs with
  | [v] => match (listOf v h).bind intsOf, (listOf v h).bind strsOf with
    | some ns, _ => Q (.lst ((sortI ns).map .int)) h
    | none, some zs => zs.length < 64 ∧ Q (.lst ((sortZ zs).map .str)) h
    | none, none => False
  | _ => False
def rSortedAll (K : PySem.W.Frag) : List V → Hp → VK → Prop := fun vs H Q => rSortedI K vs H Q ∨ rSortedS K vs H Q
section
variable {X : Cx} {K : PySem.W.Frag}
theorem CallR.or {f : Value} {r r' : List V → Hp → VK → Prop} (a : CallR X f r) (b : CallR X f r') : CallR X f (fun vs H Q => r vs H Q ∨ r' vs H Q) := by
  intro pins s σ H vs us Q I rv h
  rcases h with h | h
  · exact a pins s σ H vs us Q I rv h
  · exact b pins s σ H vs us Q I rv h
theorem cr_sortedAll : CallR X (.builtin "sorted") (rSortedAll X.K) := CallR.or cr_sortedI cr_sortedS
theorem cl_sorted : CaL K fSorted (rSortedAll K) := fun vs xs h H Q' Q r rs q c => by
  unfold fSorted at q
  split at q
  · obtain ⟨x, e, rv⟩ := rvs1 rs
    split at q
    · rename_i ns eb
      obtain ⟨ws, e1, e2⟩ := Option.bind_eq_some_iff.mp ‹_›
      obtain ⟨a, ys, e3, ha, rss⟩ := listOf_rel r rv e1
      rw [intsOf_eq e2] at rss
      rw [rss.ints] at ha
      refine .inl ⟨a, ns, by rw [e, e3], .of ha, fun ns' p pm pw hp => ?_⟩
      rw [sortI_eq pm pw]
      exact c.lst r (RVs.ofInts _) hp q
    · rename_i zs e0 eb
      obtain ⟨ws, e1, e2⟩ := Option.bind_eq_some_iff.mp eb
      obtain ⟨a, ys, e3, ha, rss⟩ := listOf_rel r rv e1
      rw [strsOf_eq e2] at rss
      rw [rss.strs] at ha
      refine .inr ⟨a, zs, by rw [e, e3], .of ha, q.1, fun ns' p pm pw hp => ?_⟩
      rw [sortZ_eq pm pw]
      exact c.lst r (RVs.ofStrs _) hp q.2
    · exact q.elim
  · exact q.elim
/-! ### min, max of two -/
def fMin2 : FA := fun vs h Q => match vs with
  | [.int i, .int j] => Q (.int (if j < i then j else i)) h
  | _ => False
def fMax2 : FA := fun vs h Q => match vs with
  | [.int i, .int j] => Q (.int (if j > i then j else i)) h
  | _ => False
theorem cl_min2 : CaL K fMin2 (fun xs H Q => ∃ i j, xs = [.int i, .int j] ∧ Q (.int (if j < i then j else i)) H) := fun vs xs h H Q' Q r rs q c => by
  unfold fMin2 at q
  split at q
  · rename_i i j
    have : xs = [.int i, .int j] := RVs.ints (ns := [i, j]) rs
    exact ⟨i, j, this, c.val r rv_int q⟩
  · exact q.elim
theorem cl_max2 : CaL K fMax2 (fun xs H Q => ∃ i j, xs = [.int i, .int j] ∧ Q (.int (if j > i then j else i)) H) := fun vs xs h H Q' Q r rs q c => by
  unfold fMax2 at q
  split at q
  · rename_i i j
    have : xs = [.int i, .int j] := RVs.ints (ns := [i, j]) rs
    exact ⟨i, j, this, c.val r rv_int q⟩
  · exact q.elim
end
/-! ### len(set(xs)) of ints -/
def metI (ns : List Int) : List Int := firstMet (fun i => ns.getD i 0) ns.length
def tLenSetG (K : PySem.W.Frag) (ta : TE) : TE := fun σ H Q => ta σ H fun x H1 => ∃ (l : Addr) (ns : List Int), x = .ref l ∧ SqL K H1 l (ns.map V.int) ∧ ns.length ≤ 4000 ∧ Q (.int ((metI ns).length : Nat)) H1
theorem pe_lenSetG {X : Cx} {a : Expr} {ta : TE} {p p2 q pos : Pos} (hg : Gl X "len") (hm : X.mg "len" = none) (hg2 : Gl X "set") (hm2 : X.mg "set" = none) (ha : PE X a ta) (hc : X.calm = true := by rfl)
    (na : starEach [a] X.env = (false, eval a X.env) :: starEach [] X.env := by rfl) : PE X (.Call (.Name "len" p) [.Call (.Name "set" p2) [a] [] q] [] pos) (tLenSetG X.K ta) := by
  refine ⟨fun pins s σ H Q I h => ?_⟩
  refine Call_ (ld_blt I hg hm boot_len ?_)
  refine PyProof.Rows.callWith_builtin1 (PyProof.Rows.args_cons ?_ rfl) rfl rfl
  refine Call_ (ld_blt I hg2 hm2 boot_set ?_)
  refine PyProof.Rows.callWith_type1 (PyProof.Rows.args_cons (thn (ha.run pins s σ H _ I h) fun v s1 ⟨x, H1, I1, r1, q1⟩ => PyProof.Rows.args_nil ?_) na) na rfl
  obtain ⟨l, ns, rfl, hq, hl, q1⟩ := q1
  cases r1
  obtain ⟨its, r, pl, hz⟩ := I1.list hq
  have hlen : its.toArray.size = ns.length := by rw [List.size_toArray, ← r.length, List.length_map]
  refine call_set_list (I1.ok.hd hc) pl.isList (by simpa using RZ.intsAre_vals r) (by rw [hlen]; unfold scanBound; omega) fun h' tk hS hk => ?_
  refine PyProof.Rows.args_nil ?_
  rw [hlen] at hS
  obtain ⟨o, es, ep, t, ho, hex, hd, _, _, _, hf, hn⟩ := hS
  have I2 : Inv X pins σ H1 { s1 with heap := h', toks := tk } := I1.kept fun b o e => hk b o (Heap.lt_size e) e
  have hle : (metI ns).length ≤ ns.length := firstMet_length_le _ _
  exact call_len_set ho hex hd hf (by rw [hn]; unfold metI at hle; omega) ⟨.int ((metI ns).length : Nat), H1, I2.tok _, ⟨_, by rw [hn]; rfl⟩, q1⟩
def dLenSet (de : ED) : ED := fun ρ h Q E => de ρ h (fun v h1 => match (listOf v h1).bind intsOf with
  | some ns => ns.length ≤ 4000 ∧ Q (.int ((metI ns).length : Nat)) h1
  | none => False) E
theorem de_lenSet {X : Cx} {B : Bs} {a : Expr} {da : ED} {p p2 q pos : Pos} (hg : Gl X "len") (hm : X.mg "len" = none) (hg2 : Gl X "set") (hm2 : X.mg "set" = none) (ha : DE X B a da) (hc : X.calm = true := by rfl)
    (na : starEach [a] X.env = (false, eval a X.env) :: starEach [] X.env := by rfl) : DE X B (.Call (.Name "len" p) [.Call (.Name "set" p2) [a] [] q] [] pos) (dLenSet da) :=
  PEi (pe_lenSetG hg hm hg2 hm2 ha hc na) fun σ H Q ⟨ρ, h, Q', S, q, C⟩ => ⟨ρ, h, _, S, q, fun v h1 x H1 q1 s1 rv1 r1 => by
    split at q1
    · rename_i ns eb
      obtain ⟨ws, e1, e2⟩ := Option.bind_eq_some_iff.mp eb
      obtain ⟨a, ys, e3, ha, rss⟩ := listOf_rel r1 rv1 e1
      rw [intsOf_eq e2] at rss
      rw [rss.ints] at ha
      exact ⟨a, ns, e3, .of ha, q1.1, (C.trans s1).val r1 rv_int q1.2⟩
    · exact q1.elim⟩
end DL
namespace PySem
set_option maxHeartbeats 1000000 in
theorem meets_enumerate_new1 {v : Value} {o : Obj} {H : Heap → Prop} (B : Begins v o H) :
    Meets (Builtin.«enumerate.__new__» ⟨[.type "enumerate", v], []⟩) (fun _ R s => H s.heap ∧
      R (.ok (.ret (.ref (s.heap.push o).objs.size))) { s with heap := (s.heap.push o).push { cls := .type "enumerate", data := .fields #[.none, .bool false, .ref s.heap.objs.size, rawInt 0, .none, .none] } }) :=
  .of_wp fun prog w A R s h => by
    obtain ⟨hp, g, d, tk, os⟩ := s; obtain ⟨h1, h⟩ := h
    have hsub := sub_enumerate
    have q1 : ∀ {A' : Around} {E : Value → Shared → Prop} {Q : Value → Shared → Prop}, Q (.ref hp.objs.size) ⟨hp.push o, g, d, tk, os⟩ → wpAny (model prog w) A' (pyIter v) Q E ⟨hp, g, d, tk, os⟩ :=
      fun q => B.iter prog w _ _ ⟨hp, g, d, tk, os⟩ _ h1 q
    wp_walk using q1
    refine wpAny_stack_any fun st => wpAny_pure ?_
    split
    · rename_i c _ _ _ _ _
      cases (c == Value.type "enumerate")
      · wp_walk using q1
        exact ⟨_, rfl, h⟩
      · wp_walk using q1
        exact ⟨_, rfl, h⟩
    · wp_walk using q1
      exact ⟨_, rfl, h⟩
theorem enum_begins1 {prog : Program} {w : World} {A : Around} {E : Value → Shared → Prop} {s : Shared} {v : Value} {o : Obj} {H : Heap → Prop} {Q : Value → Shared → Prop} (B : Begins v o H) (h1 : H s.heap)
    (h : ∀ h', IsEnum h' (s.heap.objs.size + 1) s.heap.objs.size 0 .none → h'.get? s.heap.objs.size = some o → h'.objs.size = s.heap.objs.size + 2 →
      (∀ b o, s.heap.get? b = some o → h'.get? b = some o) → Q (.ref (s.heap.objs.size + 1)) { s with heap := h' }) :
    wpAny (model prog w) A (call (.type "enumerate") [v]) Q E s := by
  refine callType_new F.called_enumerate (by decide) (F.typeCall_enumerate_1 _) (F.newCall_enumerate_1 _) (fun obj => F.args_object_init_2 obj _) F.entry_enumerate_new
    (meets_enumerate_new1 B) ⟨h1, ?_⟩
  have hz : (s.heap.push o).objs.size = s.heap.objs.size + 1 := Heap.size_push ..
  show _ ∧ _
  rw [hz]
  have he : IsEnum ((s.heap.push o).push { cls := .type "enumerate", data := .fields #[.none, .bool false, .ref s.heap.objs.size, rawInt 0, .none, .none] }) (s.heap.objs.size + 1) s.heap.objs.size 0 .none := by
    have := Heap.get?_push_size (s.heap.push o) (o := { cls := .type "enumerate", data := .fields #[.none, .bool false, .ref s.heap.objs.size, rawInt 0, .none, .none] }) rfl
    rw [hz] at this; exact this
  refine ⟨⟨_, he, rfl⟩, h _ he (Heap.get?_push_of_some _ (Heap.get?_push_size _ B.free)) (by rw [Heap.size_push, hz]) fun b o x => Heap.get?_push_of_some _ (Heap.get?_push_of_some _ x)⟩
end PySem
namespace DL
open PySem PySem.Spec PyProof.Rows L2
/-! ### enumerate over a tuple -/
def IteT (K : PySem.W.Frag) (a : Addr) : It :=
  ⟨fun i H => ∃ (xs : List V) (x : V), SqT K H a xs ∧ xs[i]? = some x, fun i H v H' => ∃ T x, v = .ref T ∧ H T = none ∧ H' = upd H T (.tup [.int (i : Nat), x]) ∧ ∀ xs, SqT K H a xs → xs[i]? = some x, fun i H => ∃ xs : List V, SqT K H a xs ∧ xs.length = i⟩
theorem turn_enumT {P : Program} {w : World} {K : PySem.W.Frag} {elts : List Expr} {kk : Nat} {tpos : Pos} (a e it : Addr) :
    Turn P w K (.Tuple elts kk tpos) (IteT K a) [e, it] e (fun i h => (∃ old, IsEnum h e it ((i : Nat) : Int) old) ∧ h.IsTupleIter it a i ∧ e ≠ it ∧ a ≠ it ∧ a ≠ e) where
  mem := by simp
  obj := fun i h st b hb => by
    obtain ⟨⟨old, he⟩, ⟨o, ho, hc, hd⟩, _⟩ := st
    have e' : b = e ∨ b = it := by simpa using hb
    rcases e' with z | z
    · rw [z]; exact ⟨_, he, fun v q => nomatch q⟩
    · rw [z]; exact ⟨o, ho, fun v q => by rw [hd] at q; cases q⟩
  keep := fun i h h' st k => let ⟨⟨old, he⟩, hi, hne⟩ := st; ⟨⟨old, k e (by simp) _ he⟩, hi.at fun o q => k it (by simp) o q, hne⟩
  item := by
    intro X hP hw hK hc i pins s σ H E I hf st hg
    subst hP hw hK
    obtain ⟨⟨old, he⟩, hit, hne, ha1, ha2⟩ := st
    obtain ⟨xs, x, hq, hx⟩ := hg
    obtain ⟨its, rv, p, hz⟩ := I.tuple hq
    obtain ⟨u, hu, ru⟩ := rv.get hx
    have hel : e < s.heap.objs.size := Heap.lt_size he
    have hil : it < s.heap.objs.size := by obtain ⟨_, q, _⟩ := hit; exact Heap.lt_size q
    have pt : s.heap.IsTuple a its.toArray := p
    have hh1 : X.A.in1.handled = none := I.ok.hd hc
    have hi' : i < its.toArray.size := by
      obtain ⟨hlt, _⟩ := List.getElem?_eq_some_iff.mp hu
      simpa using hlt
    refine wpAny_pyNext_enum_itemD (Draws.tuple hh1 it a ha1 its.toArray) he ⟨hit, pt⟩ hi' hne (by simp; exact ⟨hne, ha2.symm⟩) fun x' h' tk hP ho hst hT hsz hk => ?_
    have ex : x' = u := by
      have : its.toArray[i]? = some u := by simpa using hu
      rw [this] at hP
      exact (Option.some.inj hP).symm
    subst ex
    refine ⟨_, rfl, wpAny_letOwnedTupleGo_enum (s := { s with heap := h', toks := tk + 1 }) ho fun h'' he' sb => ?_⟩
    have hT2 : h''.get? s.heap.objs.size = some { cls := .type "tuple", data := .seq #[.int i tk, x'] } := (sb.2 _ (Nat.ne_of_gt hel)).trans hT
    have new : ObjOk X.prog X.w (upd H s.heap.objs.size (.tup [.int (i : Nat), x])) h'' s.heap.objs.size (.tup [.int (i : Nat), x]) :=
      ⟨by show 2 ≤ sizeLine; decide, [.int i tk, x'], .cons ⟨_, rfl⟩ (.cons ru .nil), ⟨_, hT2, rfl, _, rfl⟩⟩
    have I1 : Inv X pins σ (upd H s.heap.objs.size (.tup [.int (i : Nat), x])) { s with heap := h'', toks := tk + 1 } :=
      I.turnedNew (ch := [e, it]) (fun b ob hb q => (sb.2 b (fun z => hb (by simp [z]))).trans (hk b ob (fun z => hb (by simp [z])) (fun z => hb (by simp [z])) q)) hf (Nat.le_refl _) new
    refine ⟨.ref s.heap.objs.size, _, I1, rfl, ⟨_, x, rfl, I.hok.fresh (Nat.le_refl _), rfl, fun ys hy => by rw [I.tuple_inj hy hq]; exact hx⟩, ⟨⟨x', ?_⟩, hst.1.at fun o q => (sb.2 it (Ne.symm hne)).trans q, hne, ha1, ha2⟩, fun b hb => ?_⟩
    · have e1 : ((i + 1 : Nat) : Int) = (i : Int) + 1 := by omega
      rw [e1]; exact he'
    · have hb' : b < s.heap.objs.size := by
        have e' : b = e ∨ b = it := by simpa using hb
        rcases e' with z | z
        · rw [z]; exact hel
        · rw [z]; exact hil
      rw [upd_ne (Nat.ne_of_lt hb')]
      exact (hf b hb).1
  done := by
    intro X hP hw hK hc i pins s σ H E I hf st hg
    subst hP hw hK
    obtain ⟨⟨old, he⟩, hit, hne, ha1, ha2⟩ := st
    obtain ⟨xs, hq, hx⟩ := hg
    obtain ⟨its, rv, p, hz⟩ := I.tuple hq
    obtain ⟨f0, f1, f2, f3, f4, f5⟩ := hf it (by simp)
    have hl := rv.length
    have pt : s.heap.IsTuple a its.toArray := p
    have hh1 : X.A.in1.handled = none := I.ok.hd hc
    have hsz : its.toArray.size = i := by simp; omega
    have st' : (fun i h => h.IsTupleIter it a i ∧ h.IsTuple a its.toArray) its.toArray.size s.heap := by rw [hsz]; exact ⟨hit, pt⟩
    exact wpAny_pyNext_enum_endD (Draws.tuple hh1 it a ha1 its.toArray) he st' fun h' eb => ⟨rfl, I.turned (t' := s.toks) (fun b o hb q => eb b o hb q) f0 f1 f3 f4 f5⟩
  self := fun A i s Q E st h => let ⟨⟨_, he⟩, _⟩ := st; wpAny_pyIter_enum he h
def iEnumA (K : PySem.W.Frag) (ta : TA) : TI := fun σ H R => ta σ H fun vs H1 => ∃ a xs, vs = [.ref a] ∧ ((SqL K H1 a xs ∧ R (Ite K a) H1) ∨ (SqT K H1 a xs ∧ R (IteT K a) H1))
theorem pi_enumA {X : Cx} {e : Expr} {ta : TA} {p pos tpos : Pos} {elts : List Expr} {kk : Nat} (hg : Gl X "enumerate") (hm : X.mg "enumerate" = none) (ha : PA X [e] ta) (hs : starEach [e] X.env = [(false, eval e X.env)] := by rfl) :
    PI X (.Tuple elts kk tpos) (.Call (.Name "enumerate" p) [e] [] pos) (iEnumA X.K ta) := by
  refine ⟨fun pins s σ H R I h => ?_⟩
  refine Call_ (ld_blt I hg hm boot_enumerate (PyProof.Rows.callWith_type1 (thn (ha.run pos pins s σ H _ I h) fun us s1 ⟨vs, H1, I1, r1, q1⟩ => ?_) hs rfl))
  obtain ⟨a, xs, ex, q1⟩ := q1
  subst ex
  cases r1 with
  | cons r rr =>
    cases rr
    cases r
    have fp : ∀ b ∈ [s1.heap.objs.size + 1, s1.heap.objs.size], FpOk X pins H1 b := fun b hb => by
      have e' : b = s1.heap.objs.size + 1 ∨ b = s1.heap.objs.size := by simpa using hb
      have hle : s1.heap.objs.size ≤ b := by
        rcases e' with z | z
        · rw [z]; exact Nat.le_add_right _ _
        · rw [z]; exact Nat.le_refl _
      exact I1.fpOk hle (I1.hok.fresh hle)
    rcases q1 with ⟨hq, q⟩ | ⟨hq, q⟩
    · obtain ⟨its, rv, p', hz⟩ := I1.list hq
      refine call_enumerate_list p'.isList fun h' he hit hsz hk => wpAny_pyIter_enum he ?_
      have I2 : Inv X pins σ H1 { s1 with heap := h' } := I1.kept (t' := s1.toks) hk
      exact ⟨s1.heap.objs.size + 1, [s1.heap.objs.size + 1, s1.heap.objs.size], _, _, H1, rfl, I2, turn_enum a (s1.heap.objs.size + 1) s1.heap.objs.size, ⟨⟨.none, he⟩, hit, Nat.succ_ne_self _⟩, fp, q⟩
    · obtain ⟨its, rv, p', hz⟩ := I1.tuple hq
      have pt : s1.heap.IsTuple a its.toArray := p'
      have hal : a < s1.heap.objs.size := by obtain ⟨o, ho, _⟩ := id p'; exact Heap.lt_size ho
      refine enum_begins1 (begins_tuple a its.toArray) pt fun h' he hit hsz hk => wpAny_pyIter_enum he ?_
      have I2 : Inv X pins σ H1 { s1 with heap := h' } := I1.kept (t' := s1.toks) hk
      exact ⟨s1.heap.objs.size + 1, [s1.heap.objs.size + 1, s1.heap.objs.size], _, _, H1, rfl, I2, turn_enumT a (s1.heap.objs.size + 1) s1.heap.objs.size, ⟨⟨.none, he⟩, ⟨_, hit, rfl, rfl⟩, Nat.succ_ne_self _, Nat.ne_of_lt hal, Nat.ne_of_lt (Nat.lt_succ_of_lt hal)⟩, fp, q⟩
/-- what enumerate goes through -/
def enumV (vs : List Val) : List Val := (vs.zip (List.range vs.length)).map fun p => Val.tup [.int (p.2 : Nat), p.1]
theorem enumV_get {vs : List Val} {i : Nat} {u : Val} (h : (enumV vs)[i]? = some u) : ∃ v, vs[i]? = some v ∧ u = .tup [.int (i : Nat), v] := by
  unfold enumV at h
  rw [List.getElem?_map, Option.map_eq_some_iff] at h
  obtain ⟨⟨a, b⟩, h1, h2⟩ := h
  rw [List.getElem?_zip_eq_some] at h1
  obtain ⟨h3, h4⟩ := h1
  have : b = i := by
    obtain ⟨_, e⟩ := List.getElem?_eq_some_iff.mp h4
    simpa using e.symm
  subst this
  exact ⟨a, h3, h2.symm⟩
theorem enumV_len (vs : List Val) : (enumV vs).length = vs.length := by unfold enumV; simp
theorem ite_rel {K : PySem.W.Frag} {h : Hv} {H : Hp} {a : Addr} {vs : List Val} {ok : Hv → Prop} (e : ∀ h2 H2, StepN h H h2 H2 → RH K H2 h2 → ok h2 → ∃ xs, SqL K H2 a xs ∧ RVs K H2 h2 vs xs) : ItRel K ⟨enumV vs, ok⟩ (Ite K a) h H := fun h2 H2 s2 r2 o2 => by
  obtain ⟨xs, hq, rs⟩ := e h2 H2 s2 r2 o2
  refine ⟨fun i v hv => ?_, xs, hq, by show xs.length ≤ (enumV vs).length; rw [enumV_len, rs.len]; exact Nat.le_refl _⟩
  obtain ⟨w, hw, rfl⟩ := enumV_get hv
  obtain ⟨x, ex, rx⟩ := rs.get hw
  refine ⟨⟨xs, x, hq, ex⟩, fun y H3 hy => ?_⟩
  obtain ⟨T, x', ez, nT, eH, hx⟩ := hy
  have := hx xs hq
  rw [ex] at this
  cases this
  subst ez eH
  exact pair_rel r2 rv_int rx nT
theorem iteT_rel {K : PySem.W.Frag} {h : Hv} {H : Hp} {a : Addr} {vs : List Val} {ok : Hv → Prop} (e : ∀ h2 H2, StepN h H h2 H2 → RH K H2 h2 → ok h2 → ∃ xs, SqT K H2 a xs ∧ RVs K H2 h2 vs xs) : ItRel K ⟨enumV vs, ok⟩ (IteT K a) h H := fun h2 H2 s2 r2 o2 => by
  obtain ⟨xs, hq, rs⟩ := e h2 H2 s2 r2 o2
  refine ⟨fun i v hv => ?_, xs, hq, by show xs.length = (enumV vs).length; rw [enumV_len, rs.len]⟩
  obtain ⟨w, hw, rfl⟩ := enumV_get hv
  obtain ⟨x, ex, rx⟩ := rs.get hw
  refine ⟨⟨xs, x, hq, ex⟩, fun y H3 hy => ?_⟩
  obtain ⟨T, x', ez, nT, eH, hx⟩ := hy
  have := hx xs hq
  rw [ex] at this
  cases this
  subst ez eH
  exact pair_rel r2 rv_int rx nT
@[simp] def dEnum (aa : AD) : ID := fun ρ h Q E => aa ρ h (fun vs h1 => match vs with
  | [.tup us] => Q ⟨enumV us, fun _ => True⟩ h1
  | [.lst us] => Q ⟨enumV us, fun _ => True⟩ h1
  | [.ref a] => (match h1 a with
    | some (.lst us) => Q ⟨enumV us, fun h' => h' a = some (.lst us)⟩ h1
    | _ => False)
  | _ => False) E
theorem di_enum {X : Cx} {B : Bs} {e : Expr} {aa : AD} {p pos tpos : Pos} {elts : List Expr} {kk : Nat} (hg : Gl X "enumerate") (hm : X.mg "enumerate" = none) (ha : DA X B [e] aa) (hs : starEach [e] X.env = [(false, eval e X.env)] := by rfl) :
    DI X B (.Tuple elts kk tpos) (.Call (.Name "enumerate" p) [e] [] pos) (dEnum aa) :=
  PIi (pi_enumA hg hm ha hs) fun σ H R ⟨ρ, h, Q', S, q, C⟩ => ⟨ρ, h, _, S, q, fun vs h1 xs H1 q1 s1 rv1 r1 => by
    split at q1
    · rename_i us
      obtain ⟨x, e1, rx⟩ := rvs1 rv1
      rw [RV] at rx
      obtain ⟨a, ys, ea, na, ha, ra⟩ := rx
      exact ⟨a, ys, by rw [e1, ea], .inr ⟨.of ha, C _ h1 H1 _ q1 s1 r1 (iteT_rel fun h2 H2 s2 r2 _ => ⟨ys, .of (s2 a _ ha na nt_tup).1, ra.stepN s2⟩)⟩⟩
    · rename_i us
      obtain ⟨x, e1, rx⟩ := rvs1 rv1
      rw [RV] at rx
      obtain ⟨a, ys, ea, na, ha, ra⟩ := rx
      exact ⟨a, ys, by rw [e1, ea], .inl ⟨.of ha, C _ h1 H1 _ q1 s1 r1 (ite_rel fun h2 H2 s2 r2 _ => ⟨ys, .of (s2 a _ ha na nt_lst).1, ra.stepN s2⟩)⟩⟩
    · rename_i a
      obtain ⟨x, e1, rx⟩ := rvs1 rv1
      rw [RV] at rx
      subst rx
      split at q1
      · rename_i us eu
        obtain ⟨ys, hy, ry⟩ := r1 a _ eu
        exact ⟨a, ys, e1, .inl ⟨.of hy, C _ h1 H1 _ q1 s1 r1 (ite_rel fun h2 H2 s2 r2 o2 => by
          obtain ⟨zs, hz, rz⟩ := r2 a _ o2
          exact ⟨zs, .of hz, rz⟩)⟩⟩
      · exact q1.elim
    · exact q1.elim⟩
/-! ### xs[i] = v in a list -/
@[simp] def sLPut (dd dk dv : ED) : SD := fun ρ h D E => dv ρ h (fun v h1 => dd ρ h1 (fun d h2 => dk ρ h2 (fun k h3 => match d, k with
  | .ref a, .int i => (match h3 a with
    | some (.lst us) => (match ixN us.length i with
      | some j => D.nx ρ (put h3 a (.lst (us.set j v)))
      | none => False)
    | _ => False)
  | _, _ => False) E) E) E
theorem RVs.setv {K : PySem.W.Frag} {H : Hp} {h : Hv} {v : Val} {x : V} (rv : RV K H h v x) : ∀ {vs : List Val} {xs : List V} (j : Nat), RVs K H h vs xs → RVs K H h (vs.set j v) (xs.set j x)
  | [], xs, j, r => by rw [RVs] at r; subst r; exact RVs.nil
  | w :: vs, xs, j, r => by
    rw [RVs] at r
    obtain ⟨y, ys, rfl, r1, r2⟩ := r
    cases j with
    | zero => exact RVs.cons rv r2
    | succ j => exact RVs.cons r1 (RVs.setv rv j r2)
theorem ds_lput {X : Cx} {B : Bs} {o i e : Expr} {dd di de : ED} {pos' pos : Pos} (ho : DE X B o dd) (hi : DE X B i di) (hv : DE X B e de) (hs : swapsWithSole [.Subscript o i pos'] e pos.line X.env = pure false := by rfl) (hw : swappedStores [.Subscript o i pos'] e X.env = pure none := by rfl)
    (h1 : (assignEach [.Subscript o i pos'] X.env).map (·.2) = [assign (.Subscript o i pos') X.env] := by rfl) (ha : ∀ v, assign (.Subscript o i pos') X.env v = (do
      let ov ← holding [v] (eval o X.env)
      let iv ← holding [v, ov] (eval i X.env)
      standAt pos'
      holding [v, ov, iv] (setItem ov iv v)
      release [v, ov, iv] []) := by intro _; rfl) : DS X B (.Assign [.Subscript o i pos'] e pos) (sLPut dd di de) :=
  PSi (ps_asg hv (pg_sub ho hi set_list ha) hs hw h1) fun D σ H ⟨ρ, h, D', S, q, C⟩ => ⟨ρ, h, _, S, q, fun v h1 z H1 q1 s1 rv1 r1 => ⟨ρ, h1, _, S.step s1 r1, q1, fun d h2 x H2 q2 s2 rv2 r2 => ⟨ρ, h2, _, S.step (s1.trans s2) r2, q2, fun k h3 y H3 q3 s3 rv3 r3 => by
    split at q3
    · rename_i a i
      split at q3
      · rename_i us eu
        split at q3
        · rename_i j ej
          have rv2 := rv2.step s3
          rw [RV] at rv2
          rw [RV] at rv3
          obtain ⟨xs, e1, rx⟩ := r3 a _ eu
          have nb : Ob.lst us ≠ .busy := fun z => nomatch z
          have rv1 := rv1.step (s2.trans s3)
          have s4 : Step h3 H3 (put h3 a (.lst (us.set j v))) (upd H3 a (.lst (xs.set j z))) := Step.write eu nb
          have r4 : RH X.K (upd H3 a (.lst (xs.set j z))) (put h3 a (.lst (us.set j v))) := r3.write eu nb ⟨xs.set j z, upd_same, (RVs.setv rv1 j rx).step s4⟩
          have s14 := s1.trans (s2.trans (s3.trans s4))
          exact ⟨a, xs, i, j, rv2, rv3, e1, by rw [← rx.len]; exact ej, C.nx _ _ _ _ q3 s14 (S.step s14 r4)⟩
        · exact q3.elim
      · exact q3.elim
    · exact q3.elim⟩⟩⟩
/-! ### list(range(n)) -/
def tListRange (ta : TE) : TE := fun σ H Q => ta σ H fun x H1 => ∃ j : Nat, x = .int (j : Int) ∧ j ≤ 1000 ∧ ∀ p, H1 p = none → Q (.ref p) (upd H1 p (.lst (((List.range j).map fun (i : Nat) => (i : Int)).map V.int)))
theorem pe_listRange {X : Cx} {a : Expr} {ta : TE} {p p2 q pos : Pos} (hg : Gl X "list") (hm : X.mg "list" = none) (hg2 : Gl X "range") (hm2 : X.mg "range" = none) (ha : PE X a ta) (hc : X.calm = true := by rfl)
    (na : starEach [a] X.env = (false, eval a X.env) :: starEach [] X.env := by rfl) : PE X (.Call (.Name "list" p) [.Call (.Name "range" p2) [a] [] q] [] pos) (tListRange ta) := by
  refine ⟨fun pins s σ H Q I h => ?_⟩
  refine Call_ (ld_blt I hg hm bt_list ?_)
  refine PyProof.Rows.callWith_type1 (PyProof.Rows.args_cons ?_ rfl) rfl rfl
  refine Call_ (ld_blt I hg2 hm2 boot_range ?_)
  refine PyProof.Rows.callWith_type1 (PyProof.Rows.args_cons (thn (ha.run pins s σ H _ I h) fun v s1 ⟨x, H1, I1, r1, q1⟩ => PyProof.Rows.args_nil ?_) na) na rfl
  obtain ⟨j, rfl, hj, q1⟩ := q1
  obtain ⟨t, rfl⟩ := r1
  refine call_range_1 ?_
  refine PyProof.Rows.args_nil ?_
  have hR : IsRange (s1.heap.push { cls := .type "range", data := .fields #[.int 0 s1.toks, .int (j : Int) t, .int 1 (s1.toks + 1)] }) s1.heap.objs.size 0 j 1 s1.toks t (s1.toks + 1) := Heap.get?_push_size _ rfl
  refine call_list_range (n := j) (I1.ok.hd hc) hR ?_ ?_ (by omega) fun h' tk acc' c' hk hS hacc => ?_
  · exact small_one (by decide) (by omega) (by omega) (by omega)
  · rw [rangeSize_one]; split <;> omega
  · have I2 : Inv X pins σ H1 { s1 with heap := s1.heap.push { cls := .type "range", data := .fields #[.int 0 s1.toks, .int (j : Int) t, .int 1 (s1.toks + 1)] }, toks := s1.toks + 1 + 1 } := I1.kept fun b o e => Heap.get?_push_of_some _ e
    have hz : s1.heap.objs.size ≤ (s1.heap.push { cls := .type "range", data := .fields #[.int 0 s1.toks, .int (j : Int) t, .int 1 (s1.toks + 1)] }).objs.size := by rw [Heap.size_push]; omega
    refine ⟨.ref _, upd H1 _ (.lst (((List.range j).map fun (i : Nat) => (i : Int)).map V.int)), I2.laid (t' := tk) (fun b o e => hk b o e) (Nat.le_refl _) ⟨by simp; rw [sizeLine_eq]; omega, acc'.toList, c', ?_, by simpa using hS⟩, rfl, q1 _ (I2.hok.fresh (Nat.le_refl _))⟩
    have hl : acc'.toList.length = j := by rw [Array.length_toList]; exact hacc.1
    have := vals_of_get acc'.toList (fun i => V.int (i : Nat)) fun i u hu => by
      obtain ⟨tt, e⟩ := hacc.2 i u (by simpa using hu)
      exact ⟨tt, by rw [e]; simp⟩
    rw [hl] at this
    rw [List.map_map]
    exact this
@[simp] def dListRange (de : ED) : ED := fun ρ h Q E => de ρ h (fun v h1 => match v with
  | .int j => 0 ≤ j ∧ j ≤ 1000 ∧ Q (.lst (((List.range j.toNat).map fun (i : Nat) => (i : Int)).map .int)) h1
  | _ => False) E
theorem de_listRange {X : Cx} {B : Bs} {a : Expr} {da : ED} {p p2 q pos : Pos} (hg : Gl X "list") (hm : X.mg "list" = none) (hg2 : Gl X "range") (hm2 : X.mg "range" = none) (ha : DE X B a da) (hc : X.calm = true := by rfl)
    (na : starEach [a] X.env = (false, eval a X.env) :: starEach [] X.env := by rfl) : DE X B (.Call (.Name "list" p) [.Call (.Name "range" p2) [a] [] q] [] pos) (dListRange da) :=
  PEi (pe_listRange hg hm hg2 hm2 ha hc na) fun σ H Q ⟨ρ, h, Q', S, q, C⟩ => ⟨ρ, h, _, S, q, fun v h1 x H1 q1 s1 rv1 r1 => by
    split at q1
    · rename_i j
      rw [RV] at rv1
      exact ⟨j.toNat, by rw [rv1]; congr 1; omega, by omega, fun l hl => (C.trans s1).lst r1 (RVs.ofInts _) hl q1.2.2⟩
    · exact q1.elim⟩
end DL
namespace DL
open PySem PySem.Spec PyProof.Rows L2

/-! ### the ends of a body -/
def RT (Q : PV) : PV := fun v h' => ∃ v2 h2, Conv v h' v2 h2 ∧ Q v2 h2
def RN (Q : PV) : Sl → Hv → Prop := fun _ h' => ∃ h2, Lss h' h2 ∧ Q .non h2
def RX (E : PF) : PX := fun nm pl _ h' => ∃ h2, Lss h' h2 ∧ E nm pl h2
abbrev endsR (Q : PV) : AE := ⟨RN Q, RT Q, fun _ _ => False, fun _ _ => False⟩
theorem RT.same {Q : PV} {v : Val} {h : Hv} (q : Q v h) : RT Q v h := ⟨v, h, conv_less (Lss.refl h), q⟩
theorem RT.less {Q : PV} {v : Val} {h h2 : Hv} (l : Lss h h2) (q : Q v h2) : RT Q v h := ⟨v, h2, conv_less l, q⟩
theorem RT.frz {Q : PV} {h h2 : Hv} {p : Addr} {vs : List Val} (l : Lss h h2) (e : h p = some (.lst vs)) (n : h2 p = none) (q : Q (.lst vs) h2) : RT Q (.ref p) h := ⟨_, h2, conv_frz l e n, q⟩
theorem RN.same {Q : PV} {ρ : Sl} {h : Hv} (q : Q .non h) : RN Q ρ h := ⟨h, Lss.refl h, q⟩

/-! ### heaps -/
def Sub (h h' : Hv) : Prop := ∀ a o, h a = some o → h' a = some o
theorem Sub.refl (h : Hv) : Sub h h := fun _ _ e => e
theorem Sub.trans {h h1 h2 : Hv} (x : Sub h h1) (y : Sub h1 h2) : Sub h h2 := fun a o e => y a o (x a o e)
theorem Sub.put {h : Hv} {p : Addr} {o : Ob} (e : h p = none) : Sub h (put h p o) := fun a u q => by
  rw [put_ne (fun z => by rw [z, e] at q; cases q)]; exact q
theorem drop_put {h : Hv} {p : Addr} {o : Ob} (e : h p = none) : drop (DL.put h p o) p = h := by
  funext a
  by_cases ha : a = p
  · subst ha; rw [drop_same, e]
  · rw [drop_ne ha, put_ne ha]
theorem put_comm {h : Hv} {p q : Addr} {o u : Ob} (e : p ≠ q) : DL.put (DL.put h p o) q u = DL.put (DL.put h q u) p o := by
  funext a
  unfold DL.put
  by_cases h1 : a = q
  · subst h1
    simp [Ne.symm e]
  · by_cases h2 : a = p
    · subst h2; simp [e]
    · simp [h1, h2]
theorem drop_put_ne {h : Hv} {p q : Addr} {o : Ob} (e : p ≠ q) : drop (DL.put h q o) p = DL.put (drop h p) q o := by
  funext a
  unfold drop DL.put
  by_cases h1 : a = p
  · subst h1; simp [e]
  · by_cases h2 : a = q
    · subst h2; simp [Ne.symm e]
    · simp [h1, h2]

/-! ### comprehensions whose turns leave the heap as it is -/
theorem lcL_filt {ok : Hv → Prop} {t : Tg} {tt : TD} {te : ED} {ρw : Sl} {h : Hv} (pv : Val → Bool) (g : Val → Val) (hok : ok h) : ∀ (items acc : List Val) (Q : List Val → Hv → Prop), acc.length + items.length ≤ sizeLine →
    (∀ v ∈ items, ∃ ρ', bT t v ρw = some ρ' ∧ (∀ Q', Q' (pv v) h → tt ρ' h Q' EF) ∧ (pv v = true → ∀ Q', Q' (g v) h → te ρ' h Q' EF)) →
    Q (acc ++ (items.filter pv).map g) h → lcL ok t tt te ρw items acc h Q
  | [], acc, Q, hl, he, q => ⟨hok, by simpa using q⟩
  | v :: vs, acc, Q, hl, he, q => by
    obtain ⟨ρ', e1, e2, e3⟩ := he v List.mem_cons_self
    refine ⟨hok, ?_⟩
    rw [e1]
    dsimp only
    rw [List.length_cons] at hl
    refine e2 _ ?_
    cases hp : pv v with
    | true =>
      rw [if_pos rfl]
      refine e3 hp _ ⟨by omega, ?_⟩
      refine lcL_filt pv g hok vs (acc ++ [g v]) Q (by rw [List.length_append, List.length_singleton]; omega) (fun w hw => he w (List.mem_cons_of_mem _ hw)) ?_
      rw [List.filter_cons_of_pos hp, List.map_cons] at q
      simpa using q
    | false =>
      rw [if_neg Bool.false_ne_true]
      refine lcL_filt pv g hok vs acc Q (by omega) (fun w hw => he w (List.mem_cons_of_mem _ hw)) ?_
      rw [List.filter_cons_of_neg (by rw [hp]; exact Bool.false_ne_true)] at q
      exact q
/-- [g v for v in items if pv v] -/
theorem lc_filt {di : ID} {t : Tg} {tt : TD} {te : ED} {vs : List Nat} {ρ : Sl} {h : Hv} {Q : PV} {E : PX} {items : List Val} {ok : Hv → Prop} (pv : Val → Bool) (g : Val → Val) (hdi : ∀ R : Itr → Hv → Prop, R ⟨items, ok⟩ h → di ρ h R E) (hok : ∀ h', Sub h h' → ok h') (hl : items.length ≤ sizeLine)
    (he : ∀ v ∈ items, ∃ ρ', bT t v (wipeA ρ vs) = some ρ' ∧ (∀ h' Q', Sub h h' → Q' (pv v) h' → tt ρ' h' Q' EF) ∧ (pv v = true → ∀ h' Q', Sub h h' → Q' (g v) h' → te ρ' h' Q' EF))
    (q : Q (.lst ((items.filter pv).map g)) h) : dLc di t tt te vs ρ h Q E := by
  refine hdi _ fun D nD => ?_
  have sb := Sub.put (o := .busy) nD
  refine lcL_filt pv g (hok _ sb) items [] _ (by simpa using hl) (fun v hv => ?_) ?_
  · obtain ⟨ρ', e1, e2, e3⟩ := he v hv
    exact ⟨ρ', e1, fun Q' q' => e2 _ Q' sb q', fun hp Q' q' => e3 hp _ Q' sb q'⟩
  · rw [List.nil_append, drop_put nD]
    exact q
theorem lc_map {di : ID} {t : Tg} {te : ED} {vs : List Nat} {ρ : Sl} {h : Hv} {Q : PV} {E : PX} {items : List Val} {ok : Hv → Prop} (g : Val → Val) (hdi : ∀ R : Itr → Hv → Prop, R ⟨items, ok⟩ h → di ρ h R E) (hok : ∀ h', Sub h h' → ok h') (hl : items.length ≤ sizeLine)
    (he : ∀ v ∈ items, ∃ ρ', bT t v (wipeA ρ vs) = some ρ' ∧ ∀ h' Q', Sub h h' → Q' (g v) h' → te ρ' h' Q' EF)
    (q : Q (.lst (items.map g)) h) : dLc di t tTrue te vs ρ h Q E := by
  refine lc_filt (fun _ => true) g hdi hok hl (fun v hv => ?_) (by rw [List.filter_eq_self.mpr (fun _ _ => rfl)]; exact q)
  obtain ⟨ρ', e1, e2⟩ := he v hv
  exact ⟨ρ', e1, fun h' Q' _ q' => q', fun _ => e2⟩
/-- all([p v for v in items]) -/
theorem all_lc {di : ID} {t : Tg} {te : ED} {vs : List Nat} {ρ : Sl} {h : Hv} {Q : PV} {E : PX} {items : List Val} {ok : Hv → Prop} (p : Val → Bool) (hdi : ∀ R : Itr → Hv → Prop, R ⟨items, ok⟩ h → di ρ h R E) (hok : ∀ h', Sub h h' → ok h') (hl : items.length ≤ sizeLine)
    (he : ∀ v ∈ items, ∃ ρ', bT t v (wipeA ρ vs) = some ρ' ∧ ∀ h' Q', Sub h h' → Q' (.bl (p v)) h' → te ρ' h' Q' EF)
    (q : Q (.bl (items.all p)) h) : dCB fAll (aCons (dLc di t tTrue te vs) aNil) ρ h Q E := by
  simp only [dCB, aCons, aNil]
  refine lc_map (fun v => .bl (p v)) hdi hok hl he ?_
  show fAll [.lst (items.map fun v => .bl (p v))] h Q
  simp only [fAll, listOf, Option.bind_some, blsOf_map]
  simpa using q
theorem any_lc {di : ID} {t : Tg} {te : ED} {vs : List Nat} {ρ : Sl} {h : Hv} {Q : PV} {E : PX} {items : List Val} {ok : Hv → Prop} (p : Val → Bool) (hdi : ∀ R : Itr → Hv → Prop, R ⟨items, ok⟩ h → di ρ h R E) (hok : ∀ h', Sub h h' → ok h') (hl : items.length ≤ sizeLine)
    (he : ∀ v ∈ items, ∃ ρ', bT t v (wipeA ρ vs) = some ρ' ∧ ∀ h' Q', Sub h h' → Q' (.bl (p v)) h' → te ρ' h' Q' EF)
    (q : Q (.bl (items.any p)) h) : dCB fAny (aCons (dLc di t tTrue te vs) aNil) ρ h Q E := by
  simp only [dCB, aCons, aNil]
  refine lc_map (fun v => .bl (p v)) hdi hok hl he ?_
  show fAny [.lst (items.map fun v => .bl (p v))] h Q
  simp only [fAny, listOf, Option.bind_some, blsOf_map]
  simpa using q
/-- sum([f v for v in items]) -/
theorem sum_lc {di : ID} {t : Tg} {te : ED} {vs : List Nat} {ρ : Sl} {h : Hv} {Q : PV} {E : PX} {items : List Val} {ok : Hv → Prop} (p : Val → Int) (hdi : ∀ R : Itr → Hv → Prop, R ⟨items, ok⟩ h → di ρ h R E) (hok : ∀ h', Sub h h' → ok h') (hl : items.length ≤ sizeLine)
    (he : ∀ v ∈ items, ∃ ρ', bT t v (wipeA ρ vs) = some ρ' ∧ ∀ h' Q', Sub h h' → Q' (.int (p v)) h' → te ρ' h' Q' EF)
    (q : Q (.int (items.map p).sum) h) : dCB fSum (aCons (dLc di t tTrue te vs) aNil) ρ h Q E := by
  simp only [dCB, aCons, aNil]
  refine lc_map (fun v => .int (p v)) hdi hok hl he ?_
  show fSum [.lst (items.map fun v => .int (p v))] h Q
  simp only [fSum, listOf, Option.bind_some, intsOf_map]
  exact q
/-! ### loops -/
/-- a loop by what holds between its turns -/
theorem for_ind {ok : Hv → Prop} {t : Tg} {d : SD} {D : AE} {E : PX} (I : List Val → Sl → Hv → Prop) (h0 : ∀ ρ h, I [] ρ h → ok h ∧ D.nx ρ h)
    (hs : ∀ v vs ρ h, I (v :: vs) ρ h → ok h ∧ ∃ ρ', bT t v ρ = some ρ' ∧ ∀ N : Sl → Hv → Prop, (∀ ρ h, I vs ρ h → N ρ h) → d ρ' h { D with nx := N, ct := N, bk := D.nx } E) :
    ∀ (items : List Val) (ρ : Sl) (h : Hv), I items ρ h → forL ok t d items ρ h D E
  | [], ρ, h, i => h0 ρ h i
  | v :: vs, ρ, h, i => by
    obtain ⟨o, ρ', e, k⟩ := hs v vs ρ h i
    refine ⟨o, ?_⟩
    rw [e]
    exact k _ fun ρ h i => for_ind I h0 hs vs ρ h i
/-- a while by a measure -/
theorem while_ind {tc : TD} {d : SD} {D : AE} {E : PX} (I : Nat → Sl → Hv → Prop)
    (hs : ∀ n ρ h, I n ρ h → ∀ N : Sl → Hv → Prop, (∀ m ρ h, m < n → I m ρ h → N ρ h) → tc ρ h (fun k h1 => if k = true then d ρ h1 { D with nx := N, ct := N, bk := D.nx } E else D.nx ρ h1) E) :
    ∀ (n : Nat) (ρ : Sl) (h : Hv), I n ρ h → ∀ j, n < j → whileN tc d j ρ h D E
  | n, ρ, h, i, 0, hj => absurd hj (Nat.not_lt_zero _)
  | n, ρ, h, i, j + 1, hj => hs n ρ h i _ fun m ρ' h' hm i' => while_ind I hs m ρ' h' i' j (by omega)
theorem while_of {tc : TD} {d : SD} {D : AE} {E : PX} (I : Nat → Sl → Hv → Prop) {n : Nat} {ρ : Sl} {h : Hv} (i : I n ρ h)
    (hs : ∀ n ρ h, I n ρ h → ∀ N : Sl → Hv → Prop, (∀ m ρ h, m < n → I m ρ h → N ρ h) → tc ρ h (fun k h1 => if k = true then d ρ h1 { D with nx := N, ct := N, bk := D.nx } E else D.nx ρ h1) E) : sWhile tc d ρ h D E :=
  ⟨n + 1, while_ind I hs n ρ h i (n + 1) (Nat.lt_succ_self n)⟩
mutual
/-- data: no places of the heap in it, texts not too long -/
def okD : Val → Bool
  | .non => true
  | .bl _ => true
  | .int _ => true
  | .str z => decide (z.length ≤ 1000)
  | .tup vs => okDs vs && decide (vs.length ≤ 1000)
  | .lst vs => okDs vs && decide (vs.length ≤ 1000)
  | _ => false
def okDs : List Val → Bool
  | [] => true
  | v :: vs => okD v && okDs vs
end
theorem okDs_mem : ∀ {vs : List Val} {v : Val}, okDs vs = true → v ∈ vs → okD v = true
  | w :: ws, v, h, hv => by
    rw [okDs, Bool.and_eq_true] at h
    rcases List.mem_cons.mp hv with e | e
    · rw [e]; exact h.1
    · exact okDs_mem h.2 e
theorem sl1000 {n : Nat} (h : n ≤ 1000) : n ≤ sizeLine := by rw [sizeLine_eq]; omega
end DL
namespace DL
open PySem PySem.Spec PyProof.Rows L2
theorem Qb {Q : PV} {b b' : Bool} {h : Hv} (q : Q (.bl b) h) (e : b = b') : Q (.bl b') h := by rw [← e]; exact q
theorem Qv {Q : PV} {b b' : Val} {h : Hv} (q : Q b h) (e : b = b') : Q b' h := by rw [← e]; exact q
/-! ## books -/
def isNum (v : Val) (lo hi : Int) : Bool := match v with
  | .int i => decide (lo ≤ i) && decide (i ≤ hi)
  | _ => false
def S_is_number : SpF := fun as h Q _ => ∃ v lo hi, as = [v, .int lo, .int hi] ∧ okD v = true ∧ Q (.bl (isNum v lo hi)) h
def letters : List Nat := ("abcdefghijklmnopqrstuvwxyz" : Str).cps.toList
def isName (v : Val) : Bool := match v with
  | .str z => decide (1 ≤ z.length) && decide (z.length ≤ 8) && z.cps.toList.all fun c => decide (c ∈ letters)
  | _ => false
def S_is_name : SpF := fun as h Q _ => ∃ v, as = [v] ∧ okD v = true ∧ Q (.bl (isName v)) h
/-- in order, none twice: where each two neighbours can be asked -/
def risA : List Val → Option Bool
  | [] => some true
  | [_] => some true
  | x :: y :: r => match ltA x y, risA (y :: r) with
    | some b, some c => some (b && c)
    | _, _ => none
def S_is_rising : SpF := fun as h Q _ => ∃ v vs b, as = [v] ∧ (v = .lst vs ∨ v = .tup vs) ∧ vs.length ≤ 1000 ∧ risA vs = some b ∧ Q (.bl b) h
def isLand (v : Val) : Bool := match v with
  | .tup [a, b, c, d] => isName a && isNum c 1 99 && (match c with
    | .int q => isNum b 1 q
    | _ => false) && isNum d 0 999
  | _ => false
def S_is_land : SpF := fun as h Q _ => ∃ v, as = [v] ∧ okD v = true ∧ Q (.bl (isLand v)) h
def isPact (v : Val) (names : List Str) : Bool := match v with
  | .tup [.str a, .str b] => decide (a ∈ names) && decide (b ∈ names) && decide (a ≠ b)
  | _ => false
def S_is_pact : SpF := fun as h Q _ => ∃ v names, as = [v, .lst (names.map .str)] ∧ okD v = true ∧ Q (.bl (isPact v names)) h
/-- the first things of tuples that are texts -/
def nmOf : Val → Str
  | .tup (.str z :: _) => z
  | _ => ""
def isBook (v : Val) : Bool := match v with
  | .tup [.tup lands, pacts] => decide (1 ≤ lands.length) && decide (lands.length ≤ 4) && lands.all isLand && (risA (lands.map fun l => .str (nmOf l))).getD false &&
    (match pacts with
    | .tup ps => (ps.all fun p => isPact p (lands.map nmOf)) && (risA ps).getD false
    | _ => false)
  | _ => false
def S_is_book : SpF := fun as h Q _ => ∃ v, as = [v] ∧ okD v = true ∧ Q (.bl (isBook v)) h

structure Land where
  nm : Str
  p : Int
  q : Int
  pr : Int
structure Book where
  lands : List Land
  pacts : List (Str × Str)
def encL (l : Land) : Val := .tup [.str l.nm, .int l.p, .int l.q, .int l.pr]
def encP (p : Str × Str) : Val := .tup [.str p.1, .str p.2]
def encB (b : Book) : Val := .tup [.tup (b.lands.map encL), .tup (b.pacts.map encP)]
def Book.names (b : Book) : List Str := b.lands.map (·.nm)
abbrev Heap' := List (Int × Option Str)
def encO : Option Str → Val
  | some z => .str z
  | none => .non
def encR (r : Int × Option Str) : Val := .tup [.int r.1, encO r.2]
def encH (hp : Heap') : Val := .tup (hp.map encR)
structure WFB (b : Book) : Prop where
  n1 : 1 ≤ b.lands.length
  n4 : b.lands.length ≤ 4
  nm : ∀ l ∈ b.lands, isName (.str l.nm) = true
  sh : ∀ l ∈ b.lands, 1 ≤ l.p ∧ l.p ≤ l.q ∧ l.q ≤ 99 ∧ 0 ≤ l.pr ∧ l.pr ≤ 999
  up : b.names.Pairwise fun x y => x.cps.toList < y.cps.toList
  pc : ∀ p ∈ b.pacts, p.1 ∈ b.names ∧ p.2 ∈ b.names ∧ p.1 ≠ p.2
  pu : b.pacts.Pairwise fun x y => x.1.cps.toList < y.1.cps.toList ∨ (x.1 = y.1 ∧ x.2.cps.toList < y.2.cps.toList)
  pl : b.pacts.length ≤ 16
def S_names_of : SpF := fun as h Q _ => ∃ b : Book, as = [encB b] ∧ b.lands.length ≤ 4 ∧ Q (.lst (b.names.map .str)) h
def isRaw (b : Book) (v : Val) : Bool := match v with
  | .tup [w, l] => isNum w 1 9999 && (match l with
    | .non => true
    | .str z => decide (z ∈ b.names)
    | _ => false)
  | _ => false
def S_is_raw : SpF := fun as h Q _ => ∃ (b : Book) (v : Val), as = [encB b, v] ∧ b.lands.length ≤ 4 ∧ okD v = true ∧ Q (.bl (isRaw b v)) h
def isHeap (b : Book) (v : Val) : Bool := match v with
  | .tup vs => decide (1 ≤ vs.length) && decide (vs.length ≤ 8) && vs.all (isRaw b)
  | _ => false
def S_is_heap : SpF := fun as h Q _ => ∃ (b : Book) (v : Val), as = [encB b, v] ∧ b.lands.length ≤ 4 ∧ okD v = true ∧ Q (.bl (isHeap b v)) h
end DL
namespace DL
open PySem PySem.Spec PyProof.Rows L2
def den_is_number : SD := (sRet (vAnd (dCB fIsi (aCons (dVar 0) (aCons (dC (.ty "int")) aNil))) (vAnd (vNot (dCB fIsi (aCons (dVar 0) (aCons (dC (.ty "bool")) aNil)))) (dChain fLe fLe (dVar 1) (dVar 0) (dVar 2)))))
def den_is_name : SD := (sRet (vAnd (dCB fIsi (aCons (dVar 0) (aCons (dC (.ty "str")) aNil))) (vAnd (dChain fLe fLe (dC (.int 1)) (dCB fLen (aCons (dVar 0) aNil)) (dC (.int 8))) (dCB fAll (aCons (dLc (dIt (dVar 0)) (.nm 1) tTrue (dBin fInS (dVar 1) (dC (.str "abcdefghijklmnopqrstuvwxyz"))) [1]) aNil)))))
def den_is_rising : SD := (sRet (dCB fAll (aCons (dLc (dZip (aCons (dVar 0) (aCons (dSl fSl (dVar 0) (oSome (dC (.int 1))) oNone) aNil))) (.tp [(.nm 1), (.nm 2)]) tTrue (dBin fLt (dVar 1) (dVar 2)) [1, 2]) aNil)))
def den_is_land : SD := (sSeq (sIf (dOr (dNot (dTruth (dCB fIsi (aCons (dVar 0) (aCons (dC (.ty "tuple")) aNil))))) (dOr (dTest (dBin fNe (dCB fLen (aCons (dVar 0) aNil)) (dC (.int 4)))) (dNot (dTruth (dCall 1 S_is_name (aCons (dBin fIx (dVar 0) (dC (.int 0))) aNil)))))) (sRet (dC (.bl false))) sNext) (sRet (vAnd (dCall 3 S_is_number (aCons (dBin fIx (dVar 0) (dC (.int 2))) (aCons (dC (.int 1)) (aCons (dC (.int 99)) aNil)))) (vAnd (dCall 3 S_is_number (aCons (dBin fIx (dVar 0) (dC (.int 1))) (aCons (dC (.int 1)) (aCons (dBin fIx (dVar 0) (dC (.int 2))) aNil)))) (dCall 3 S_is_number (aCons (dBin fIx (dVar 0) (dC (.int 3))) (aCons (dC (.int 0)) (aCons (dC (.int 999)) aNil))))))))
def den_is_pact : SD := (sSeq (sIf (dOr (dNot (dTruth (dCB fIsi (aCons (dVar 0) (aCons (dC (.ty "tuple")) aNil))))) (dOr (dTest (dBin fNe (dCB fLen (aCons (dVar 0) aNil)) (dC (.int 2)))) (dNot (dTruth (dCB fAll (aCons (dLc (dIt (dVar 0)) (.nm 2) tTrue (dCB fIsi (aCons (dVar 2) (aCons (dC (.ty "str")) aNil))) [2]) aNil)))))) (sRet (dC (.bl false))) sNext) (sRet (vAnd (dBin fIn (dBin fIx (dVar 0) (dC (.int 0))) (dVar 1)) (vAnd (dBin fIn (dBin fIx (dVar 0) (dC (.int 1))) (dVar 1)) (dBin fNe (dBin fIx (dVar 0) (dC (.int 0))) (dBin fIx (dVar 0) (dC (.int 1))))))))
def den_is_book : SD := (sSeq (sIf (dOr (dNot (dTruth (dCB fIsi (aCons (dVar 0) (aCons (dC (.ty "tuple")) aNil))))) (dOr (dTest (dBin fNe (dCB fLen (aCons (dVar 0) aNil)) (dC (.int 2)))) (dNot (dTruth (dCB fIsi (aCons (dBin fIx (dVar 0) (dC (.int 0))) (aCons (dC (.ty "tuple")) aNil))))))) (sRet (dC (.bl false))) sNext) (sSeq (sAsg (.tp [(.nm 1), (.nm 2)]) (dVar 0)) (sSeq (sIf (dOr (dNot (dTest (dChain fLe fLe (dC (.int 1)) (dCB fLen (aCons (dVar 1) aNil)) (dC (.int 4))))) (dNot (dTruth (dCB fAll (aCons (dLc (dIt (dVar 1)) (.nm 4) tTrue (dCall 1 S_is_land (aCons (dVar 4) aNil)) [4]) aNil))))) (sRet (dC (.bl false))) sNext) (sSeq (sSet 3 (dLc (dIt (dVar 1)) (.nm 4) tTrue (dBin fIx (dVar 4) (dC (.int 0))) [4])) (sSeq (sIf (dOr (dNot (dTruth (dCall 1 S_is_rising (aCons (dVar 3) aNil)))) (dOr (dNot (dTruth (dCB fIsi (aCons (dVar 2) (aCons (dC (.ty "tuple")) aNil))))) (dNot (dTruth (dCB fAll (aCons (dLc (dIt (dVar 2)) (.nm 5) tTrue (dCall 2 S_is_pact (aCons (dVar 5) (aCons (dVar 3) aNil))) [5]) aNil)))))) (sRet (dC (.bl false))) sNext) (sRet (dCall 1 S_is_rising (aCons (dVar 2) aNil))))))))
def den_names_of : SD := (sRet (dLc (dIt (dBin fIx (dVar 0) (dC (.int 0)))) (.nm 1) tTrue (dBin fIx (dVar 1) (dC (.int 0))) [1]))
def den_is_raw : SD := (sSeq (sIf (dOr (dNot (dTruth (dCB fIsi (aCons (dVar 1) (aCons (dC (.ty "tuple")) aNil))))) (dOr (dTest (dBin fNe (dCB fLen (aCons (dVar 1) aNil)) (dC (.int 2)))) (dNot (dTruth (dCall 3 S_is_number (aCons (dBin fIx (dVar 1) (dC (.int 0))) (aCons (dC (.int 1)) (aCons (dC (.int 9999)) aNil)))))))) (sRet (dC (.bl false))) sNext) (sRet (vOr (dBin fIsN (dBin fIx (dVar 1) (dC (.int 1))) (dC .non)) (vAnd (dCB fIsi (aCons (dBin fIx (dVar 1) (dC (.int 1))) (aCons (dC (.ty "str")) aNil))) (dBin fIn (dBin fIx (dVar 1) (dC (.int 1))) (dCall 1 S_names_of (aCons (dVar 0) aNil)))))))
def den_is_heap : SD := (sRet (vAnd (dCB fIsi (aCons (dVar 1) (aCons (dC (.ty "tuple")) aNil))) (vAnd (dChain fLe fLe (dC (.int 1)) (dCB fLen (aCons (dVar 1) aNil)) (dC (.int 8))) (dCB fAll (aCons (dLc (dIt (dVar 1)) (.nm 2) tTrue (dCall 2 S_is_raw (aCons (dVar 0) (aCons (dVar 2) aNil))) [2]) aNil)))))
end DL
namespace DL
open PySem PySem.Spec PyProof.Rows L2
theorem bo_is_number (N : List Str) (hN : N.length = 3) : ∀ as h Q E, as.length = 3 → S_is_number as h Q E → den_is_number (startA N as) h (endsR Q) (RX E) := by
  rintro as h Q E - ⟨v, lo, hi, rfl, ok, q⟩
  have q := RT.same q
  cases v <;> first | (simp [okD] at ok; done) | skip
  all_goals simp [den_is_number, isNum, hN] at q ⊢
  all_goals first | exact q | (split <;> simp_all)
theorem bo_is_name (N : List Str) (hN : N.length = 2) : ∀ as h Q E, as.length = 1 → S_is_name as h Q E → den_is_name (startA N as) h (endsR Q) (RX E) := by
  rintro as h Q E - ⟨v, rfl, ok, q⟩
  have q := RT.same q
  unfold den_is_name
  simp only [startA, hN]
  generalize hd : dCB fAll (aCons (dLc (dIt (dVar 0)) (.nm 1) tTrue (dBin fInS (dVar 1) (dC (.str "abcdefghijklmnopqrstuvwxyz"))) [1]) aNil) = da
  cases v with
  | str z =>
    simp only [okD, decide_eq_true_eq] at ok
    have hz := sl1000 ok
    have key : ∀ {h : Hv} {Q : PV} {E : PX}, Q (.bl (z.cps.toList.all fun c => decide (c ∈ letters))) h → da [some (.str z), none] h Q E := fun {h Q E} q => by
      subst hd
      refine all_lc (items := z.cps.toList.map fun c => Val.str ⟨#[c]⟩) (ok := fun _ => True) (fun v => match v with | .str ⟨⟨[c]⟩⟩ => decide (c ∈ letters) | _ => false) (fun R r => by simpa using r) (fun _ _ => trivial) (by simpa [Str.length] using hz) (fun v hv => ?_) ?_
      · obtain ⟨c, -, rfl⟩ := List.mem_map.mp hv
        refine ⟨_, rfl, fun h' Q' _ q' => ?_⟩
        simpa [letters] using q'
      · rw [List.all_map]
        exact q
    by_cases h1 : 1 ≤ z.length
    · have h1' : (1 : Int) ≤ z.length := by omega
      by_cases h2 : z.length ≤ 8
      · have h2' : (z.length : Int) ≤ 8 := by omega
        simp [hz, h1', h2'] at q ⊢
        exact key (Qb q (by simp [isName, h1, h2]))
      · have h2' : ¬ (z.length : Int) ≤ 8 := by omega
        simp [hz, h1', h2'] at q ⊢
        exact Qb q (by simp [isName, h2])
    · have h1' : ¬ (1 : Int) ≤ z.length := by omega
      simp [hz, h1'] at q ⊢
      exact Qb q (by simp [isName, h1])
  | non => simpa [isName] using q
  | bl b => simpa [isName] using q
  | int b => simpa [isName] using q
  | tup b => simpa [isName] using q
  | lst b => simpa [isName] using q
  | _ => simp [okD] at ok
theorem cut1 (vs : List Val) : cutA vs (some 1) none = vs.drop 1 := by
  unfold cutA
  rw [show HT.sIx vs.length 0 (some 1) = min 1 vs.length from HT.sIx_nat vs.length 0 1, HT.sIx_none]
  cases vs with
  | nil => rfl
  | cons x r =>
    rw [show min 1 (x :: r).length = 1 by rw [List.length_cons]; omega]
    show (List.take ((x :: r).length - 1) r) = r
    rw [List.length_cons, Nat.add_sub_cancel]
    exact List.take_length
theorem risA_zip : ∀ {vs : List Val} {b : Bool}, risA vs = some b → (∀ p ∈ vs.zip (vs.drop 1), ∃ k, ltA p.1 p.2 = some k) ∧ ((vs.zip (vs.drop 1)).all fun p => (ltA p.1 p.2).getD false) = b
  | [], b, e => by cases e; exact ⟨fun p hp => by simp at hp, rfl⟩
  | [_], b, e => by cases e; exact ⟨fun p hp => by simp at hp, rfl⟩
  | x :: y :: r, b, e => by
    unfold risA at e
    split at e
    · rename_i k c h1 h2
      cases e
      obtain ⟨i1, i2⟩ := risA_zip h2
      have z : (x :: y :: r).zip ((x :: y :: r).drop 1) = (x, y) :: (y :: r).zip ((y :: r).drop 1) := rfl
      rw [z]
      refine ⟨fun p hp => ?_, ?_⟩
      · rcases List.mem_cons.mp hp with e | e
        · rw [e]; exact ⟨k, h1⟩
        · exact i1 p e
      · rw [List.all_cons, i2, h1]; rfl
    · cases e
theorem bo_is_rising (N : List Str) (hN : N.length = 3) : ∀ as h Q E, as.length = 1 → S_is_rising as h Q E → den_is_rising (startA N as) h (endsR Q) (RX E) := by
  rintro as h Q E - ⟨v, vs, b, rfl, hv, hl, e, q⟩
  have q := RT.same q
  obtain ⟨i1, i2⟩ := risA_zip e
  unfold den_is_rising
  simp only [startA, hN]
  show dCB fAll _ _ _ _ _
  refine all_lc (items := (vs.zip (vs.drop 1)).map fun p => Val.tup [p.1, p.2]) (ok := fun _ => True) (fun v => match v with | .tup [a, b] => (ltA a b).getD false | _ => false) (fun R r => ?_) (fun _ _ => trivial) ?_ (fun v hv => ?_) ?_
  · rcases hv with rfl | rfl <;> simpa [cut1] using r
  · rw [List.length_map, List.length_zip]
    exact sl1000 (by omega)
  · obtain ⟨p, hp, rfl⟩ := List.mem_map.mp hv
    obtain ⟨k, hk⟩ := i1 p hp
    refine ⟨_, rfl, fun h' Q' _ q' => ?_⟩
    simp only [hk, Option.getD_some] at q'
    simp [fLt, -ltA, hk]
    exact q'
  · rw [List.all_map]
    exact Qb q (by rw [← i2]; rfl)
theorem str_beq (x y : Str) : (x == y) = decide (x = y) := by rw [Bool.eq_iff_iff]; simp
theorem len_cast {n m : Nat} : (((n : Int)) == (m : Int)) = decide (n = m) := by
  rw [Bool.eq_iff_iff]; simp; omega
theorem bo_is_land (N : List Str) (hN : N.length = 1) : ∀ as h Q E, as.length = 1 → S_is_land as h Q E → den_is_land (startA N as) h (endsR Q) (RX E) := by
  rintro as h Q E - ⟨v, rfl, ok, q⟩
  have q := RT.same q
  unfold den_is_land
  simp only [startA, hN]
  cases v with
  | tup vs =>
    have ok' : okDs vs = true := by rw [okD, Bool.and_eq_true] at ok; exact ok.1
    match vs, ok', q with
    | [a, b, c, d], ok', q =>
      simp only [okDs, Bool.and_eq_true] at ok'
      obtain ⟨oa, ob, oc, od, -⟩ := ok'
      simp [atI, ixN]
      refine ⟨a, rfl, oa, ?_⟩
      cases hn : isName a with
      | false => simpa [isLand, hn] using q
      | true =>
        simp
        refine ⟨c, 1, 99, rfl, oc, ?_⟩
        cases hc : isNum c 1 99 with
        | false => simpa [isLand, hn, hc] using q
        | true =>
          simp
          cases c with
          | int qq =>
            refine ⟨b, 1, qq, rfl, ob, ?_⟩
            cases hb : isNum b 1 qq with
            | false => simpa [isLand, hn, hc, hb] using q
            | true =>
              simp
              refine ⟨d, 0, 999, rfl, od, ?_⟩
              simpa [isLand, hn, hc, hb] using q
          | _ => simp [isNum] at hc
    | [], _, q => simpa [isLand] using q
    | [_], _, q => simpa [isLand] using q
    | [_, _], _, q => simpa [isLand] using q
    | [_, _, _], _, q => simpa [isLand] using q
    | _ :: _ :: _ :: _ :: _ :: r, _, q =>
      have : ((r.length : Int) + 1 + 1 + 1 + 1 + 1 == 4) = false := by rw [beq_eq_false_iff_ne]; omega
      simpa [isLand, this] using q
  | non => simpa [isLand] using q
  | bl b => simpa [isLand] using q
  | int b => simpa [isLand] using q
  | str b => simpa [isLand] using q
  | lst b => simpa [isLand] using q
  | _ => simp [okD] at ok
theorem inA_str {z : Str} {names : List Str} : inA (.str z) (names.map .str) = decide (z ∈ names) := by
  unfold inA
  rw [List.any_map, Bool.eq_iff_iff, List.any_eq_true]
  simp only [decide_eq_true_eq]
  constructor
  · rintro ⟨x, hx, e⟩
    have : (x == z) = true := e
    rw [← eq_of_beq this]; exact hx
  · intro h
    exact ⟨z, h, (by show (z == z) = true; simp)⟩
theorem flat_strs (names : List Str) : (names.map Val.str).all flatA = true := by
  rw [List.all_map, List.all_eq_true]; intro x _; rfl
theorem bo_is_pact (N : List Str) (hN : N.length = 3) : ∀ as h Q E, as.length = 2 → S_is_pact as h Q E → den_is_pact (startA N as) h (endsR Q) (RX E) := by
  rintro as h Q E - ⟨v, names, rfl, ok, q⟩
  have q := RT.same q
  unfold den_is_pact
  simp only [startA, hN]
  generalize hd : dCB fAll (aCons (dLc (dIt (dVar 0)) (.nm 2) tTrue (dCB fIsi (aCons (dVar 2) (aCons (dC (.ty "str")) aNil))) [2]) aNil) = da
  cases v with
  | tup vs =>
    have ok' : okDs vs = true := by rw [okD, Bool.and_eq_true] at ok; exact ok.1
    match vs, ok', q with
    | [a, b], ok', q =>
      simp only [okDs, Bool.and_eq_true] at ok'
      obtain ⟨oa, ob, -⟩ := ok'
      let isS : Val → Bool := fun v => match v with | .str _ => true | _ => false
      have key : ∀ {h : Hv} {Q : PV} {E : PX}, Q (.bl (isS a && isS b)) h → da [some (.tup [a, b]), some (.lst (names.map .str)), none] h Q E := fun {h Q E} q => by
        subst hd
        refine all_lc (items := [a, b]) (ok := fun _ => True) isS (fun R r => by simpa using r) (fun _ _ => trivial) (by show 2 ≤ sizeLine; decide) (fun v hv => ?_) ?_
        · have ov : okD v = true := by
            rcases List.mem_cons.mp hv with e | e
            · rw [e]; exact oa
            · rw [List.mem_singleton.mp e]; exact ob
          refine ⟨_, rfl, fun h' Q' _ q' => ?_⟩
          cases v <;> first | (simp [okD] at ov; done) | (simpa [isS] using q')
        · simpa using q
      simp [atI, ixN]
      refine key ?_
      cases a with
      | str x =>
        cases b with
        | str y =>
          simp [isS, inA_str, flat_strs]
          by_cases hx : x ∈ names
          · by_cases hy : y ∈ names
            · simpa [hx, hy, isPact, str_beq] using q
            · simpa [hx, hy, isPact] using q
          · simpa [hx, isPact] using q
        | _ => simpa [isS, isPact] using q
      | _ => simpa [isS, isPact] using q
    | [], _, q => simpa [isPact] using q
    | [_], _, q => simpa [isPact] using q
    | _ :: _ :: _ :: r, _, q =>
      have : ((r.length : Int) + 1 + 1 + 1 == 2) = false := by rw [beq_eq_false_iff_ne]; omega
      simpa [isPact, this] using q
  | non => simpa [isPact] using q
  | bl b => simpa [isPact] using q
  | int b => simpa [isPact] using q
  | str b => simpa [isPact] using q
  | lst b => simpa [isPact] using q
  | _ => simp [okD] at ok
theorem okD_tup {vs : List Val} (h : okD (.tup vs) = true) : okDs vs = true ∧ vs.length ≤ 1000 := by
  rw [okD, Bool.and_eq_true, decide_eq_true_eq] at h; exact h
theorem isLand_nm {v : Val} (h : isLand v = true) : ∃ z r, v = .tup (.str z :: r) ∧ nmOf v = z := by
  unfold isLand at h
  split at h
  · rename_i a b c d
    simp only [Bool.and_eq_true] at h
    have ha := h.1.1.1
    cases a with
    | str z => exact ⟨z, _, rfl, rfl⟩
    | _ => simp [isName] at ha
  · cases h
theorem isPact_str {v : Val} {names : List Str} (h : isPact v names = true) : ∃ a b, v = .tup [.str a, .str b] := by
  unfold isPact at h
  split at h
  · exact ⟨_, _, rfl⟩
  · cases h
theorem ris_strs : ∀ zs : List Str, ∃ b, risA (zs.map Val.str) = some b
  | [] => ⟨_, rfl⟩
  | [_] => ⟨_, rfl⟩
  | x :: y :: r => by
    obtain ⟨b, hb⟩ := ris_strs (y :: r)
    refine ⟨decide (x.cps.toList < y.cps.toList) && b, ?_⟩
    show (match ltA (.str x) (.str y), risA ((y :: r).map Val.str) with | some b, some c => some (b && c) | _, _ => none) = _
    rw [hb]; rfl
theorem lt_pair (a b c d : Str) : ∃ k, ltA (.tup [.str a, .str b]) (.tup [.str c, .str d]) = some k := by
  unfold ltA
  dsimp only
  rw [if_pos (by rfl)]
  unfold ltL
  split
  · unfold ltL
    split
    · exact ⟨_, rfl⟩
    · exact ⟨_, rfl⟩
  · exact ⟨_, rfl⟩
theorem ris_pacts : ∀ vs : List Val, (∀ v ∈ vs, ∃ a b, v = Val.tup [.str a, .str b]) → ∃ b, risA vs = some b
  | [], _ => ⟨_, rfl⟩
  | [_], _ => ⟨_, rfl⟩
  | x :: y :: r, h => by
    obtain ⟨b, hb⟩ := ris_pacts (y :: r) fun v hv => h v (List.mem_cons_of_mem _ hv)
    obtain ⟨a1, a2, rfl⟩ := h x List.mem_cons_self
    obtain ⟨b1, b2, rfl⟩ := h y (List.mem_cons_of_mem _ List.mem_cons_self)
    obtain ⟨k, hk⟩ := lt_pair a1 a2 b1 b2
    refine ⟨k && b, ?_⟩
    unfold risA
    rw [hb, hk]
theorem bo_is_book (N : List Str) (hN : N.length = 6) : ∀ as h Q E, as.length = 1 → S_is_book as h Q E → den_is_book (startA N as) h (endsR Q) (RX E) := by
  rintro as h Q E - ⟨v, rfl, ok, q⟩
  have q := RT.same q
  unfold den_is_book
  simp only [startA, hN]
  generalize hd : dCB fAll (aCons (dLc (dIt (dVar 1)) (.nm 4) tTrue (dCall 1 S_is_land (aCons (dVar 4) aNil)) [4]) aNil) = dl
  generalize hp : dCB fAll (aCons (dLc (dIt (dVar 2)) (.nm 5) tTrue (dCall 2 S_is_pact (aCons (dVar 5) (aCons (dVar 3) aNil))) [5]) aNil) = dp
  generalize hm : dLc (dIt (dVar 1)) (.nm 4) tTrue (dBin fIx (dVar 4) (dC (.int 0))) [4] = dm
  cases v with
  | tup vs =>
    have ok' := (okD_tup ok).1
    match vs, ok', q with
    | [l, ps], ok', q =>
      simp only [okDs, Bool.and_eq_true] at ok'
      obtain ⟨ol, op, -⟩ := ok'
      cases l with
      | tup lands =>
        obtain ⟨ols, oll⟩ := okD_tup ol
        have hlen := sl1000 oll
        have kl : ∀ {h : Hv} {Q : PV} {E : PX}, Q (.bl (lands.all isLand)) h → dl [some (.tup [.tup lands, ps]), some (.tup lands), some ps, none, none, none] h Q E := fun {h Q E} q => by
          subst hd
          refine all_lc (items := lands) (ok := fun _ => True) isLand (fun R r => by simpa using r) (fun _ _ => trivial) hlen (fun v hv => ⟨_, rfl, fun h' Q' _ q' => ?_⟩) q
          exact ⟨rfl, v, rfl, okDs_mem ols hv, q'⟩
        by_cases h1 : 1 ≤ lands.length
        · have h1' : (1 : Int) ≤ lands.length := by omega
          by_cases h4 : lands.length ≤ 4
          · have h4' : (lands.length : Int) ≤ 4 := by omega
            simp [atI, ixN, h1', h4']
            refine kl ?_
            cases ha : lands.all isLand with
            | false => simpa [isBook, ha] using q
            | true =>
              simp
              have km : ∀ {h : Hv} {Q : PV} {E : PX}, Q (.lst ((lands.map nmOf).map .str)) h → dm [some (.tup [.tup lands, ps]), some (.tup lands), some ps, none, none, none] h Q E := fun {h Q E} q => by
                subst hm
                refine lc_map (items := lands) (ok := fun _ => True) (fun v => .str (nmOf v)) (fun R r => by simpa using r) (fun _ _ => trivial) hlen (fun v hv => ⟨_, rfl, fun h' Q' _ q' => ?_⟩) (by rw [List.map_map] at q; exact q)
                obtain ⟨z, r, rfl, -⟩ := isLand_nm (List.all_eq_true.mp ha v hv)
                have : ixN (r.length + 1) 0 = some 0 := by simp [ixN]
                simp [atI, this]
                simpa [nmOf] using q'
              refine km ?_
              obtain ⟨b1, hb1⟩ := ris_strs (lands.map nmOf)
              refine ⟨_, _, b1, rfl, .inl rfl, by simpa using oll, hb1, ?_⟩
              have hb1' : risA (lands.map fun l => Val.str (nmOf l)) = some b1 := by rw [List.map_map] at hb1; exact hb1
              cases b1 with
              | false => simpa [isBook, ha, hb1'] using q
              | true =>
                simp
                cases ps with
                | tup ps =>
                  obtain ⟨ops, opl⟩ := okD_tup op
                  have plen := sl1000 opl
                  have kp : ∀ {h : Hv} {Q : PV} {E : PX}, Q (.bl (ps.all fun p => isPact p (lands.map nmOf))) h → dp [some (.tup [.tup lands, .tup ps]), some (.tup lands), some (.tup ps), some (.lst ((lands.map nmOf).map .str)), none, none] h Q E := fun {h Q E} q => by
                    subst hp
                    refine all_lc (items := ps) (ok := fun _ => True) (fun p => isPact p (lands.map nmOf)) (fun R r => by simpa using r) (fun _ _ => trivial) plen (fun v hv => ⟨_, rfl, fun h' Q' _ q' => ?_⟩) q
                    exact ⟨rfl, v, _, rfl, okDs_mem ops hv, q'⟩
                  simp
                  rw [← List.map_map]
                  refine kp ?_
                  cases hap : (ps.all fun p => isPact p (lands.map nmOf)) with
                  | false => simpa [isBook, ha, hb1', hap] using q
                  | true =>
                    simp
                    obtain ⟨b2, hb2⟩ := ris_pacts ps fun v hv => isPact_str (List.all_eq_true.mp hap v hv)
                    refine ⟨_, _, b2, rfl, .inr rfl, opl, hb2, ?_⟩
                    simpa [isBook, ha, hb1', hap, hb2, h1, h4] using q
                | non => simpa [isBook, ha, hb1'] using q
                | bl b => simpa [isBook, ha, hb1'] using q
                | int b => simpa [isBook, ha, hb1'] using q
                | str b => simpa [isBook, ha, hb1'] using q
                | lst b => simpa [isBook, ha, hb1'] using q
                | _ => simp [okD] at op
          · have h4' : ¬ (lands.length : Int) ≤ 4 := by omega
            simp [atI, ixN, h1', h4']
            simpa [isBook, h4] using q
        · have h1' : ¬ (1 : Int) ≤ lands.length := by omega
          simp [atI, ixN, h1']
          simpa [isBook, h1] using q
      | non => simpa [isBook, atI, ixN] using q
      | bl b => simpa [isBook, atI, ixN] using q
      | int b => simpa [isBook, atI, ixN] using q
      | str b => simpa [isBook, atI, ixN] using q
      | lst b => simpa [isBook, atI, ixN] using q
      | _ => simp [okD] at ol
    | [], _, q => simpa [isBook] using q
    | [_], _, q => simpa [isBook] using q
    | _ :: _ :: _ :: r, _, q =>
      have : ((r.length : Int) + 1 + 1 + 1 == 2) = false := by rw [beq_eq_false_iff_ne]; omega
      simpa [isBook, this] using q
  | non => simpa [isBook] using q
  | bl b => simpa [isBook] using q
  | int b => simpa [isBook] using q
  | str b => simpa [isBook] using q
  | lst b => simpa [isBook] using q
  | _ => simp [okD] at ok
theorem bo_names_of (N : List Str) (hN : N.length = 2) : ∀ as h Q E, as.length = 1 → S_names_of as h Q E → den_names_of (startA N as) h (endsR Q) (RX E) := by
  rintro as h Q E - ⟨b, rfl, hl, q⟩
  have q := RT.same q
  unfold den_names_of
  simp only [startA, hN]
  show dLc _ _ _ _ _ _ _ _ _
  refine lc_map (items := b.lands.map encL) (ok := fun _ => True) (fun v => .str (nmOf v)) (fun R r => by simpa [encB, atI, ixN] using r) (fun _ _ => trivial) (by rw [List.length_map]; exact sl1000 (by omega)) (fun v hv => ?_) ?_
  · obtain ⟨l, -, rfl⟩ := List.mem_map.mp hv
    refine ⟨_, rfl, fun h' Q' _ q' => ?_⟩
    simpa [encL, atI, ixN, nmOf] using q'
  · refine Qv q ?_
    simp [Book.names, encL, nmOf]
theorem bo_is_raw (N : List Str) (hN : N.length = 2) : ∀ as h Q E, as.length = 2 → S_is_raw as h Q E → den_is_raw (startA N as) h (endsR Q) (RX E) := by
  rintro as h Q E - ⟨b, v, rfl, hl, ok, q⟩
  have q := RT.same q
  unfold den_is_raw
  simp only [startA, hN]
  cases v with
  | tup vs =>
    have ok' := (okD_tup ok).1
    match vs, ok', q with
    | [w, l], ok', q =>
      simp only [okDs, Bool.and_eq_true] at ok'
      obtain ⟨ow, ol, -⟩ := ok'
      simp [atI, ixN]
      refine ⟨w, 1, 9999, rfl, ow, ?_⟩
      cases hw : isNum w 1 9999 with
      | false => simpa [isRaw, hw] using q
      | true =>
        cases l with
        | non => simpa [isRaw, hw] using q
        | str z =>
          simp
          refine ⟨b, rfl, hl, ?_⟩
          simpa [isRaw, hw, inA_str, flat_strs] using q
        | bl b => simpa [isRaw, hw] using q
        | int b => simpa [isRaw, hw] using q
        | tup b => simpa [isRaw, hw] using q
        | lst b => simpa [isRaw, hw] using q
        | _ => simp [okD] at ol
    | [], _, q => simpa [isRaw] using q
    | [_], _, q => simpa [isRaw] using q
    | _ :: _ :: _ :: r, _, q =>
      have : ((r.length : Int) + 1 + 1 + 1 == 2) = false := by rw [beq_eq_false_iff_ne]; omega
      simpa [isRaw, this] using q
  | non => simpa [isRaw] using q
  | bl b => simpa [isRaw] using q
  | int b => simpa [isRaw] using q
  | str b => simpa [isRaw] using q
  | lst b => simpa [isRaw] using q
  | _ => simp [okD] at ok
theorem bo_is_heap (N : List Str) (hN : N.length = 3) : ∀ as h Q E, as.length = 2 → S_is_heap as h Q E → den_is_heap (startA N as) h (endsR Q) (RX E) := by
  rintro as h Q E - ⟨b, v, rfl, hl, ok, q⟩
  have q := RT.same q
  unfold den_is_heap
  simp only [startA, hN]
  generalize hd : dCB fAll (aCons (dLc (dIt (dVar 1)) (.nm 2) tTrue (dCall 2 S_is_raw (aCons (dVar 0) (aCons (dVar 2) aNil))) [2]) aNil) = da
  cases v with
  | tup vs =>
    obtain ⟨ovs, ovl⟩ := okD_tup ok
    have hz := sl1000 ovl
    have key : ∀ {h : Hv} {Q : PV} {E : PX}, Q (.bl (vs.all (isRaw b))) h → da [some (encB b), some (.tup vs), none] h Q E := fun {h Q E} q => by
      subst hd
      refine all_lc (items := vs) (ok := fun _ => True) (isRaw b) (fun R r => by simpa using r) (fun _ _ => trivial) hz (fun v hv => ⟨_, rfl, fun h' Q' _ q' => ?_⟩) q
      exact ⟨rfl, b, v, rfl, hl, okDs_mem ovs hv, q'⟩
    by_cases h1 : 1 ≤ vs.length
    · have h1' : (1 : Int) ≤ vs.length := by omega
      by_cases h2 : vs.length ≤ 8
      · have h2' : (vs.length : Int) ≤ 8 := by omega
        simp [h1', h2']
        refine key ?_
        simpa [isHeap, h1, h2] using q
      · have h2' : ¬ (vs.length : Int) ≤ 8 := by omega
        simp [h1', h2']
        simpa [isHeap, h2] using q
    · have h1' : ¬ (1 : Int) ≤ vs.length := by omega
      simp [h1']
      simpa [isHeap, h1] using q
  | non => simpa [isHeap] using q
  | bl b => simpa [isHeap] using q
  | int b => simpa [isHeap] using q
  | str b => simpa [isHeap] using q
  | lst b => simpa [isHeap] using q
  | _ => simp [okD] at ok
end DL
namespace DL
open PySem PySem.Spec PyProof.Rows L2
def RsOk (rs : List (Key × Val)) : Prop := ∃ ks : List Nat, rs.map (·.1) = ks.map (fun (k : Nat) => (Sum.inl (k : Int) : Key)) ∧ ks.Nodup ∧ (∀ k ∈ ks, k < 64) ∧ ∀ kv ∈ rs, ∃ z, kv.2 = .int z
/-- the town that the draws live in -/
structure Town (t r : Addr) (h : Hv) : Prop where
  ne : t ≠ r
  tc : ∃ c : Int, 0 ≤ c ∧ h t = some (.dK [(.inr "count", .int c), (.inr "rests", .ref r)])
  rc : ∃ rs, h r = some (.dK rs) ∧ RsOk rs
/-- nothing but the town has changed -/
def Only (t r : Addr) (h h' : Hv) : Prop := ∀ a, a ≠ t → a ≠ r → h' a = h a
theorem Only.refl {t r : Addr} (h : Hv) : Only t r h h := fun _ _ _ => rfl
theorem Only.trans {t r : Addr} {h h1 h2 : Hv} (a : Only t r h h1) (b : Only t r h1 h2) : Only t r h h2 := fun x u v => (b x u v).trans (a x u v)
def S__law_is : SpF := fun as h Q _ => ∃ a b, as = [.bl a, .bl b] ∧ Q (.bl (a == b)) h
def S__law_draw : SpF := fun as h Q _ => ∃ ns t r m, as = [.scr ns, .ref t, .int m] ∧ 0 < m ∧ m < 1073741824 ∧ ns.length ≤ 63 ∧ Town t r h ∧ ∀ n h', 0 ≤ n → n < m → Town t r h' → Only t r h h' → Q (.int n) h'
def S__law_begun : SpF := fun as h Q _ => as = [] ∧ ∀ t r h', h t = none → h r = none → Town t r h' → Only t r h h' → Q (.ref t) h'
/-- a drawn book -/
structure Drawn (b : Book) : Prop where
  wf : WFB b
  nm : ∃ k, 1 ≤ k ∧ k ≤ 3 ∧ b.names = (["ash", "elm", "fir"] : List Str).take k
  sh : ∀ l ∈ b.lands, 1 ≤ l.p ∧ l.p ≤ l.q ∧ l.q ≤ 6 ∧ 0 ≤ l.pr ∧ l.pr ≤ 8
def S__law_a_book : SpF := fun as h Q _ => ∃ ns t r, as = [.scr ns, .ref t] ∧ ns.length ≤ 63 ∧ Town t r h ∧ ∀ b h', Drawn b → Town t r h' → Only t r h h' → Q (encB b) h'
structure DrawnH (b : Book) (hp : Heap') (most : Int) : Prop where
  n1 : 1 ≤ hp.length
  nm : hp.length ≤ most
  wt : ∀ x ∈ hp, 1 ≤ x.1 ∧ x.1 ≤ 40
  fr : ∀ x ∈ hp, ∀ z, x.2 = some z → z ∈ b.names
def S__law_a_heap : SpF := fun as h Q _ => ∃ ns t r b most, as = [.scr ns, .ref t, encB b, .int most] ∧ ns.length ≤ 63 ∧ 1 ≤ most ∧ most ≤ 8 ∧ b.lands.length ≤ 4 ∧ Town t r h ∧ ∀ hp h', DrawnH b hp most → Town t r h' → Only t r h h' → Q (encH hp) h'
def S__law_heaps : SpF := fun as h Q _ => ∃ ns t r b hp, as = [.scr ns, .ref t, encB b, encH hp] ∧ ns.length ≤ 63 ∧ Drawn b ∧ DrawnH b hp 8 ∧ Town t r h ∧ ∀ h', Q (.bl true) h'
def S_law : SpF := fun as h Q _ => ∃ ns, as = [.scr ns] ∧ ns.length ≤ 63 ∧ h = (fun _ => none) ∧ ∀ h', Q (.bl true) h'
end DL
namespace DL
open PySem PySem.Spec PyProof.Rows L2
def den__law_is : SD := (sRet (vAnd (dCB fIsi (aCons (dVar 0) (aCons (dC (.ty "bool")) aNil))) (dBin fEq (dVar 0) (dVar 1))))
def den__law_draw : SD := (sSeq (sDPut (dVar 1) (dC (.str "count")) (dBin fAdd (dDGet (dVar 1) (dC (.str "count"))) (dC (.int 1)))) (sSeq (sSet 3 (dIfE (dTruth (dVar 0)) (dBin fMod (dDGet (dVar 1) (dC (.str "count"))) (dCB fLen (aCons (dVar 0) aNil))) (dC (.int 0)))) (sSeq (sSet 4 (dDGet2 (dDGet (dVar 1) (dC (.str "rests"))) (dVar 3) (dIfE (dTruth (dVar 0)) (dBin fIx (dVar 0) (dVar 3)) (dC (.int 0))))) (sSeq (sIf (dTest (dBin fGe (dVar 4) (dBin fPow (dC (.int 10)) (dC (.int 18))))) (sSeq (sDPut (dDGet (dVar 1) (dC (.str "rests"))) (dVar 3) (dBin fDiv (dVar 4) (dVar 2))) (sRet (dBin fMod (dVar 4) (dVar 2)))) sNext) (sSeq (sSet 5 (dBin fMod (dBin fAdd (dVar 4) (dBin fMulA (dC (.int 104729)) (dDGet (dVar 1) (dC (.str "count"))))) (dC (.int 4294967291)))) (sSeq (sSet 5 (dBin fMod (dBin fPow (dVar 5) (dC (.int 5))) (dC (.int 4294967279)))) (sRet (dBin fMod (dBin fDiv (dBin fMod (dBin fAdd (dBin fMulA (dBin fDiv (dVar 5) (dC (.int 64))) (dC (.int 69621))) (dVar 5)) (dC (.int 4294967231))) (dC (.int 8))) (dVar 2)))))))))
def den__law_begun : SD := (sRet (dDisp [((dC (.str "count")), (dC (.int 0))), ((dC (.str "rests")), dNewK)]))
def den__law_a_book : SD := (sSeq (sPar [2, 3, 4] (aCons (dSl fSl (dTup (aCons (dC (.str "ash")) (aCons (dC (.str "elm")) (aCons (dC (.str "fir")) aNil)))) oNone (oSome (dBin fAdd (dC (.int 1)) (dCall 3 S__law_draw (aCons (dVar 0) (aCons (dVar 1) (aCons (dC (.int 3)) aNil))))))) (aCons (dLstH aNil) (aCons (dLstH aNil) aNil)))) (sSeq (sFor (dIt (dVar 2)) (.nm 5) (sSeq (sSet 6 (dBin fAdd (dC (.int 1)) (dCall 3 S__law_draw (aCons (dVar 0) (aCons (dVar 1) (aCons (dC (.int 6)) aNil)))))) (sExpr (dBM "list" fAppend (dVar 3) (aCons (dTup (aCons (dVar 5) (aCons (dBin fAdd (dC (.int 1)) (dCall 3 S__law_draw (aCons (dVar 0) (aCons (dVar 1) (aCons (dVar 6) aNil))))) (aCons (dVar 6) (aCons (dCall 3 S__law_draw (aCons (dVar 0) (aCons (dVar 1) (aCons (dC (.int 9)) aNil)))) aNil))))) aNil))))) (sSeq (sFor (dIt (dVar 2)) (.nm 7) (sFor (dIt (dVar 2)) (.nm 8) (sIf (dAnd (dTest (dBin fNe (dVar 7) (dVar 8))) (dTest (dBin fEq (dCall 3 S__law_draw (aCons (dVar 0) (aCons (dVar 1) (aCons (dC (.int 3)) aNil)))) (dC (.int 0))))) (sExpr (dBM "list" fAppend (dVar 4) (aCons (dTup (aCons (dVar 7) (aCons (dVar 8) aNil))) aNil))) sNext))) (sRet (dTup (aCons (dCB fTuple (aCons (dVar 3) aNil)) (aCons (dCB fTuple (aCons (dVar 4) aNil)) aNil)))))))
def den__law_a_heap : SD := (sSeq (sPar [4, 5] (aCons (dLstH aNil) (aCons (dLc (dIt (dBin fIx (dVar 2) (dC (.int 0)))) (.nm 8) tTrue (dBin fIx (dVar 8) (dC (.int 0))) [8]) aNil))) (sSeq (sFor (dRange1 (aCons (dBin fAdd (dC (.int 1)) (dCall 3 S__law_draw (aCons (dVar 0) (aCons (dVar 1) (aCons (dVar 3) aNil))))) aNil)) (.nm 6) (sSeq (sSet 7 (dBin fAdd (dC (.int 1)) (dCall 3 S__law_draw (aCons (dVar 0) (aCons (dVar 1) (aCons (dBin fIx (dLst (aCons (dC (.int 9)) (aCons (dC (.int 40)) aNil))) (dCall 3 S__law_draw (aCons (dVar 0) (aCons (dVar 1) (aCons (dC (.int 2)) aNil))))) aNil)))))) (sExpr (dBM "list" fAppend (dVar 4) (aCons (dTup (aCons (dVar 7) (aCons (dBin fIx (dBin fAdd (dBin fAdd (dVar 5) (dVar 5)) (dLst (aCons (dC .non) aNil))) (dCall 3 S__law_draw (aCons (dVar 0) (aCons (dVar 1) (aCons (dBin fAdd (dBin fMulA (dC (.int 2)) (dCB fLen (aCons (dVar 5) aNil))) (dC (.int 1))) aNil))))) aNil))) aNil))))) (sRet (dCB fTuple (aCons (dVar 4) aNil)))))
end DL
namespace DL
open PySem PySem.Spec PyProof.Rows L2
theorem atI_nat {α : Type} {xs : List α} {k : Nat} (h : k < xs.length) : atI xs (k : Int) = some xs[k] := by
  have : ixN xs.length (k : Int) = some k := by unfold ixN; simp; omega
  unfold atI
  rw [this]
  exact List.getElem?_eq_getElem h
theorem atI_int {α : Type} {xs : List α} {i : Int} (h0 : 0 ≤ i) (h : i < xs.length) : ∃ (h : i.toNat < xs.length), atI xs i = some (xs[i.toNat]'h) := by
  obtain ⟨k, rfl⟩ := Int.eq_ofNat_of_zero_le h0
  have h : k < xs.length := by omega
  exact ⟨h, atI_nat h⟩
/-- a loop whose turns leave the heap as it is -/
theorem for_same {ok : Hv → Prop} {t : Tg} {d : SD} {D : AE} {E : PX} {items : List Val} {ρ : Sl} {h : Hv} (P : Sl → Prop) (hok : ok h) (hρ : P ρ)
    (hs : ∀ v ∈ items, ∀ ρ, P ρ → ∃ ρ', bT t v ρ = some ρ' ∧ ∀ N : Sl → Hv → Prop, (∀ ρ, P ρ → N ρ h) → d ρ' h { D with nx := N, ct := N, bk := D.nx } E)
    (fin : ∀ ρ, P ρ → D.nx ρ h) : forL ok t d items ρ h D E := by
  refine for_ind (fun vs ρ' h' => h' = h ∧ P ρ' ∧ ∀ v ∈ vs, v ∈ items) ?_ ?_ items ρ h ⟨rfl, hρ, fun _ z => z⟩
  · rintro ρ' h' ⟨rfl, p, -⟩
    exact ⟨hok, fin ρ' p⟩
  · rintro v vs ρ' h' ⟨rfl, p, m⟩
    obtain ⟨ρ2, e, k⟩ := hs v (m v List.mem_cons_self) ρ' p
    exact ⟨hok, ρ2, e, fun N hN => k N fun ρ3 p3 => hN ρ3 _ ⟨rfl, p3, fun w hw => m w (List.mem_cons_of_mem _ hw)⟩⟩
theorem seq_o {a b : SD} {ρ : Sl} {h : Hv} {D : AE} {E : PX} (q : ∀ K : SD, K = b → a ρ h { D with nx := fun ρ h => K ρ h D E } E) : sSeq a b ρ h D E := q b rfl
theorem atI_zero {α : Type} (x : α) (xs : List α) : atI (x :: xs) 0 = some x := by
  have : ixN (xs.length + 1) 0 = some 0 := by simp [ixN]
  simp [atI, this]
/-- what is named so stays closed to the kernel, too -/
theorem opq {α : Sort u} {x : α} {P : α → Prop} (q : ∀ y, x = y → P y) : ∀ y, x = y → P y := q
theorem for_o {di : ID} {t : Tg} {d : SD} {ρ : Sl} {h : Hv} {D : AE} {E : PX} (q : ∀ d' : SD, d' = d → sFor di t d' ρ h D E) : sFor di t d ρ h D E := q d rfl
end DL
namespace DL
open PySem PySem.Spec PyProof.Rows L2
theorem bo__law_is (N : List Str) (hN : N.length = 2) : ∀ as h Q E, as.length = 2 → S__law_is as h Q E → den__law_is (startA N as) h (endsR Q) (RX E) := by
  rintro as h Q E - ⟨a, b, rfl, q⟩
  have q := RT.same q
  unfold den__law_is
  simp only [startA, hN]
  simpa using q
theorem nd_len : ∀ (n : Nat) (l : List Nat), l.Nodup → (∀ x ∈ l, x < n) → l.length ≤ n
  | 0, [], _, _ => Nat.le_refl _
  | 0, x :: l, _, h => absurd (h x List.mem_cons_self) (Nat.not_lt_zero _)
  | n + 1, l, nd, h => by
    by_cases hm : n ∈ l
    · have := nd_len n (l.erase n) (nd.erase n) fun x hx => by
        have := (nd.mem_erase_iff).mp hx
        have := h x this.2
        have : x ≠ n := ‹x ≠ n ∧ _›.1
        omega
      rw [List.length_erase_of_mem hm] at this
      omega
    · have := nd_len n l nd fun x hx => by
        have := h x hx
        have : x ≠ n := fun e => hm (e ▸ hx)
        omega
      omega
theorem RsOk.len {rs : List (Key × Val)} (k : RsOk rs) : rs.length ≤ 64 := by
  obtain ⟨ks, e, nd, lt, -⟩ := k
  have := congrArg List.length e
  rw [List.length_map, List.length_map] at this
  rw [this]
  exact nd_len 64 ks nd lt
theorem RsOk.put {rs : List (Key × Val)} (k : RsOk rs) {i : Nat} (hi : i < 64) (z : Int) : RsOk (putA rs (.inl (i : Int)) (.int z)) := by
  obtain ⟨ks, e, nd, lt, iv⟩ := k
  unfold putA
  split
  · refine ⟨ks, ?_, nd, lt, ?_⟩
    · rw [List.map_map, ← e]
      refine List.map_congr_left fun kv _ => ?_
      show (if kv.1 = _ then (kv.1, _) else kv).1 = kv.1
      split <;> rfl
    · intro kv hkv
      obtain ⟨kw, hw, rfl⟩ := List.mem_map.mp hkv
      split
      · exact ⟨_, rfl⟩
      · exact iv kw hw
  · rename_i hn
    refine ⟨ks ++ [i], by rw [List.map_append, List.map_append, e]; rfl, ?_, ?_, ?_⟩
    · rw [List.nodup_append]
      refine ⟨nd, by simp, ?_⟩
      intro a ha b hb hab
      rw [List.mem_singleton] at hb
      subst hb; subst hab
      apply hn
      have : (Sum.inl (a : Int) : Key) ∈ rs.map (·.1) := by rw [e]; exact List.mem_map.mpr ⟨a, ha, rfl⟩
      obtain ⟨kv, hkv, ek⟩ := List.mem_map.mp this
      exact List.any_eq_true.mpr ⟨kv, hkv, by rw [ek]; simp⟩
    · intro k hk
      rcases List.mem_append.mp hk with h | h
      · exact lt k h
      · rw [List.mem_singleton] at h; omega
    · intro kv hkv
      rcases List.mem_append.mp hkv with h | h
      · exact iv kv h
      · rw [List.mem_singleton] at h; subst h; exact ⟨_, rfl⟩
theorem RsOk.val {rs : List (Key × Val)} (k : RsOk rs) (i : Int) : valA rs (.inl i) = none ∨ ∃ z, valA rs (.inl i) = some (.int z) := by
  obtain ⟨ks, e, nd, lt, iv⟩ := k
  unfold valA
  cases hf : rs.find? fun kv => decide (kv.1 = Sum.inl i) with
  | none => exact .inl rfl
  | some kv =>
    obtain ⟨z, hz⟩ := iv kv (List.mem_of_find?_eq_some hf)
    exact .inr ⟨z, by rw [Option.map_some, hz]⟩
theorem put_count (c z : Int) (r : Addr) : putA [((.inr "count" : Key), Val.int c), (.inr "rests", .ref r)] (.inr "count") (.int z) = [(.inr "count", .int z), (.inr "rests", .ref r)] := by
  simp [putA, show ¬ Str.ofString "rests" = Str.ofString "count" by decide]
theorem val_count (c : Int) (r : Addr) : valA [((.inr "count" : Key), Val.int c), (.inr "rests", .ref r)] (.inr "count") = some (.int c) := by
  simp [valA]
theorem val_rests (c : Int) (r : Addr) : valA [((.inr "count" : Key), Val.int c), (.inr "rests", .ref r)] (.inr "rests") = some (.ref r) := by
  simp [valA, show ¬ Str.ofString "count" = Str.ofString "rests" by decide]
theorem bo__law_draw (N : List Str) (hN : N.length = 6) : ∀ as h Q E, as.length = 3 → S__law_draw as h Q E → den__law_draw (startA N as) h (endsR Q) (RX E) := by
  rintro as h Q E - ⟨ns, t, r, m, rfl, m1, m2, nl, T, q⟩
  obtain ⟨c, c0, ht⟩ := T.tc
  obtain ⟨rs, hr, ro⟩ := T.rc
  have ne := T.ne
  -- the town behind the first deed
  have h1 : ∃ h1, h1 = put h t (.dK [(.inr "count", .int (c + 1)), (.inr "rests", .ref r)]) := ⟨_, rfl⟩
  obtain ⟨h1, e1⟩ := h1
  have h1t : h1 t = some (.dK [(.inr "count", .int (c + 1)), (.inr "rests", .ref r)]) := by rw [e1, put_same]
  have h1r : h1 r = some (.dK rs) := by rw [e1, put_ne ne.symm]; exact hr
  have o1 : Only t r h h1 := fun a x y => by rw [e1, put_ne x]
  have T1 : Town t r h1 := ⟨ne, ⟨c + 1, by omega, h1t⟩, ⟨rs, h1r, ro⟩⟩
  have p1 : dputA (.ref t) (.str "count") (.int (c + 1)) h = some h1 := by
    simp only [dputA, ht, keyOf]
    rw [if_pos (by show 2 < sizeLine; decide), put_count, e1]
  -- what is drawn
  have fin : ∀ (at' : Nat) (z : Int), at' < 64 → sSeq (sIf (dTest (dBin fGe (dVar 4) (dBin fPow (dC (.int 10)) (dC (.int 18))))) (sSeq (sDPut (dDGet (dVar 1) (dC (.str "rests"))) (dVar 3) (dBin fDiv (dVar 4) (dVar 2))) (sRet (dBin fMod (dVar 4) (dVar 2)))) sNext) (sSeq (sSet 5 (dBin fMod (dBin fAdd (dVar 4) (dBin fMulA (dC (.int 104729)) (dDGet (dVar 1) (dC (.str "count"))))) (dC (.int 4294967291)))) (sSeq (sSet 5 (dBin fMod (dBin fPow (dVar 5) (dC (.int 5))) (dC (.int 4294967279)))) (sRet (dBin fMod (dBin fDiv (dBin fMod (dBin fAdd (dBin fMulA (dBin fDiv (dVar 5) (dC (.int 64))) (dC (.int 69621))) (dVar 5)) (dC (.int 4294967231))) (dC (.int 8))) (dVar 2))))) [some (.scr ns), some (.ref t), some (.int m), some (.int at'), some (.int z), none] h1 (endsR Q) (RX E) := fun at' z ha => by
    by_cases hz : 10 ^ 18 ≤ z
    · have pw : CPow 10 18 := ⟨by decide, by decide, by decide⟩
      have dv : CDiv z m := ⟨m1, m2⟩
      have p2 : dputA (.ref r) (.int at') (.int (z / m)) h1 = some (put h1 r (.dK (putA rs (.inl (at' : Int)) (.int (z / m))))) := by
        simp only [dputA, h1r, keyOf]
        rw [if_pos (by have := ro.len; rw [sizeLine_eq]; omega)]
      have hz' : (1000000000000000000 : Int) ≤ z := hz
      have fg : ∀ P : Val → Hv → Prop, P (.bl true) h1 → fGe (.int z) (.int 1000000000000000000) h1 P := fun P p => by
        show P (.bl (decide _)) h1
        rw [show decide ((1000000000000000000 : Int) ≤ z) = true from decide_eq_true hz']
        exact p
      simp [pw, dv, h1t, val_rests, p2, m1, hz']
      refine RT.same (q _ _ (Int.emod_nonneg _ (by omega)) (Int.emod_lt_of_pos _ m1) ⟨ne, ⟨c + 1, by omega, by rw [put_ne ne]; exact h1t⟩, ⟨_, put_same, ro.put ha _⟩⟩ fun a x y => by rw [put_ne y]; exact o1 a x y)
    · have pw : CPow 10 18 := ⟨by decide, by decide, by decide⟩
      have hz' : ¬ (1000000000000000000 : Int) ≤ z := hz
      obtain ⟨u, eu⟩ : ∃ u, u = (z + 104729 * (c + 1)) % 4294967291 := ⟨_, rfl⟩
      have u0 : 0 ≤ u := by rw [eu]; exact Int.emod_nonneg _ (by decide)
      have u1 : u < 4294967291 := by rw [eu]; exact Int.emod_lt_of_pos _ (by decide)
      have pw2 : CPow u 5 := ⟨by decide, by decide, by
        have : (2:Nat) ^ 64 = 18446744073709551616 := by decide
        omega⟩
      obtain ⟨w, ew⟩ : ∃ w, w = u ^ 5 % 4294967279 := ⟨_, rfl⟩
      have w0 : 0 ≤ w := by rw [ew]; exact Int.emod_nonneg _ (by decide)
      have cm : CMul 104729 (c + 1) := .inl ⟨by decide, by decide⟩
      have cm2 : CMul (w / 64) 69621 := .inr ⟨by decide, by decide⟩
      have cd1 : CDiv w 64 := ⟨by decide, by decide⟩
      have cd2 : ∀ x, CDiv x 8 := fun _ => ⟨by decide, by decide⟩
      simp [pw, hz', h1t, val_count, cm, ← eu, pw2, ← ew, cd1, cm2, cd2, m1]
      exact RT.same (q _ _ (Int.emod_nonneg _ (by omega)) (Int.emod_lt_of_pos _ m1) T1 o1)
  unfold den__law_draw
  simp only [startA, hN]
  generalize hg : sSeq (sIf (dTest (dBin fGe (dVar 4) (dBin fPow (dC (.int 10)) (dC (.int 18))))) (sSeq (sDPut (dDGet (dVar 1) (dC (.str "rests"))) (dVar 3) (dBin fDiv (dVar 4) (dVar 2))) (sRet (dBin fMod (dVar 4) (dVar 2)))) sNext) (sSeq (sSet 5 (dBin fMod (dBin fAdd (dVar 4) (dBin fMulA (dC (.int 104729)) (dDGet (dVar 1) (dC (.str "count"))))) (dC (.int 4294967291)))) (sSeq (sSet 5 (dBin fMod (dBin fPow (dVar 5) (dC (.int 5))) (dC (.int 4294967279)))) (sRet (dBin fMod (dBin fDiv (dBin fMod (dBin fAdd (dBin fMulA (dBin fDiv (dVar 5) (dC (.int 64))) (dC (.int 69621))) (dVar 5)) (dC (.int 4294967231))) (dC (.int 8))) (dVar 2))))) = dd at fin ⊢
  cases ns with
  | nil =>
    have := fun z => fin 0 z (by decide)
    simp only [sSeq, sDPut, dBin, dDGet, dVar, dC, sSet, dIfE, dTruth, dDGet2]
    rcases ro.val 0 with e | ⟨z, e⟩
    · simp [ht, h1t, h1r, val_count, val_rests, p1, e]
      exact this 0
    · simp [ht, h1t, h1r, val_count, val_rests, p1, e]
      exact this z
  | cons n ns =>
    rw [List.length_cons] at nl
    obtain ⟨k, ek⟩ : ∃ k : Nat, (c + 1) % ((ns.length : Int) + 1) = k := ⟨((c + 1) % ((ns.length : Int) + 1)).toNat, by
      have := Int.emod_nonneg (c + 1) (b := (ns.length : Int) + 1) (by omega)
      omega⟩
    have hk : k < ns.length + 1 := by
      have := Int.emod_lt_of_pos (c + 1) (b := (ns.length : Int) + 1) (by omega)
      omega
    have := fun z => fin k z (by omega)
    have at1 : ∃ z, atI ((n :: ns).map Val.int) (k : Int) = some (.int z) := by
      have hk' : k < ((n :: ns).map Val.int).length := by simpa using hk
      refine ⟨(n :: ns)[k]'(by simpa using hk), ?_⟩
      rw [atI_nat hk', List.getElem_map]
    obtain ⟨z0, ez0⟩ := at1
    rw [List.map_cons] at ez0
    have lp : (0 : Int) < (ns.length : Int) + 1 := by omega
    simp only [sSeq, sDPut, dBin, dDGet, dVar, dC, sSet, dIfE, dTruth, dDGet2]
    rcases ro.val k with e | ⟨z, e⟩
    · simp [ht, h1t, h1r, val_count, val_rests, p1, e, ek, ez0, lp]
      exact this z0
    · simp [ht, h1t, h1r, val_count, val_rests, p1, e, ek, ez0, lp]
      exact this z
theorem bo__law_begun (N : List Str) (hN : N.length = 0) : ∀ as h Q E, as.length = 0 → S__law_begun as h Q E → den__law_begun (startA N as) h (endsR Q) (RX E) := by
  rintro as h Q E - ⟨rfl, q⟩
  unfold den__law_begun
  simp only [startA, hN]
  simp [dDisp, dPairs]
  intro t ht r hr
  have ne : t ≠ r := fun e => by rw [e, put_same] at hr; cases hr
  have e : putA (putA [] (Sum.inr (Str.ofString "count")) (Val.int 0)) (Sum.inr (Str.ofString "rests")) (Val.ref r) = [((.inr "count" : Key), Val.int 0), (.inr "rests", .ref r)] := by
    simp [putA, show ¬ Str.ofString "count" = Str.ofString "rests" by decide]
  rw [e]
  refine RT.same (q t r _ ht (by rw [put_ne ne.symm] at hr; exact hr) ⟨ne, ⟨0, by decide, put_same⟩, ⟨[], by rw [put_ne ne.symm, put_same], [], rfl, List.nodup_nil, by simp, by simp⟩⟩ fun a x y => by rw [put_ne x, put_ne y, put_ne x])
/-! ### places that fall away -/
def dropAll (ps : List Addr) (h : Hv) : Hv := fun a => if a ∈ ps then none else h a
theorem dropAll_less {ps : List Addr} {h : Hv} (nb : ∀ p ∈ ps, h p ≠ some .busy) : Lss h (dropAll ps h) := ⟨fun a => by
  unfold dropAll; split
  · exact .inl rfl
  · exact .inr rfl, fun a e => by
  unfold dropAll; split
  · rename_i m; exact absurd e (nb a m)
  · exact e⟩
def Ext (t r : Addr) (ps : List Addr) (h h' : Hv) : Prop := ∀ a, a ≠ t → a ≠ r → a ∉ ps → h' a = h a
theorem Ext.only {t r : Addr} {ps : List Addr} {h h' : Hv} (e : Ext t r ps h h') (f : ∀ p ∈ ps, h p = none) : Only t r h (dropAll ps h') := fun a x y => by
  unfold dropAll
  split
  · rename_i m; exact (f a m).symm
  · rename_i m; exact e a x y m
theorem Town.dropAll {t r : Addr} {ps : List Addr} {h : Hv} (T : Town t r h) (n1 : t ∉ ps) (n2 : r ∉ ps) : Town t r (dropAll ps h) :=
  ⟨T.ne, by
    obtain ⟨c, c0, e⟩ := T.tc
    exact ⟨c, c0, by unfold DL.dropAll; rw [if_neg n1]; exact e⟩, by
    obtain ⟨rs, e, k⟩ := T.rc
    exact ⟨rs, by unfold DL.dropAll; rw [if_neg n2]; exact e, k⟩⟩
theorem Town.put {t r p : Addr} {o : Ob} {h : Hv} (T : Town t r h) (n1 : p ≠ t) (n2 : p ≠ r) : Town t r (DL.put h p o) :=
  ⟨T.ne, by
    obtain ⟨c, c0, e⟩ := T.tc
    exact ⟨c, c0, by rw [put_ne n1.symm]; exact e⟩, by
    obtain ⟨rs, e, k⟩ := T.rc
    exact ⟨rs, by rw [put_ne n2.symm]; exact e, k⟩⟩
theorem Town.some {t r : Addr} {h : Hv} (T : Town t r h) : h t ≠ none ∧ h r ≠ none := by
  obtain ⟨c, c0, e⟩ := T.tc
  obtain ⟨rs, e2, k⟩ := T.rc
  exact ⟨by rw [e]; simp, by rw [e2]; simp⟩
theorem Town.fresh {t r p : Addr} {h : Hv} (T : Town t r h) (e : h p = none) : p ≠ t ∧ p ≠ r :=
  ⟨fun q => T.some.1 (q ▸ e), fun q => T.some.2 (q ▸ e)⟩
def threeN (names : List Str) : Prop := ∃ k, 1 ≤ k ∧ k ≤ 3 ∧ names = (["ash", "elm", "fir"] : List Str).take k
theorem take3 {n : Int} (h0 : 0 ≤ n) (h3 : n < 3) : ∃ names, threeN names ∧ cutA [Val.str "ash", .str "elm", .str "fir"] none (some (1 + n)) = names.map .str := by
  rcases (show n = 0 ∨ n = 1 ∨ n = 2 by omega) with rfl | rfl | rfl
  · exact ⟨_, ⟨1, by omega, by omega, rfl⟩, rfl⟩
  · exact ⟨_, ⟨2, by omega, by omega, rfl⟩, rfl⟩
  · exact ⟨_, ⟨3, by omega, by omega, rfl⟩, rfl⟩
theorem threeN.len {names : List Str} (h : threeN names) : 1 ≤ names.length ∧ names.length ≤ 3 := by
  obtain ⟨k, h1, h3, rfl⟩ := h
  rw [List.length_take]
  show 1 ≤ min k 3 ∧ min k 3 ≤ 3
  omega
/-- the pacts between some names, in their order -/
def prs (names : List Str) (x : Str) : List (Str × Str) := (names.filter fun y => decide (x ≠ y)).map fun y => (x, y)
def pairsOf (names : List Str) : List (Str × Str) := names.flatMap (prs names)
theorem drawn_wf {b : Book} (nm : threeN b.names) (sh : ∀ l ∈ b.lands, 1 ≤ l.p ∧ l.p ≤ l.q ∧ l.q ≤ 6 ∧ 0 ≤ l.pr ∧ l.pr ≤ 8) (ps : b.pacts.Sublist (pairsOf b.names)) : Drawn b := by
  have hl : b.lands.length = b.names.length := by unfold Book.names; rw [List.length_map]
  have h3 := nm.len
  have ln := ps.length_le
  obtain ⟨k, k1, k3, ek⟩ := nm
  have pu : (pairsOf b.names).Pairwise fun x y => x.1.cps.toList < y.1.cps.toList ∨ (x.1 = y.1 ∧ x.2.cps.toList < y.2.cps.toList) := by
    rw [ek]
    rcases (show k = 1 ∨ k = 2 ∨ k = 3 by omega) with rfl | rfl | rfl <;> decide
  have pl : (pairsOf b.names).length ≤ 16 := by
    rw [ek]
    rcases (show k = 1 ∨ k = 2 ∨ k = 3 by omega) with rfl | rfl | rfl <;> decide
  refine ⟨⟨by omega, by omega, ?_, fun l hl => ?_, ?_, fun p hp => ?_, pu.sublist ps, by omega⟩, ⟨k, k1, k3, ek⟩, sh⟩
  · intro l hl
    have : l.nm ∈ (["ash", "elm", "fir"] : List Str) := by
      have : l.nm ∈ b.names := List.mem_map.mpr ⟨l, hl, rfl⟩
      rw [ek] at this
      exact List.mem_of_mem_take this
    rcases List.mem_cons.mp this with e | this
    · rw [e]; decide
    rcases List.mem_cons.mp this with e | this
    · rw [e]; decide
    rw [List.mem_singleton.mp this]; decide
  · have := sh l hl; omega
  · rw [ek]
    rcases (show k = 1 ∨ k = 2 ∨ k = 3 by omega) with rfl | rfl | rfl <;> decide
  · obtain ⟨x, hx, hy⟩ := List.mem_flatMap.mp (ps.subset hp)
    obtain ⟨y, hy', rfl⟩ := List.mem_map.mp hy
    have := List.mem_filter.mp hy'
    exact ⟨hx, this.1, of_decide_eq_true this.2⟩
/-- one draw, asked -/
theorem draw_ask {ns : List Int} {t r : Addr} {m : Int} {h : Hv} {Q : PV} {E : PF} (nl : ns.length ≤ 63) (m0 : 0 < m) (m1 : m < 1073741824) (T : Town t r h) (q : ∀ n h', 0 ≤ n → n < m → Town t r h' → Only t r h h' → Q (.int n) h') : S__law_draw [.scr ns, .ref t, .int m] h Q E := ⟨ns, t, r, m, rfl, m0, m1, nl, T, q⟩
theorem bo__law_a_book (N : List Str) (hN : N.length = 9) : ∀ as h Q E, as.length = 2 → S__law_a_book as h Q E → den__law_a_book (startA N as) h (endsR Q) (RX E) := by
  rintro as h0 Q E - ⟨ns, t, r, rfl, nl, T0, q⟩
  unfold den__law_a_book
  simp only [startA, hN]
  generalize hL1 : sFor (dIt (dVar 2)) (.nm 5) _ = L1
  generalize hL2 : sFor (dIt (dVar 2)) (.nm 7) _ = L2
  generalize hR : sRet (dTup _) = R
  simp
  refine ⟨by decide, draw_ask nl (by decide) (by decide) T0 fun n h1 n0 n3 T1 o1 => ?_⟩
  obtain ⟨names, tn, en⟩ := take3 n0 n3
  have nlen := tn.len
  simp [en]
  intro pl hpl pp hpp
  obtain ⟨l1, l2⟩ := T1.fresh hpl
  have T2 := T1.put (o := .lst []) l1 l2
  obtain ⟨p1, p2⟩ := T2.fresh hpp
  have T3 := T2.put (o := .lst []) p1 p2
  have lp : pl ≠ pp := fun e => by rw [e, put_same] at hpp; cases hpp
  have hpp1 : h1 pp = none := by rw [put_ne lp.symm] at hpp; exact hpp
  have h0l : h0 pl = none := by rw [← o1 pl l1 l2]; exact hpl
  have h0p : h0 pp = none := by rw [← o1 pp p1 p2]; exact hpp1
  have x3 : Ext t r [pl, pp] h0 (put (put h1 pl (.lst [])) pp (.lst [])) := fun a x y z => by
    simp at z
    rw [put_ne z.2, put_ne z.1]; exact o1 a x y
  -- the first loop
  subst hL1
  refine for_ind (fun vs ρ h => ∃ (done : List Land) (rest : List Str) (x5 x6 : Option Val), vs = rest.map .str ∧ names = done.map (·.nm) ++ rest ∧ ρ = [some (.scr ns), some (.ref t), some (.tup (names.map .str)), some (.ref pl), some (.ref pp), x5, x6, none, none] ∧ h pl = some (.lst (done.map encL)) ∧ h pp = some (.lst []) ∧ Town t r h ∧ Ext t r [pl, pp] h0 h ∧ ∀ l ∈ done, 1 ≤ l.p ∧ l.p ≤ l.q ∧ l.q ≤ 6 ∧ 0 ≤ l.pr ∧ l.pr ≤ 8) ?_ ?_ _ _ _ ⟨[], names, none, none, rfl, rfl, rfl, by rw [put_ne lp, put_same]; rfl, put_same, T3, x3, by simp⟩
  · rintro ρ h ⟨done, rest, x5, x6, e1, e2, rfl, gl, gp, T, x, sh⟩
    refine ⟨trivial, ?_⟩
    have : rest = [] := by cases rest with
      | nil => rfl
      | cons _ _ => cases e1
    subst this
    rw [List.append_nil] at e2
    show L2 _ _ _ _
    -- the second loop
    subst hL2
    have eT : dIt (dVar 2) = dIt (dVar 2) := rfl
    refine for_ind (fun vs ρ h => ∃ (pre rest : List Str) (ps : List (Str × Str)) (x5 x6 x7 x8 : Option Val), vs = rest.map .str ∧ names = pre ++ rest ∧ ρ = [some (.scr ns), some (.ref t), some (.tup (names.map .str)), some (.ref pl), some (.ref pp), x5, x6, x7, x8] ∧ h pl = some (.lst (done.map encL)) ∧ h pp = some (.lst (ps.map encP)) ∧ Town t r h ∧ Ext t r [pl, pp] h0 h ∧ ps.Sublist (pre.flatMap (prs names)) ∧ ps.length ≤ 3 * pre.length) ?_ ?_ _ _ _ ⟨[], names, [], x5, x6, none, none, rfl, rfl, rfl, gl, gp, T, x, List.nil_sublist _, Nat.zero_le _⟩
    · rintro ρ h ⟨pre, rest, ps, x5, x6, x7, x8, e1, e3, rfl, gl, gp, T, x, sl, pln⟩
      have : rest = [] := by cases rest with
        | nil => rfl
        | cons _ _ => cases e1
      subst this
      rw [List.append_nil] at e3
      refine ⟨trivial, ?_⟩
      subst hR
      dsimp only
      simp [gl, gp]
      refine ⟨by decide, RT.less (dropAll_less (ps := [pl, pp]) ?_) (q ⟨done, ps⟩ _ (drawn_wf (b := ⟨done, ps⟩) ?_ sh ?_) (T.dropAll ?_ ?_) (x.only ?_))⟩
      · intro p hp
        simp at hp
        rcases hp with rfl | rfl
        · rw [gl]; simp
        · rw [gp]; simp
      · show threeN (done.map (·.nm))
        rw [← e2]; exact tn
      · show ps.Sublist (pairsOf (done.map (·.nm)))
        rw [← e2]
        rw [← e3] at sl
        exact sl
      · simp [l1.symm, p1.symm]
      · simp [l2.symm, p2.symm]
      · intro p hp
        simp at hp
        rcases hp with rfl | rfl
        · exact h0l
        · exact h0p
    · rintro v vs ρ h ⟨pre, rest, ps, x5, x6, x7, x8, e1, e3, rfl, gl, gp, T, x, sl, pln⟩
      cases rest with
      | nil => cases e1
      | cons z rest =>
        rw [List.map_cons, List.cons.injEq] at e1
        obtain ⟨rfl, rfl⟩ := e1
        refine ⟨trivial, _, rfl, fun N hN => ?_⟩
        show forL _ _ _ _ _ _ _ _
        refine for_ind (fun vs ρ h => ∃ (gpre grest : List Str) (ps : List (Str × Str)) (x5 x6 x8 : Option Val), vs = grest.map .str ∧ names = gpre ++ grest ∧ ρ = [some (.scr ns), some (.ref t), some (.tup (names.map .str)), some (.ref pl), some (.ref pp), x5, x6, some (.str z), x8] ∧ h pl = some (.lst (done.map encL)) ∧ h pp = some (.lst (ps.map encP)) ∧ Town t r h ∧ Ext t r [pl, pp] h0 h ∧ ps.Sublist (pre.flatMap (prs names) ++ prs gpre z) ∧ ps.length ≤ 3 * pre.length + gpre.length) ?_ ?_ _ _ _ ⟨[], names, ps, x5, x6, x8, rfl, rfl, rfl, gl, gp, T, x, by simpa [prs] using sl, pln⟩
        · rintro ρ h ⟨gpre, grest, ps, x5, x6, x8, e1, e4, rfl, gl, gp, T, x, sl, pln⟩
          have : grest = [] := by cases grest with
            | nil => rfl
            | cons _ _ => cases e1
          subst this
          rw [List.append_nil] at e4
          refine ⟨trivial, hN _ _ ⟨pre ++ [z], rest, ps, x5, x6, some (.str z), x8, rfl, by rw [e3]; simp, rfl, gl, gp, T, x, ?_⟩⟩
          have : names.length = gpre.length := by rw [e4]
          rw [← e4] at sl
          exact ⟨by simpa using sl, by rw [List.length_append, List.length_singleton]; omega⟩
        · rintro v vs ρ h ⟨gpre, grest, ps, x5, x6, x8, e1, e4, rfl, gl, gp, T, x, sl, pln⟩
          cases grest with
          | nil => cases e1
          | cons y grest =>
            rw [List.map_cons, List.cons.injEq] at e1
            obtain ⟨rfl, rfl⟩ := e1
            refine ⟨trivial, _, rfl, fun N hN => ?_⟩
            have l3 := congrArg List.length e3
            rw [List.length_append, List.length_cons] at l3
            have l4 := congrArg List.length e4
            rw [List.length_append, List.length_cons] at l4
            have gl5 : (ps.map encP).length < sizeLine := by rw [List.length_map, sizeLine_eq]; omega
            have sub1 : ps.Sublist (pre.flatMap (prs names) ++ prs (gpre ++ [y]) z) := by
              refine sl.trans ?_
              unfold prs
              rw [List.filter_append, List.map_append]
              exact List.Sublist.append_left (List.sublist_append_left _ _) _
            have e4' : names = (gpre ++ [y]) ++ grest := by rw [e4]; simp
            have lg : (gpre ++ [y]).length = gpre.length + 1 := by simp
            by_cases hzy : z = y
            · subst hzy
              simp
              exact hN _ _ ⟨gpre ++ [z], grest, ps, x5, x6, some (.str z), rfl, e4', rfl, gl, gp, T, x, sub1, by omega⟩
            · have hzy' : (z == y) = false := by simpa using hzy
              simp [dBM, hzy, hzy']
              refine draw_ask nl (by decide) (by decide) T fun n1 h1 a0 a1 T1 o1 => ?_
              have gl1 : h1 pl = some (.lst (done.map encL)) := by rw [o1 pl l1 l2]; exact gl
              have gp1 : h1 pp = some (.lst (ps.map encP)) := by rw [o1 pp p1 p2]; exact gp
              have x1 : Ext t r [pl, pp] h0 h1 := fun a u v w => (o1 a u v).trans (x a u v w)
              by_cases hn : n1 = 0
              · subst hn
                simp [tyA, fAppend, gp1]
                refine ⟨by decide, by simpa using gl5, hN _ _ ⟨gpre ++ [y], grest, ps ++ [(z, y)], x5, x6, some (.str y), rfl, e4', rfl, by rw [put_ne lp]; exact gl1, by rw [put_same]; simp [encP], T1.put p1 p2, ?_, ?_, by rw [List.length_append, List.length_singleton]; omega⟩⟩
                · intro a u v w
                  have : a ≠ pp := fun e => w (by rw [e]; simp)
                  rw [put_ne this]; exact x1 a u v w
                · unfold prs
                  rw [List.filter_append, List.map_append, ← List.append_assoc]
                  refine List.Sublist.append sl ?_
                  simp [hzy]
              · have hn' : (n1 == 0) = false := by simpa using hn
                simp [hn, hn']
                exact hN _ _ ⟨gpre ++ [y], grest, ps, x5, x6, some (.str y), rfl, e4', rfl, gl1, gp1, T1, x1, sub1, by omega⟩
  · rintro v vs ρ h ⟨done, rest, x5, x6, e1, e2, rfl, gl, gp, T, x, sh⟩
    refine ⟨trivial, ?_⟩
    cases rest with
    | nil => cases e1
    | cons z rest =>
      rw [List.map_cons, List.cons.injEq] at e1
      obtain ⟨rfl, rfl⟩ := e1
      refine ⟨_, rfl, fun N hN => ?_⟩
      simp [dBM]
      refine draw_ask nl (by decide) (by decide) T fun n1 h1 a0 a1 T1 o1 => ?_
      dsimp only
      have gl1 : h1 pl = some (.lst (done.map encL)) := by rw [o1 pl l1 l2]; exact gl
      refine ⟨by simp [tyA, gl1], draw_ask nl (by omega) (by omega) T1 fun n2 h2 b0 b1 T2 o2 => ?_⟩
      dsimp only
      refine draw_ask nl (by decide) (by decide) T2 fun n3 h3 c0 c1 T3 o3 => ⟨by decide, ?_⟩
      have o13 := o1.trans (o2.trans o3)
      have gl3 : h3 pl = some (.lst (done.map encL)) := by rw [o13 pl l1 l2]; exact gl
      have gp3 : h3 pp = some (.lst []) := by rw [o13 pp p1 p2]; exact gp
      have dl : done.length ≤ 3 := by
        have := congrArg List.length e2
        rw [List.length_append, List.length_map] at this
        omega
      simp only [fAppend, gl3]
      refine ⟨by rw [List.length_map, sizeLine_eq]; omega, hN _ _ ⟨done ++ [⟨z, 1 + n2, 1 + n1, n3⟩], rest, some (.str z), some (.int (1 + n1)), rfl, by rw [e2]; simp, rfl, ?_, ?_, T3.put l1 l2, ?_, ?_⟩⟩
      · rw [put_same, List.map_append]; rfl
      · rw [put_ne lp.symm]; exact gp3
      · intro a u v w
        have : a ≠ pl := fun e => w (by rw [e]; simp)
        rw [put_ne this, o13 a u v]; exact x a u v w
      · intro l hl
        rcases List.mem_append.mp hl with e | e
        · exact sh l e
        · rw [List.mem_singleton.mp e]
          show 1 ≤ 1 + n2 ∧ 1 + n2 ≤ 1 + n1 ∧ 1 + n1 ≤ 6 ∧ 0 ≤ n3 ∧ n3 ≤ 8
          omega
end DL
namespace DL
open PySem PySem.Spec PyProof.Rows L2
theorem nm_land {l : Land} : nmOf (encL l) = l.nm := rfl
theorem nm_lc {di : ID} {j : Nat} {vs : List Nat} {ρ : Sl} {h : Hv} {Q : PV} {E : PX} {ls : List Land} (hl : ls.length ≤ 1000) (hdi : ∀ R : Itr → Hv → Prop, R ⟨ls.map encL, fun _ => True⟩ h → di ρ h R E) (hj : j < (wipeA ρ vs).length)
    (q : Q (.lst ((ls.map (·.nm)).map .str)) h) : dLc di (.nm j) tTrue (dBin fIx (dVar j) (dC (.int 0))) vs ρ h Q E := by
  refine lc_map (items := ls.map encL) (ok := fun _ => True) (fun v => .str (nmOf v)) hdi (fun _ _ => trivial) (by rw [List.length_map]; exact sl1000 hl) (fun v hv => ?_) ?_
  · obtain ⟨l, -, rfl⟩ := List.mem_map.mp hv
    refine ⟨_, rfl, fun h' Q' _ q' => ?_⟩
    simp [hj]
    simpa [encL, atI, ixN, nmOf] using q'
  · refine Qv q ?_
    simp [encL, nmOf]
theorem pick_from (names : List Str) {n : Int} (h0 : 0 ≤ n) (h1 : n < 2 * (names.length : Int) + 1) : ∃ o : Option Str, atI ((names.map Val.str ++ names.map Val.str) ++ [Val.non]) n = some (encO o) ∧ ∀ z, o = some z → z ∈ names := by
  have hl : ((names.map Val.str ++ names.map Val.str) ++ [Val.non]).length = 2 * names.length + 1 := by simp; omega
  obtain ⟨hk, e⟩ := atI_int (xs := (names.map Val.str ++ names.map Val.str) ++ [Val.non]) h0 (by rw [hl]; omega)
  rw [e]
  have := List.getElem_mem hk
  generalize ((names.map Val.str ++ names.map Val.str) ++ [Val.non])[n.toNat]'hk = v at this
  simp at this
  rcases this with ⟨z, hz, rfl⟩ | rfl
  · exact ⟨some z, rfl, fun y e => by cases e; exact hz⟩
  · exact ⟨none, rfl, fun y e => by cases e⟩
theorem bo__law_a_heap (N : List Str) (hN : N.length = 9) : ∀ as h Q E, as.length = 4 → S__law_a_heap as h Q E → den__law_a_heap (startA N as) h (endsR Q) (RX E) := by
  rintro as h0 Q E - ⟨ns, t, r, b, most, rfl, nl, m1, m8, bl, T0, q⟩
  unfold den__law_a_heap
  simp only [startA, hN]
  generalize hL : sFor _ (.nm 6) _ = L
  generalize hR : sRet (dCB fTuple _) = R
  generalize hd : dLc _ _ _ _ _ = dn
  simp
  intro pf hpf
  obtain ⟨f1, f2⟩ := T0.fresh hpf
  subst hd
  refine nm_lc (ls := b.lands) (by omega) (fun R r => by simpa [encB, atI, ixN] using r) (by simp [wipeA]) ?_
  obtain ⟨names, en⟩ : ∃ names, names = b.lands.map (·.nm) := ⟨_, rfl⟩
  have nlen : names.length ≤ 4 := by rw [en, List.length_map]; exact bl
  rw [← en]
  subst hL
  have T1 := T0.put (o := .lst []) f1 f2
  simp
  refine draw_ask nl (by omega) (by omega) T1 fun n h1 n0 n1 T2 o2 => ?_
  dsimp only
  refine ⟨by omega, by omega, ?_⟩
  refine for_ind (fun vs ρ h => ∃ (done : Heap') (x6 x7 : Option Val), (done.length : Int) + vs.length = 1 + n ∧ ρ = [some (.scr ns), some (.ref t), some (encB b), some (.int most), some (.ref pf), some (.lst (names.map .str)), x6, x7, none] ∧ h pf = some (.lst (done.map encR)) ∧ Town t r h ∧ Ext t r [pf] h0 h ∧ (∀ x ∈ done, 1 ≤ x.1 ∧ x.1 ≤ 40) ∧ ∀ x ∈ done, ∀ z, x.2 = some z → z ∈ names) ?_ ?_ _ _ _ ⟨[], none, none, by simp; omega, by simp, by rw [o2 pf f1 f2, put_same]; rfl, T2, fun a u v w => by rw [o2 a u v, put_ne (by simpa using w)], by simp, by simp⟩
  · rintro ρ h ⟨done, x6, x7, hl, rfl, gf, T, x, w1, w2⟩
    refine ⟨trivial, ?_⟩
    subst hR
    simp at hl
    simp [gf]
    refine RT.less (dropAll_less (ps := [pf]) ?_) (q done _ ⟨by omega, by omega, w1, ?_⟩ (T.dropAll (by simpa using f1.symm) (by simpa using f2.symm)) (x.only ?_))
    · intro p hp
      rw [List.mem_singleton.mp hp, gf]; simp
    · rw [en] at w2; exact w2
    · intro p hp
      rw [List.mem_singleton.mp hp]; exact hpf
  · rintro v vs ρ h ⟨done, x6, x7, hl, rfl, gf, T, x, w1, w2⟩
    refine ⟨trivial, _, rfl, fun N hN => ?_⟩
    have cm : CMul 2 (names.length : Int) := .inl ⟨by decide, by decide⟩
    simp [dBM]
    refine ⟨by decide, draw_ask nl (by decide) (by decide) T fun n1 h1 a0 a1 T1 o1 => ?_⟩
    dsimp only
    have : ∃ m, atI [Val.int 9, Val.int 40] n1 = some (.int m) ∧ 0 < m ∧ m ≤ 40 := by
      rcases (show n1 = 0 ∨ n1 = 1 by omega) with rfl | rfl
      · exact ⟨9, rfl, by decide, by decide⟩
      · exact ⟨40, rfl, by decide, by decide⟩
    obtain ⟨m, em, m0, m40⟩ := this
    rw [em]
    dsimp only
    refine draw_ask nl m0 (by omega) T1 fun n2 h2 b0 b1 T2 o2 => ?_
    have gf2 : h2 pf = some (.lst (done.map encR)) := by rw [(o1.trans o2) pf f1 f2]; exact gf
    have s1 : names.length + names.length ≤ sizeLine := by rw [sizeLine_eq]; omega
    have s2 : names.length + names.length + 1 ≤ sizeLine := by rw [sizeLine_eq]; omega
    simp [tyA, gf2, s1, s2, cm]
    refine ⟨by decide, draw_ask nl (by omega) (by omega) T2 fun n3 h3 c0 c1 T3 o3 => ?_⟩
    obtain ⟨o, eo, ho⟩ := pick_from names c0 c1
    rw [List.append_assoc] at eo
    dsimp only
    rw [eo]
    have o13 := o1.trans (o2.trans o3)
    have gf3 : h3 pf = some (.lst (done.map encR)) := by rw [o13 pf f1 f2]; exact gf
    dsimp only
    rw [List.length_cons] at hl
    simp [fAppend, gf3]
    refine ⟨by decide, by rw [sizeLine_eq]; omega, hN _ _ ⟨done ++ [(1 + n2, o)], _, _, by rw [List.length_append, List.length_singleton]; omega, rfl, by rw [put_same]; simp [encR], T3.put f1 f2, ?_, ?_, ?_⟩⟩
    · intro a u v w
      rw [put_ne (by simpa using w), o13 a u v]; exact x a u v w
    · intro y hy
      rcases List.mem_append.mp hy with e | e
      · exact w1 y e
      · rw [List.mem_singleton.mp e]
        show 1 ≤ 1 + n2 ∧ 1 + n2 ≤ 40
        omega
    · intro y hy
      rcases List.mem_append.mp hy with e | e
      · exact w2 y e
      · rw [List.mem_singleton.mp e]; exact ho
theorem Drawn.short {b : Book} (d : Drawn b) : ∀ z ∈ b.names, z ∈ (["ash", "elm", "fir"] : List Str) := fun z hz => by
  obtain ⟨k, -, -, e⟩ := d.nm
  rw [e] at hz
  exact List.mem_of_mem_take hz
theorem short_ok {z : Str} (h : z ∈ (["ash", "elm", "fir"] : List Str)) : z.length ≤ 1000 := by
  rcases List.mem_cons.mp h with e | h
  · rw [e]; decide
  rcases List.mem_cons.mp h with e | h
  · rw [e]; decide
  rw [List.mem_singleton.mp h]; decide
theorem okDs_of {vs : List Val} (h : ∀ v ∈ vs, okD v = true) : okDs vs = true := by
  induction vs with
  | nil => rfl
  | cons v vs ih => rw [okDs, h v List.mem_cons_self, ih fun w hw => h w (List.mem_cons_of_mem _ hw)]; rfl
theorem okD_encR {b : Book} (d : Drawn b) {x : Int × Option Str} (h : ∀ z, x.2 = some z → z ∈ b.names) : okD (encR x) = true := by
  obtain ⟨i, o⟩ := x
  cases o with
  | none => rfl
  | some z =>
    have := short_ok (d.short z (h z rfl))
    simp [encR, encO, okD, okDs, this]
theorem okD_rs {b : Book} (d : Drawn b) {hp : Heap'} (h : DrawnH b hp 8) : okDs (hp.map encR) = true := okDs_of fun v hv => by
  obtain ⟨x, hx, rfl⟩ := List.mem_map.mp hv
  exact okD_encR d (h.fr x hx)
theorem ask_is {a b : Bool} {h : Hv} {Q : PV} {E : PF} (q : Q (.bl (a == b)) h) : S__law_is [.bl a, .bl b] h Q E := ⟨a, b, rfl, q⟩
theorem ask_heap {b : Book} {v : Val} {h : Hv} {Q : PV} {E : PF} (hl : b.lands.length ≤ 4) (ok : okD v = true) (q : Q (.bl (isHeap b v)) h) : S_is_heap [encB b, v] h Q E := ⟨b, v, rfl, hl, ok, q⟩
theorem okDs_app {xs ys : List Val} (h : okDs xs = true) (h' : okDs ys = true) : okDs (xs ++ ys) = true := okDs_of fun v hv => by
  rcases List.mem_append.mp hv with e | e
  · exact okDs_mem h e
  · exact okDs_mem h' e
theorem ix_lands {b : Book} {h : Hv} {Q : PV} : fIx (encB b) (.int 0) h Q = Q (.tup (b.lands.map encL)) h := rfl
end DL
namespace DL
open PySem PySem.Spec PyProof.Rows L2
/-! ### data so deep at most -/
def okN : Nat → Val → Bool
  | _, .non => true
  | _, .bl _ => true
  | _, .int _ => true
  | _, .str z => PyData.strOk z && decide (z.length ≤ 1000)
  | d + 1, .tup vs => vs.all (okN d) && decide (vs.length ≤ 1000)
  | d + 1, .lst vs => vs.all (okN d) && decide (vs.length ≤ 1000)
  | _, _ => false
theorem okN_tup {d : Nat} {vs : List Val} : okN (d + 1) (.tup vs) = true ↔ (∀ v ∈ vs, okN d v = true) ∧ vs.length ≤ 1000 := by
  rw [okN, Bool.and_eq_true, List.all_eq_true, decide_eq_true_eq]
theorem okN_lst {d : Nat} {vs : List Val} : okN (d + 1) (.lst vs) = true ↔ (∀ v ∈ vs, okN d v = true) ∧ vs.length ≤ 1000 := by
  rw [okN, Bool.and_eq_true, List.all_eq_true, decide_eq_true_eq]
theorem okN_mono : ∀ {d : Nat} {v : Val}, okN d v = true → okN (d + 1) v = true
  | d, .non, _ => by rw [okN]
  | d, .bl _, _ => by rw [okN]
  | d, .int _, _ => by rw [okN]
  | d, .str z, h => by rw [okN] at h ⊢; exact h
  | d + 1, .tup vs, h => by
    rw [okN_tup] at h ⊢
    exact ⟨fun v hv => okN_mono (h.1 v hv), h.2⟩
  | d + 1, .lst vs, h => by
    rw [okN_lst] at h ⊢
    exact ⟨fun v hv => okN_mono (h.1 v hv), h.2⟩
  | 0, .tup _, h => by simp [okN] at h
  | 0, .lst _, h => by simp [okN] at h
  | _, .scr _, h => by simp [okN] at h
  | _, .ref _, h => by simp [okN] at h
  | _, .ty _, h => by simp [okN] at h
theorem okN_le {d e : Nat} {v : Val} (h : okN d v = true) (l : d ≤ e) : okN e v = true := by
  induction l with
  | refl => exact h
  | step _ ih => exact okN_mono ih
theorem okD_ofs {vs : List Val} (h : ∀ v ∈ vs, okD v = true) : okDs vs = true := by
  induction vs with
  | nil => rfl
  | cons v vs ih => rw [okDs, h v List.mem_cons_self, ih fun w hw => h w (List.mem_cons_of_mem _ hw)]; rfl
theorem okD_of : ∀ {d : Nat} {v : Val}, okN d v = true → okD v = true
  | d, .non, _ => rfl
  | d, .bl _, _ => rfl
  | d, .int _, _ => rfl
  | d, .str z, h => by rw [okN, Bool.and_eq_true] at h; exact h.2
  | d + 1, .tup vs, h => by
    rw [okN_tup] at h
    rw [okD, okD_ofs fun v hv => okD_of (h.1 v hv), decide_eq_true h.2]; rfl
  | d + 1, .lst vs, h => by
    rw [okN_lst] at h
    rw [okD, okD_ofs fun v hv => okD_of (h.1 v hv), decide_eq_true h.2]; rfl
  | 0, .tup _, h => by simp [okN] at h
  | 0, .lst _, h => by simp [okN] at h
  | _, .scr _, h => by simp [okN] at h
  | _, .ref _, h => by simp [okN] at h
  | _, .ty _, h => by simp [okN] at h
theorem dats_of {d : Nat} (ih : ∀ v, okN d v = true → ∃ x, dat v = some x ∧ x.canLay0 = true ∧ x.depth ≤ d) : ∀ {vs : List Val}, (∀ v ∈ vs, okN d v = true) → ∃ xs, dats vs = some xs ∧ PyData.canLayAll0 xs = true ∧ PyData.depthAll xs ≤ d
  | [], _ => ⟨[], rfl, rfl, Nat.zero_le _⟩
  | v :: vs, h => by
    obtain ⟨x, e1, c1, d1⟩ := ih v (h v List.mem_cons_self)
    obtain ⟨xs, e2, c2, d2⟩ := dats_of ih fun w hw => h w (List.mem_cons_of_mem _ hw)
    refine ⟨x :: xs, by rw [dats, e1, e2], by rw [PyData.canLayAll0, c1, c2]; rfl, ?_⟩
    rw [PyData.depthAll]
    exact Nat.max_le.mpr ⟨d1, d2⟩
theorem dat_of : ∀ {d : Nat} {v : Val}, okN d v = true → ∃ x, dat v = some x ∧ x.canLay0 = true ∧ x.depth ≤ d
  | d, .non, _ => ⟨_, rfl, rfl, by rw [PyData.depth]; exact Nat.zero_le _⟩
  | d, .bl _, _ => ⟨_, rfl, rfl, by rw [PyData.depth]; exact Nat.zero_le _⟩
  | d, .int _, _ => ⟨_, rfl, rfl, by rw [PyData.depth]; exact Nat.zero_le _⟩
  | d, .str z, h => by
    rw [okN, Bool.and_eq_true] at h
    exact ⟨_, rfl, by rw [PyData.canLay0]; exact h.1, by rw [PyData.depth]; exact Nat.zero_le _⟩
  | d + 1, .tup vs, h => by
    rw [okN_tup] at h
    obtain ⟨xs, e, c, dd⟩ := dats_of (fun v hv => dat_of hv) h.1
    exact ⟨.tuple xs, by rw [dat, e]; rfl, by rw [PyData.canLay0]; exact c, by rw [PyData.depth]; omega⟩
  | d + 1, .lst vs, h => by
    rw [okN_lst] at h
    obtain ⟨xs, e, c, dd⟩ := dats_of (fun v hv => dat_of hv) h.1
    exact ⟨.list xs, by rw [dat, e]; rfl, by rw [PyData.canLay0]; exact c, by rw [PyData.depth]; omega⟩
  | 0, .tup _, h => by simp [okN] at h
  | 0, .lst _, h => by simp [okN] at h
  | _, .scr _, h => by simp [okN] at h
  | _, .ref _, h => by simp [okN] at h
  | _, .ty _, h => by simp [okN] at h
/-- == of data -/
def eqD (v w : Val) : Bool := match dat v, dat w with
  | some d, some e => PyData.eqv d e
  | _, _ => false
theorem datH_of {v : Val} {h : Hv} {d : Nat} (o : okN d v = true) : datH v h = dat v := by
  cases v <;> first | rfl | (simp [okN] at o)
theorem datEq_ok {v w : Val} {h : Hv} {Q : Bool → Prop} (hv : okN 64 v = true) (hw : okN 64 w = true) (q : Q (eqD v w)) : datEq v w h Q := by
  obtain ⟨d, e1, c1, d1⟩ := dat_of hv
  obtain ⟨e, e2, c2, d2⟩ := dat_of hw
  refine ⟨d, e, by rw [datH_of hv, e1], by rw [datH_of hw, e2], ?_, ?_, ?_⟩
  · unfold SeqAt.shaped; rw [c1, decide_eq_true d1]; rfl
  · unfold SeqAt.shaped; rw [c2, decide_eq_true d2]; rfl
  · unfold eqD at q; rw [e1, e2] at q; exact q
theorem eqD_refl {v : Val} {d : Nat} (h : okN d v = true) : eqD v v = true := by
  obtain ⟨x, e, c, _⟩ := dat_of h
  unfold eqD; rw [e]
  exact SeqAt.eqv_refl x c
theorem eqD_nil (vs : List Val) {d : Nat} (h : okN d (.tup vs) = true) : eqD (.tup vs) (.tup []) = vs.isEmpty := by
  obtain ⟨x, e, c, _⟩ := dat_of h
  unfold eqD
  rw [e]
  cases vs with
  | nil => rw [dat, dats] at e; cases e; rfl
  | cons v vs =>
    rw [dat] at e
    obtain ⟨xs, e1, rfl⟩ := Option.map_eq_some_iff.mp e
    rw [dats] at e1
    split at e1
    · cases e1; rfl
    · cases e1
theorem fNe_dat {v w : Val} {h : Hv} {Q : PV} (hv : okN 64 v = true) (hw : okN 64 w = true) (q : Q (.bl (!eqD v w)) h) (hs : scA v w = none := by rfl) : fNe v w h Q := by
  unfold fNe; rw [hs]; exact datEq_ok hv hw q
theorem fEq_dat {v w : Val} {h : Hv} {Q : PV} (hv : okN 64 v = true) (hw : okN 64 w = true) (q : Q (.bl (eqD v w)) h) (hs : scA v w = none := by rfl) : fEq v w h Q := by
  unfold fEq; rw [hs]; exact datEq_ok hv hw q
/-! ### comprehensions over what a list stands for -/
theorem lcL_filtT {α : Type} {ok : Hv → Prop} {t : Tg} {tt : TD} {te : ED} {ρw : Sl} {h : Hv} (f : α → Val) (pv : α → Bool) (g : α → Val) (hok : ok h) : ∀ (xs : List α) (acc : List Val) (Q : List Val → Hv → Prop), acc.length + xs.length ≤ sizeLine →
    (∀ x ∈ xs, ∃ ρ', bT t (f x) ρw = some ρ' ∧ (∀ Q', Q' (pv x) h → tt ρ' h Q' EF) ∧ (pv x = true → ∀ Q', Q' (g x) h → te ρ' h Q' EF)) →
    Q (acc ++ (xs.filter pv).map g) h → lcL ok t tt te ρw (xs.map f) acc h Q
  | [], acc, Q, hl, he, q => ⟨hok, by simpa using q⟩
  | x :: xs, acc, Q, hl, he, q => by
    obtain ⟨ρ', e1, e2, e3⟩ := he x List.mem_cons_self
    refine ⟨hok, ?_⟩
    rw [e1]
    dsimp only
    rw [List.length_cons] at hl
    refine e2 _ ?_
    cases hp : pv x with
    | true =>
      rw [if_pos rfl]
      refine e3 hp _ ⟨by omega, ?_⟩
      refine lcL_filtT f pv g hok xs (acc ++ [g x]) Q (by rw [List.length_append, List.length_singleton]; omega) (fun w hw => he w (List.mem_cons_of_mem _ hw)) ?_
      rw [List.filter_cons_of_pos hp, List.map_cons] at q
      simpa using q
    | false =>
      rw [if_neg Bool.false_ne_true]
      refine lcL_filtT f pv g hok xs acc Q (by omega) (fun w hw => he w (List.mem_cons_of_mem _ hw)) ?_
      rw [List.filter_cons_of_neg (by rw [hp]; exact Bool.false_ne_true)] at q
      exact q
theorem lc_filtT {α : Type} {di : ID} {t : Tg} {tt : TD} {te : ED} {vs : List Nat} {ρ : Sl} {h : Hv} {Q : PV} {E : PX} {ok : Hv → Prop} (xs : List α) (f : α → Val) (pv : α → Bool) (g : α → Val) (hdi : ∀ R : Itr → Hv → Prop, R ⟨xs.map f, ok⟩ h → di ρ h R E) (hok : ∀ h', Sub h h' → ok h') (hl : xs.length ≤ sizeLine)
    (he : ∀ x ∈ xs, ∃ ρ', bT t (f x) (wipeA ρ vs) = some ρ' ∧ (∀ h' Q', Sub h h' → Q' (pv x) h' → tt ρ' h' Q' EF) ∧ (pv x = true → ∀ h' Q', Sub h h' → Q' (g x) h' → te ρ' h' Q' EF))
    (q : Q (.lst ((xs.filter pv).map g)) h) : dLc di t tt te vs ρ h Q E := by
  refine hdi _ fun D nD => ?_
  have sb := Sub.put (o := .busy) nD
  refine lcL_filtT f pv g (hok _ sb) xs [] _ (by simpa using hl) (fun v hv => ?_) ?_
  · obtain ⟨ρ', e1, e2, e3⟩ := he v hv
    exact ⟨ρ', e1, fun Q' q' => e2 _ Q' sb q', fun hp Q' q' => e3 hp _ Q' sb q'⟩
  · rw [List.nil_append, drop_put nD]
    exact q
theorem lc_mapT {α : Type} {di : ID} {t : Tg} {te : ED} {vs : List Nat} {ρ : Sl} {h : Hv} {Q : PV} {E : PX} {ok : Hv → Prop} (xs : List α) (f : α → Val) (g : α → Val) (hdi : ∀ R : Itr → Hv → Prop, R ⟨xs.map f, ok⟩ h → di ρ h R E) (hok : ∀ h', Sub h h' → ok h') (hl : xs.length ≤ sizeLine)
    (he : ∀ x ∈ xs, ∃ ρ', bT t (f x) (wipeA ρ vs) = some ρ' ∧ ∀ h' Q', Sub h h' → Q' (g x) h' → te ρ' h' Q' EF)
    (q : Q (.lst (xs.map g)) h) : dLc di t tTrue te vs ρ h Q E := by
  refine lc_filtT xs f (fun _ => true) g hdi hok hl (fun v hv => ?_) (by rw [List.filter_eq_self.mpr (fun _ _ => rfl)]; exact q)
  obtain ⟨ρ', e1, e2⟩ := he v hv
  exact ⟨ρ', e1, fun h' Q' _ q' => q', fun _ => e2⟩
theorem all_lcT {α : Type} {di : ID} {t : Tg} {te : ED} {vs : List Nat} {ρ : Sl} {h : Hv} {Q : PV} {E : PX} {ok : Hv → Prop} (xs : List α) (f : α → Val) (p : α → Bool) (hdi : ∀ R : Itr → Hv → Prop, R ⟨xs.map f, ok⟩ h → di ρ h R E) (hok : ∀ h', Sub h h' → ok h') (hl : xs.length ≤ sizeLine)
    (he : ∀ x ∈ xs, ∃ ρ', bT t (f x) (wipeA ρ vs) = some ρ' ∧ ∀ h' Q', Sub h h' → Q' (.bl (p x)) h' → te ρ' h' Q' EF)
    (q : Q (.bl (xs.all p)) h) : dCB fAll (aCons (dLc di t tTrue te vs) aNil) ρ h Q E := by
  simp only [dCB, aCons, aNil]
  refine lc_mapT xs f (fun v => .bl (p v)) hdi hok hl he ?_
  show fAll [.lst (xs.map fun v => .bl (p v))] h Q
  simp only [fAll, listOf, Option.bind_some, blsOf_map]
  simpa using q
theorem any_lcT {α : Type} {di : ID} {t : Tg} {te : ED} {vs : List Nat} {ρ : Sl} {h : Hv} {Q : PV} {E : PX} {ok : Hv → Prop} (xs : List α) (f : α → Val) (p : α → Bool) (hdi : ∀ R : Itr → Hv → Prop, R ⟨xs.map f, ok⟩ h → di ρ h R E) (hok : ∀ h', Sub h h' → ok h') (hl : xs.length ≤ sizeLine)
    (he : ∀ x ∈ xs, ∃ ρ', bT t (f x) (wipeA ρ vs) = some ρ' ∧ ∀ h' Q', Sub h h' → Q' (.bl (p x)) h' → te ρ' h' Q' EF)
    (q : Q (.bl (xs.any p)) h) : dCB fAny (aCons (dLc di t tTrue te vs) aNil) ρ h Q E := by
  simp only [dCB, aCons, aNil]
  refine lc_mapT xs f (fun v => .bl (p v)) hdi hok hl he ?_
  show fAny [.lst (xs.map fun v => .bl (p v))] h Q
  simp only [fAny, listOf, Option.bind_some, blsOf_map]
  simpa using q
theorem sum_lcT {α : Type} {di : ID} {t : Tg} {te : ED} {vs : List Nat} {ρ : Sl} {h : Hv} {Q : PV} {E : PX} {ok : Hv → Prop} (xs : List α) (f : α → Val) (p : α → Int) (hdi : ∀ R : Itr → Hv → Prop, R ⟨xs.map f, ok⟩ h → di ρ h R E) (hok : ∀ h', Sub h h' → ok h') (hl : xs.length ≤ sizeLine)
    (he : ∀ x ∈ xs, ∃ ρ', bT t (f x) (wipeA ρ vs) = some ρ' ∧ ∀ h' Q', Sub h h' → Q' (.int (p x)) h' → te ρ' h' Q' EF)
    (q : Q (.int (xs.map p).sum) h) : dCB fSum (aCons (dLc di t tTrue te vs) aNil) ρ h Q E := by
  simp only [dCB, aCons, aNil]
  refine lc_mapT xs f (fun v => .int (p v)) hdi hok hl he ?_
  show fSum [.lst (xs.map fun v => .int (p v))] h Q
  simp only [fSum, listOf, Option.bind_some, intsOf_map]
  exact q
/-- a comprehension by what holds between its turns; acc: what is found so far -/
theorem lc_ind {di : ID} {t : Tg} {tt : TD} {te : ED} {vs : List Nat} {ρ : Sl} {h : Hv} {Q : PV} {E : PX} {items : List Val} {ok : Hv → Prop} (I : Addr → List Val → List Val → Hv → Prop) (hdi : ∀ R : Itr → Hv → Prop, R ⟨items, ok⟩ h → di ρ h R E)
    (h1 : ∀ D, h D = none → I D items [] (put h D .busy))
    (h0 : ∀ D acc h', I D [] acc h' → ok h' ∧ Q (.lst acc) (drop h' D))
    (hs : ∀ D v r acc h', I D (v :: r) acc h' → ok h' ∧ ∃ ρ', bT t v (wipeA ρ vs) = some ρ' ∧ ∀ N : List Val → Hv → Prop, (∀ acc h2, I D r acc h2 → N acc h2) → tt ρ' h' (fun k h2 => if k = true then te ρ' h2 (fun u h3 => acc.length < sizeLine ∧ N (acc ++ [u]) h3) EF else N acc h2) EF) : dLc di t tt te vs ρ h Q E := by
  refine hdi _ fun D nD => ?_
  have go : ∀ (r acc : List Val) (h' : Hv), I D r acc h' → lcL ok t tt te (wipeA ρ vs) r acc h' (fun acc h2 => Q (.lst acc) (drop h2 D)) := by
    intro r
    induction r with
    | nil => exact fun acc h' i => h0 D acc h' i
    | cons v r ih =>
      intro acc h' i
      obtain ⟨o, ρ', e, k⟩ := hs D v r acc h' i
      refine ⟨o, ?_⟩
      rw [e]
      exact k _ fun acc h2 z => ih acc h2 z
  exact go items [] _ (h1 D nD)
end DL
namespace DL
open PySem PySem.Spec PyProof.Rows L2
/-! ## trees -/
inductive Tree where
  | leaf (n : Int)
  | node (z : Str) (ts : List Tree)
mutual
def Tree.enc : Tree → Val
  | .leaf n => .int n
  | .node z ts => .tup [.str z, .tup (encTs ts)]
def encTs : List Tree → List Val
  | [] => []
  | t :: ts => t.enc :: encTs ts
end
mutual
def Tree.things : Tree → List Int
  | .leaf n => [n]
  | .node _ ts => thingsTs ts
def thingsTs : List Tree → List Int
  | [] => []
  | t :: ts => t.things ++ thingsTs ts
end
mutual
def Tree.lands : Tree → List Str
  | .leaf _ => []
  | .node z ts => z :: landsTs ts
def landsTs : List Tree → List Str
  | [] => []
  | t :: ts => t.lands ++ landsTs ts
end
mutual
def Tree.ht : Tree → Nat
  | .leaf _ => 0
  | .node _ ts => htTs ts + 1
def htTs : List Tree → Nat
  | [] => 0
  | t :: ts => max t.ht (htTs ts)
end
mutual
/-- works have parts, and names of the book -/
def Tree.okT (names : List Str) : Tree → Prop
  | .leaf _ => True
  | .node z ts => z ∈ names ∧ ts ≠ [] ∧ okTs names ts
def okTs (names : List Str) : List Tree → Prop
  | [] => True
  | t :: ts => t.okT names ∧ okTs names ts
end
theorem encTs_map (ts : List Tree) : encTs ts = ts.map Tree.enc := by
  induction ts with
  | nil => rfl
  | cons t ts ih => rw [encTs, ih]; rfl
theorem thingsTs_map (ts : List Tree) : thingsTs ts = ts.flatMap Tree.things := by
  induction ts with
  | nil => rfl
  | cons t ts ih => rw [thingsTs, ih]; rfl
theorem landsTs_map (ts : List Tree) : landsTs ts = ts.flatMap Tree.lands := by
  induction ts with
  | nil => rfl
  | cons t ts ih => rw [landsTs, ih]; rfl
theorem okTs_iff (names : List Str) (ts : List Tree) : okTs names ts ↔ ∀ t ∈ ts, t.okT names := by
  induction ts with
  | nil => simp [okTs]
  | cons t ts ih => simp [okTs, ih]
theorem htTs_mem : ∀ {ts : List Tree} {t : Tree}, t ∈ ts → t.ht ≤ htTs ts
  | u :: ts, t, h => by
    rw [htTs]
    rcases List.mem_cons.mp h with e | e
    · rw [e]; exact Nat.le_max_left _ _
    · exact Nat.le_trans (htTs_mem e) (Nat.le_max_right _ _)
theorem htTs_le : ∀ {ts : List Tree} {k : Nat}, (∀ t ∈ ts, t.ht ≤ k) → htTs ts ≤ k
  | [], k, _ => Nat.zero_le _
  | u :: ts, k, h => by
    rw [htTs]
    exact Nat.max_le.mpr ⟨h u List.mem_cons_self, htTs_le fun t ht => h t (List.mem_cons_of_mem _ ht)⟩
/-- all answers, if each is told -/
def allO : List (Option Bool) → Option Bool
  | [] => some true
  | x :: r => match x, allO r with
    | some b, some c => some (b && c)
    | _, _ => none
/-- is_shape, so deep -/
def isSh (b : Book) (many : Int) : Nat → Val → Option Bool
  | 0, _ => none
  | d + 1, v => match v with
    | .tup [.str z, .tup ps] => if z ∈ b.names ∧ ps ≠ [] then allO (ps.map (isSh b many d)) else some false
    | .tup _ => some false
    | v => some (isNum v 0 (many - 1))
def rowA (b : Book) (z : Str) : Option Land := (b.lands.filter fun l => decide (l.nm = z)).head?
def S_row_of : SpF := fun as h Q _ => ∃ (b : Book) (z : Str) (l : Land), as = [encB b, .str z] ∧ b.lands.length ≤ 4 ∧ rowA b z = some l ∧ Q (encL l) h
def S__law_row : SpF := S_row_of
def SR_is_shape (d : Nat) : SpF := fun as h Q _ => ∃ (b : Book) (many : Int) (v : Val) (r : Bool), as = [encB b, .int many, v] ∧ b.lands.length ≤ 4 ∧ okN 60 v = true ∧ isSh b many d v = some r ∧ Q (.bl r) h
def S_is_shape : SpF := SR_is_shape 24
def SR_all_things (d : Nat) : SpF := fun as h Q _ => ∃ t : Tree, as = [t.enc] ∧ t.ht < d ∧ t.things.length ≤ 1000 ∧ okN 60 t.enc = true ∧ Q (.lst (t.things.map .int)) h
def S_all_things : SpF := SR_all_things 24
def S_is_tree : SpF := fun as h Q _ => ∃ (b : Book) (hs : List Val) (v : Val), as = [encB b, .tup hs, v] ∧ b.lands.length ≤ 4 ∧ okN 60 v = true ∧
  ((isSh b hs.length 24 v = some false ∧ Q (.bl false) h) ∨ ∃ t : Tree, v = t.enc ∧ t.ht < 24 ∧ isSh b hs.length 24 v = some true ∧ t.things.length ≤ 1000 ∧ Q (.bl (decide t.things.Nodup)) h)
def S_things_in : SpF := fun as h Q _ => ∃ t : Tree, as = [t.enc] ∧ t.ht < 24 ∧ t.things.length ≤ 1000 ∧ okN 60 t.enc = true ∧ Q (.tup ((sortI t.things).map .int)) h
def SR_works_in (d : Nat) : SpF := fun as h Q _ => ∃ t : Tree, as = [t.enc] ∧ t.ht < d ∧ okN 60 t.enc = true ∧ Q (.int t.lands.length) h
def S_works_in : SpF := SR_works_in 24
/-- the prices of lands together -/
def costOf (b : Book) (zs : List Str) : Int := (zs.map fun z => ((rowA b z).map (·.pr)).getD 0).sum
def SR_price_of (d : Nat) : SpF := fun as h Q _ => ∃ (b : Book) (t : Tree), as = [encB b, t.enc] ∧ b.lands.length ≤ 4 ∧ t.ht < d ∧ okN 60 t.enc = true ∧ t.okT b.names ∧ Q (.int (costOf b t.lands)) h
def S_price_of : SpF := SR_price_of 24
def SR__law_all (d : Nat) : SpF := fun as h Q _ => ∃ t : Tree, as = [t.enc] ∧ t.ht < d ∧ t.things.length ≤ 1000 ∧ t.lands.length ≤ 1000 ∧ okN 60 t.enc = true ∧ Q (.tup [.lst (t.things.map .int), .lst (t.lands.map .str)]) h
def S__law_all : SpF := SR__law_all 24
def S__law_a_tree : SpF := fun as h Q _ => ∃ (ns : List Int) (t r : Addr) (b : Book) (ths : List Int), as = [.scr ns, .ref t, encB b, .lst (ths.map .int)] ∧ ns.length ≤ 63 ∧ 1 ≤ b.lands.length ∧ b.lands.length ≤ 4 ∧ (∀ z ∈ b.names, okN 0 (.str z) = true) ∧ 1 ≤ ths.length ∧ ths.length ≤ 8 ∧ Town t r h ∧
  ∀ (tr : Tree) (h' : Hv), tr.okT b.names → tr.things.Perm ths → tr.ht ≤ 12 → tr.lands.length ≤ 100 → okN 24 tr.enc = true → Town t r h' → Only t r h h' → Q tr.enc h'
theorem no_is_shape : ∀ as h Q E, SR_is_shape 0 as h Q E → False := fun _ _ _ _ ⟨_, _, _, _, _, _, _, z, _⟩ => by cases z
theorem no_all_things : ∀ as h Q E, SR_all_things 0 as h Q E → False := fun _ _ _ _ ⟨_, _, z, _⟩ => Nat.not_lt_zero _ z
theorem no_works_in : ∀ as h Q E, SR_works_in 0 as h Q E → False := fun _ _ _ _ ⟨_, _, z, _⟩ => Nat.not_lt_zero _ z
theorem no_price_of : ∀ as h Q E, SR_price_of 0 as h Q E → False := fun _ _ _ _ ⟨_, _, _, _, z, _⟩ => Nat.not_lt_zero _ z
theorem no__law_all : ∀ as h Q E, SR__law_all 0 as h Q E → False := fun _ _ _ _ ⟨_, _, z, _⟩ => Nat.not_lt_zero _ z
end DL
namespace DL
open PySem PySem.Spec PyProof.Rows L2
def den_row_of : SD := (sRet (dBin fIx (dLc (dIt (dBin fIx (dVar 0) (dC (.int 0)))) (.nm 2) (dTest (dBin fEq (dBin fIx (dVar 2) (dC (.int 0))) (dVar 1))) (dVar 2) [2]) (dC (.int 0))))
def den_is_shape (R : SpF) : SD := (sSeq (sIf (dNot (dTruth (dCB fIsi (aCons (dVar 2) (aCons (dC (.ty "tuple")) aNil))))) (sRet (dCall 3 S_is_number (aCons (dVar 2) (aCons (dC (.int 0)) (aCons (dBin fSub (dVar 1) (dC (.int 1))) aNil))))) sNext) (sSeq (sIf (dOr (dTest (dBin fNe (dCB fLen (aCons (dVar 2) aNil)) (dC (.int 2)))) (dOr (dNot (dTruth (dCB fIsi (aCons (dBin fIx (dVar 2) (dC (.int 0))) (aCons (dC (.ty "str")) aNil))))) (dTest (dBin fNotIn (dBin fIx (dVar 2) (dC (.int 0))) (dCall 1 S_names_of (aCons (dVar 0) aNil)))))) (sRet (dC (.bl false))) sNext) (sRet (vAnd (dCB fIsi (aCons (dBin fIx (dVar 2) (dC (.int 1))) (aCons (dC (.ty "tuple")) aNil))) (vAnd (dBin fNe (dBin fIx (dVar 2) (dC (.int 1))) (dTup aNil)) (dCB fAll (aCons (dLc (dIt (dBin fIx (dVar 2) (dC (.int 1)))) (.nm 3) tTrue (dCall 3 R (aCons (dVar 0) (aCons (dVar 1) (aCons (dVar 3) aNil)))) [3]) aNil)))))))
def den_all_things (R : SpF) : SD := (sSeq (sIf (dNot (dTruth (dCB fIsi (aCons (dVar 0) (aCons (dC (.ty "tuple")) aNil))))) (sRet (dLst (aCons (dVar 0) aNil))) sNext) (sSeq (sSet 1 (dLstH aNil)) (sSeq (sFor (dIt (dBin fIx (dVar 0) (dC (.int 1)))) (.nm 2) (sExpr (dBM "list" fExtend (dVar 1) (aCons (dCall 1 R (aCons (dVar 2) aNil)) aNil)))) (sRet (dVar 1)))))
def den_is_tree : SD := (sSeq (sIf (dNot (dTruth (dCall 3 S_is_shape (aCons (dVar 0) (aCons (dCB fLen (aCons (dVar 1) aNil)) (aCons (dVar 2) aNil)))))) (sRet (dC (.bl false))) sNext) (sSeq (sSet 3 (dCall 1 S_all_things (aCons (dVar 2) aNil))) (sRet (dBin fEq (dLenSet (dVar 3)) (dCB fLen (aCons (dVar 3) aNil))))))
def den_things_in : SD := (sRet (dCB fTuple (aCons (dCB fSorted (aCons (dCall 1 S_all_things (aCons (dVar 0) aNil)) aNil)) aNil)))
def den_works_in (R : SpF) : SD := (sRet (dIfE (dTruth (dCB fIsi (aCons (dVar 0) (aCons (dC (.ty "tuple")) aNil)))) (dBin fAdd (dC (.int 1)) (dCB fSum (aCons (dLc (dIt (dBin fIx (dVar 0) (dC (.int 1)))) (.nm 1) tTrue (dCall 1 R (aCons (dVar 1) aNil)) [1]) aNil))) (dC (.int 0))))
def den_price_of (R : SpF) : SD := (sSeq (sIf (dNot (dTruth (dCB fIsi (aCons (dVar 1) (aCons (dC (.ty "tuple")) aNil))))) (sRet (dC (.int 0))) sNext) (sRet (dBin fAdd (dBin fIx (dCall 2 S_row_of (aCons (dVar 0) (aCons (dBin fIx (dVar 1) (dC (.int 0))) aNil))) (dC (.int 3))) (dCB fSum (aCons (dLc (dIt (dBin fIx (dVar 1) (dC (.int 1)))) (.nm 2) tTrue (dCall 2 R (aCons (dVar 0) (aCons (dVar 2) aNil))) [2]) aNil)))))
def den__law_row : SD := (sRet (dBin fIx (dLc (dIt (dBin fIx (dVar 0) (dC (.int 0)))) (.nm 2) (dTest (dBin fEq (dBin fIx (dVar 2) (dC (.int 0))) (dVar 1))) (dVar 2) [2]) (dC (.int 0))))
def den__law_a_tree : SD := (sSeq (sAsg (.tp [(.nm 4), (.nm 5)]) (dTup (aCons (dCB fListH (aCons (dVar 3) aNil)) (aCons (dC (.int 0)) aNil)))) (sSeq (sWhile (dOr (dTest (dBin fGt (dCB fLen (aCons (dVar 4) aNil)) (dC (.int 1)))) (dAnd (dTest (dBin fEq (dVar 5) (dC (.int 0)))) (dTest (dBin fEq (dCall 3 S__law_draw (aCons (dVar 0) (aCons (dVar 1) (aCons (dC (.int 3)) aNil)))) (dC (.int 0)))))) (sSeq (sSet 6 (dCB fMin2 (aCons (dCB fLen (aCons (dVar 4) aNil)) (aCons (dBin fAdd (dIfE (dTest (dBin fLtI (dVar 5) (dC (.int 4)))) (dC (.int 1)) (dC (.int 2))) (dCall 3 S__law_draw (aCons (dVar 0) (aCons (dVar 1) (aCons (dC (.int 3)) aNil))))) aNil)))) (sSeq (sSet 7 (dLc (dRange1 (aCons (dVar 6) aNil)) (.nm 8) tTrue (dBM "list" fPopAt (dVar 4) (aCons (dCall 3 S__law_draw (aCons (dVar 0) (aCons (dVar 1) (aCons (dCB fLen (aCons (dVar 4) aNil)) aNil)))) aNil)) [8])) (sSeq (sExpr (dBM "list" fAppend (dVar 4) (aCons (dTup (aCons (dBin fIx (dBin fIx (dBin fIx (dVar 2) (dC (.int 0))) (dCall 3 S__law_draw (aCons (dVar 0) (aCons (dVar 1) (aCons (dCB fLen (aCons (dBin fIx (dVar 2) (dC (.int 0))) aNil)) aNil))))) (dC (.int 0))) (aCons (dCB fTuple (aCons (dVar 7) aNil)) aNil))) aNil))) (sSet 5 (dBin fAdd (dVar 5) (dC (.int 1)))))))) (sRet (dBin fIx (dVar 4) (dC (.int 0))))))
def den__law_all (R : SpF) : SD := (sSeq (sIf (dNot (dTruth (dCB fIsi (aCons (dVar 0) (aCons (dC (.ty "tuple")) aNil))))) (sRet (dTup (aCons (dLst (aCons (dVar 0) aNil)) (aCons (dLst aNil) aNil)))) sNext) (sSeq (sPar [1, 2] (aCons (dLst aNil) (aCons (dLst (aCons (dBin fIx (dVar 0) (dC (.int 0))) aNil)) aNil))) (sSeq (sFor (dIt (dBin fIx (dVar 0) (dC (.int 1)))) (.nm 3) (sSeq (sSet 4 (dCall 1 R (aCons (dVar 3) aNil))) (sPar [1, 2] (aCons (dBin fAdd (dVar 1) (dBin fIx (dVar 4) (dC (.int 0)))) (aCons (dBin fAdd (dVar 2) (dBin fIx (dVar 4) (dC (.int 1)))) aNil))))) (sRet (dTup (aCons (dVar 1) (aCons (dVar 2) aNil)))))))
end DL
namespace DL
open PySem PySem.Spec PyProof.Rows L2
theorem row_lc {h : Hv} {Q : PV} {E : PX} {b : Book} {z : Str} {l : Land} (bl : b.lands.length ≤ 4) (hl : rowA b z = some l) (q : Q (encL l) h) :
    dBin fIx (dLc (dIt (dBin fIx (dVar 0) (dC (.int 0)))) (.nm 2) (dTest (dBin fEq (dBin fIx (dVar 2) (dC (.int 0))) (dVar 1))) (dVar 2) [2]) (dC (.int 0)) [some (encB b), some (.str z), none] h Q E := by
  show dLc _ _ _ _ _ _ _ _ _
  refine lc_filt (items := b.lands.map encL) (ok := fun _ => True) (fun v => decide (nmOf v = z)) (fun v => v) (fun R r => by simp only [sSet, sFor, sIf, sRet, sExpr, sPar, sAsg, sSeq, sNext, sAug, dIt, dTup, dLst, dLstH, dCB, dCall, dCallK, dBin, dUn, dTest, dChain, dIfE, aCons, aNil, dVar, dC, dTruth, dNot, dAnd, dOr, vAnd, vOr, vNot, dBM, dSl, dRev, oSome, oNone]; simpa [↓ix_lands] using r) (fun _ _ => trivial) (by rw [List.length_map]; exact sl1000 (by omega)) (fun v hv => ?_) ?_
  · obtain ⟨l, -, rfl⟩ := List.mem_map.mp hv
    refine ⟨_, rfl, fun h' Q' _ q' => ?_, fun _ h' Q' _ q' => by simpa using q'⟩
    simp only [sSet, sFor, sIf, sRet, sExpr, sPar, sAsg, sSeq, sNext, sAug, dIt, dTup, dLst, dLstH, dCB, dCall, dCallK, dBin, dUn, dTest, dChain, dIfE, aCons, aNil, dVar, dC, dTruth, dNot, dAnd, dOr, vAnd, vOr, vNot, dBM, dSl, dRev, oSome, oNone]
    simp [encL, atI, ixN]
    simp only [encL, nmOf] at q'
    by_cases e : l.nm = z
    · simpa [e] using q'
    · have : (l.nm == z) = false := by simpa using e
      simpa [e, this] using q'
  · have e : ((b.lands.map encL).filter fun v => decide (nmOf v = z)).map (fun v => v) = (b.lands.filter fun l => decide (l.nm = z)).map encL := by
      rw [List.map_id', List.filter_map]; rfl
    rw [e]
    unfold rowA at hl
    cases hf : b.lands.filter fun l => decide (l.nm = z) with
    | nil => rw [hf] at hl; cases hl
    | cons x r =>
      rw [hf] at hl
      cases hl
      simp only [sSet, sFor, sIf, sRet, sExpr, sPar, sAsg, sSeq, sNext, sAug, dIt, dTup, dLst, dLstH, dCB, dCall, dCallK, dBin, dUn, dTest, dChain, dIfE, aCons, aNil, dVar, dC, dTruth, dNot, dAnd, dOr, vAnd, vOr, vNot, dBM, dSl, dRev, oSome, oNone]
      simp [atI_zero]
      exact q
theorem bo_row_of (N : List Str) (hN : N.length = 3) : ∀ as h Q E, as.length = 2 → S_row_of as h Q E → den_row_of (startA N as) h (endsR Q) (RX E) := by
  rintro as h Q E - ⟨b, z, l, rfl, bl, hl, q⟩
  unfold den_row_of
  simp only [startA, hN]
  exact row_lc bl hl (RT.same q)
theorem bo__law_row (N : List Str) (hN : N.length = 3) : ∀ as h Q E, as.length = 2 → S__law_row as h Q E → den__law_row (startA N as) h (endsR Q) (RX E) := by
  rintro as h Q E - ⟨b, z, l, rfl, bl, hl, q⟩
  unfold den__law_row
  simp only [startA, hN]
  exact row_lc bl hl (RT.same q)
theorem ask_names {b : Book} {h : Hv} {Q : PV} {E : PF} (hl : b.lands.length ≤ 4) (q : Q (.lst (b.names.map .str)) h) : S_names_of [encB b] h Q E := ⟨b, rfl, hl, q⟩
theorem allO_all {f : Val → Option Bool} : ∀ {ps : List Val} {r : Bool}, allO (ps.map f) = some r → (∀ v ∈ ps, ∃ c, f v = some c) ∧ (ps.all fun v => (f v).getD false) = r
  | [], r, e => by cases e; exact ⟨fun v hv => (by cases hv), rfl⟩
  | v :: ps, r, e => by
    rw [List.map_cons] at e
    unfold allO at e
    split at e
    · rename_i c1 c2 h1 h2
      cases e
      obtain ⟨i1, i2⟩ := allO_all h2
      refine ⟨fun w hw => ?_, by rw [List.all_cons, i2, h1]; rfl⟩
      rcases List.mem_cons.mp hw with e | e
      · rw [e]; exact ⟨c1, h1⟩
      · exact i1 w e
    · cases e
theorem bo_is_shape (N : List Str) (hN : N.length = 4) (d : Nat) : ∀ as h Q E, as.length = 3 → SR_is_shape (d + 1) as h Q E → den_is_shape (SR_is_shape d) (startA N as) h (endsR Q) (RX E) := by
  rintro as h Q E - ⟨b, many, v, r, rfl, bl, ok, sh, q⟩
  have q := RT.same q
  unfold den_is_shape
  simp only [startA, hN]
  refine seq_o fun K hK => ?_
  have okd := okD_of ok
  have num : ∀ {v : Val}, okD v = true → isSh b many (d + 1) v = some (isNum v 0 (many - 1)) → isSh b many (d + 1) v = some r → S_is_number [v, .int 0, .int (many - 1)] h (RT Q) (fun nm pl h' => RX E nm pl [some (encB b), some (.int many), some v, none] h') := fun {v} o e s => ⟨v, 0, many - 1, rfl, o, by rw [e] at s; cases s; exact q⟩
  cases v with
  | tup vs =>
    simp only [sSet, sFor, sIf, sRet, sExpr, sPar, sAsg, sSeq, sNext, sAug, dIt, dTup, dLst, dLstH, dCB, dCall, dCallK, dBin, dUn, dTest, dChain, dIfE, aCons, aNil, dVar, dC, dTruth, dNot, dAnd, dOr, vAnd, vOr, vNot, dBM, dSl, dRev, oSome, oNone]
    simp
    subst hK
    refine seq_o fun K hK => ?_
    match vs, ok, sh with
    | [], ok, sh =>
      have : r = false := by simpa [isSh] using sh.symm
      subst this
      simp only [sSet, sFor, sIf, sRet, sExpr, sPar, sAsg, sSeq, sNext, sAug, dIt, dTup, dLst, dLstH, dCB, dCall, dCallK, dBin, dUn, dTest, dChain, dIfE, aCons, aNil, dVar, dC, dTruth, dNot, dAnd, dOr, vAnd, vOr, vNot, dBM, dSl, dRev, oSome, oNone]
      simpa using q
    | [_], ok, sh =>
      have : r = false := by simpa [isSh] using sh.symm
      subst this
      simp only [sSet, sFor, sIf, sRet, sExpr, sPar, sAsg, sSeq, sNext, sAug, dIt, dTup, dLst, dLstH, dCB, dCall, dCallK, dBin, dUn, dTest, dChain, dIfE, aCons, aNil, dVar, dC, dTruth, dNot, dAnd, dOr, vAnd, vOr, vNot, dBM, dSl, dRev, oSome, oNone]
      simpa using q
    | _ :: _ :: _ :: rs, ok, sh =>
      have : r = false := by simpa [isSh] using sh.symm
      subst this
      simp only [sSet, sFor, sIf, sRet, sExpr, sPar, sAsg, sSeq, sNext, sAug, dIt, dTup, dLst, dLstH, dCB, dCall, dCallK, dBin, dUn, dTest, dChain, dIfE, aCons, aNil, dVar, dC, dTruth, dNot, dAnd, dOr, vAnd, vOr, vNot, dBM, dSl, dRev, oSome, oNone]
      have : ((rs.length : Int) + 1 + 1 + 1 == 2) = false := by rw [beq_eq_false_iff_ne]; omega
      simpa [this] using q
    | [a, c], ok, sh =>
      obtain ⟨oks, -⟩ := okN_tup.mp ok
      have oka := oks a (by simp)
      have okc := oks c (by simp)
      cases a with
      | str z =>
        simp only [sSet, sFor, sIf, sRet, sExpr, sPar, sAsg, sSeq, sNext, sAug, dIt, dTup, dLst, dLstH, dCB, dCall, dCallK, dBin, dUn, dTest, dChain, dIfE, aCons, aNil, dVar, dC, dTruth, dNot, dAnd, dOr, vAnd, vOr, vNot, dBM, dSl, dRev, oSome, oNone]
        simp [atI, ixN]
        refine ask_names bl ?_
        simp [inA_str, flat_strs]
        by_cases hz : z ∈ b.names
        · simp [hz]
          subst hK
          generalize hd : dCB fAll _ = dn
          revert dn
          refine opq fun dn hd => ?_
          simp only [sSet, sFor, sIf, sRet, sExpr, sPar, sAsg, sSeq, sNext, sAug, dIt, dTup, dLst, dLstH, dCB, dCall, dCallK, dBin, dUn, dTest, dChain, dIfE, aCons, aNil, dVar, dC, dTruth, dNot, dAnd, dOr, vAnd, vOr, vNot, dBM, dSl, dRev, oSome, oNone]
          cases c with
          | tup ps =>
            simp [atI, ixN]
            obtain ⟨okps, psl⟩ := okN_tup.mp okc
            refine datEq_ok (okN_le okc (by decide)) (by rfl) ?_
            rw [eqD_nil ps okc]
            cases ps with
            | nil =>
              have : r = false := by simpa [isSh, hz] using sh.symm
              subst this
              simpa using q
            | cons p ps =>
              simp
              have sh' : allO ((p :: ps).map (isSh b many d)) = some r := by
                rw [isSh] at sh
                simpa [hz] using sh
              obtain ⟨i1, i2⟩ := allO_all sh'
              subst hd
              refine all_lc (items := p :: ps) (ok := fun _ => True) (fun v => (isSh b many d v).getD false) (fun R r => by simp only [sSet, sFor, sIf, sRet, sExpr, sPar, sAsg, sSeq, sNext, sAug, dIt, dTup, dLst, dLstH, dCB, dCall, dCallK, dBin, dUn, dTest, dChain, dIfE, aCons, aNil, dVar, dC, dTruth, dNot, dAnd, dOr, vAnd, vOr, vNot, dBM, dSl, dRev, oSome, oNone]; simpa [atI, ixN] using r) (fun _ _ => trivial) (sl1000 psl) (fun v hv => ⟨_, rfl, fun h' Q' _ q' => ?_⟩) (Qb q i2.symm)
              obtain ⟨c, hc⟩ := i1 v hv
              simp only [sSet, sFor, sIf, sRet, sExpr, sPar, sAsg, sSeq, sNext, sAug, dIt, dTup, dLst, dLstH, dCB, dCall, dCallK, dBin, dUn, dTest, dChain, dIfE, aCons, aNil, dVar, dC, dTruth, dNot, dAnd, dOr, vAnd, vOr, vNot, dBM, dSl, dRev, oSome, oNone]
              simp
              exact ⟨b, many, v, c, rfl, bl, okN_le (okps v hv) (by decide), hc, by rw [hc] at q'; exact q'⟩
          | non =>
            have : r = false := by simpa [isSh, hz] using sh.symm
            subst this
            simpa [atI, ixN] using q
          | bl _ =>
            have : r = false := by simpa [isSh, hz] using sh.symm
            subst this
            simpa [atI, ixN] using q
          | int _ =>
            have : r = false := by simpa [isSh, hz] using sh.symm
            subst this
            simpa [atI, ixN] using q
          | str _ =>
            have : r = false := by simpa [isSh, hz] using sh.symm
            subst this
            simpa [atI, ixN] using q
          | lst _ =>
            have : r = false := by simpa [isSh, hz] using sh.symm
            subst this
            simpa [atI, ixN] using q
          | _ => simp [okN] at okc
        · have : r = false := by
            cases c with
            | tup ps => simpa [isSh, hz] using sh.symm
            | _ => simpa [isSh] using sh.symm
          subst this
          simpa [hz] using q
      | non =>
        have : r = false := by simpa [isSh] using sh.symm
        subst this
        simp only [sSet, sFor, sIf, sRet, sExpr, sPar, sAsg, sSeq, sNext, sAug, dIt, dTup, dLst, dLstH, dCB, dCall, dCallK, dBin, dUn, dTest, dChain, dIfE, aCons, aNil, dVar, dC, dTruth, dNot, dAnd, dOr, vAnd, vOr, vNot, dBM, dSl, dRev, oSome, oNone]
        simpa [atI, ixN] using q
      | bl _ =>
        have : r = false := by simpa [isSh] using sh.symm
        subst this
        simp only [sSet, sFor, sIf, sRet, sExpr, sPar, sAsg, sSeq, sNext, sAug, dIt, dTup, dLst, dLstH, dCB, dCall, dCallK, dBin, dUn, dTest, dChain, dIfE, aCons, aNil, dVar, dC, dTruth, dNot, dAnd, dOr, vAnd, vOr, vNot, dBM, dSl, dRev, oSome, oNone]
        simpa [atI, ixN] using q
      | int _ =>
        have : r = false := by simpa [isSh] using sh.symm
        subst this
        simp only [sSet, sFor, sIf, sRet, sExpr, sPar, sAsg, sSeq, sNext, sAug, dIt, dTup, dLst, dLstH, dCB, dCall, dCallK, dBin, dUn, dTest, dChain, dIfE, aCons, aNil, dVar, dC, dTruth, dNot, dAnd, dOr, vAnd, vOr, vNot, dBM, dSl, dRev, oSome, oNone]
        simpa [atI, ixN] using q
      | tup _ =>
        have : r = false := by simpa [isSh] using sh.symm
        subst this
        simp only [sSet, sFor, sIf, sRet, sExpr, sPar, sAsg, sSeq, sNext, sAug, dIt, dTup, dLst, dLstH, dCB, dCall, dCallK, dBin, dUn, dTest, dChain, dIfE, aCons, aNil, dVar, dC, dTruth, dNot, dAnd, dOr, vAnd, vOr, vNot, dBM, dSl, dRev, oSome, oNone]
        simpa [atI, ixN] using q
      | lst _ =>
        have : r = false := by simpa [isSh] using sh.symm
        subst this
        simp only [sSet, sFor, sIf, sRet, sExpr, sPar, sAsg, sSeq, sNext, sAug, dIt, dTup, dLst, dLstH, dCB, dCall, dCallK, dBin, dUn, dTest, dChain, dIfE, aCons, aNil, dVar, dC, dTruth, dNot, dAnd, dOr, vAnd, vOr, vNot, dBM, dSl, dRev, oSome, oNone]
        simpa [atI, ixN] using q
      | _ => simp [okN] at oka
  | non =>
    simp only [sSet, sFor, sIf, sRet, sExpr, sPar, sAsg, sSeq, sNext, sAug, dIt, dTup, dLst, dLstH, dCB, dCall, dCallK, dBin, dUn, dTest, dChain, dIfE, aCons, aNil, dVar, dC, dTruth, dNot, dAnd, dOr, vAnd, vOr, vNot, dBM, dSl, dRev, oSome, oNone]
    simp
    exact num okd rfl sh
  | bl _ =>
    simp only [sSet, sFor, sIf, sRet, sExpr, sPar, sAsg, sSeq, sNext, sAug, dIt, dTup, dLst, dLstH, dCB, dCall, dCallK, dBin, dUn, dTest, dChain, dIfE, aCons, aNil, dVar, dC, dTruth, dNot, dAnd, dOr, vAnd, vOr, vNot, dBM, dSl, dRev, oSome, oNone]
    simp
    exact num okd rfl sh
  | int _ =>
    simp only [sSet, sFor, sIf, sRet, sExpr, sPar, sAsg, sSeq, sNext, sAug, dIt, dTup, dLst, dLstH, dCB, dCall, dCallK, dBin, dUn, dTest, dChain, dIfE, aCons, aNil, dVar, dC, dTruth, dNot, dAnd, dOr, vAnd, vOr, vNot, dBM, dSl, dRev, oSome, oNone]
    simp
    exact num okd rfl sh
  | str _ =>
    simp only [sSet, sFor, sIf, sRet, sExpr, sPar, sAsg, sSeq, sNext, sAug, dIt, dTup, dLst, dLstH, dCB, dCall, dCallK, dBin, dUn, dTest, dChain, dIfE, aCons, aNil, dVar, dC, dTruth, dNot, dAnd, dOr, vAnd, vOr, vNot, dBM, dSl, dRev, oSome, oNone]
    simp
    exact num okd rfl sh
  | lst _ =>
    simp only [sSet, sFor, sIf, sRet, sExpr, sPar, sAsg, sSeq, sNext, sAug, dIt, dTup, dLst, dLstH, dCB, dCall, dCallK, dBin, dUn, dTest, dChain, dIfE, aCons, aNil, dVar, dC, dTruth, dNot, dAnd, dOr, vAnd, vOr, vNot, dBM, dSl, dRev, oSome, oNone]
    simp
    exact num okd rfl sh
  | _ => simp [okN] at ok
end DL
namespace DL
open PySem PySem.Spec PyProof.Rows L2
theorem enc_node (z : Str) (ts : List Tree) : (Tree.node z ts).enc = .tup [.str z, .tup (ts.map Tree.enc)] := by rw [Tree.enc, encTs_map]
theorem things_node (z : Str) (ts : List Tree) : (Tree.node z ts).things = ts.flatMap Tree.things := by rw [Tree.things, thingsTs_map]
theorem lands_node (z : Str) (ts : List Tree) : (Tree.node z ts).lands = z :: ts.flatMap Tree.lands := by rw [Tree.lands, landsTs_map]
theorem okN_node {z : Str} {ts : List Tree} (h : okN 60 (Tree.node z ts).enc = true) : ts.length ≤ 1000 ∧ ∀ t ∈ ts, okN 60 t.enc = true := by
  rw [enc_node, okN_tup] at h
  have h2 := h.1 (.tup (ts.map Tree.enc)) (by simp)
  rw [okN_tup] at h2
  refine ⟨by simpa using h2.2, fun t ht => okN_le (h2.1 _ (List.mem_map.mpr ⟨t, ht, rfl⟩)) (by decide)⟩
theorem ht_node {z : Str} {ts : List Tree} {d : Nat} (h : (Tree.node z ts).ht < d + 1) : ∀ t ∈ ts, t.ht < d := fun t ht => by
  have := htTs_mem ht
  rw [Tree.ht] at h
  omega
theorem len_flat {α β : Type} {f : α → List β} : ∀ {xs ys : List α}, (xs.flatMap f).length ≤ ((xs ++ ys).flatMap f).length := fun {xs ys} => by
  rw [List.flatMap_append, List.length_append]; omega
theorem len_mem {α β : Type} {f : α → List β} : ∀ {xs : List α} {x : α}, x ∈ xs → (f x).length ≤ (xs.flatMap f).length
  | y :: xs, x, h => by
    rw [List.flatMap_cons, List.length_append]
    rcases List.mem_cons.mp h with e | e
    · rw [e]; omega
    · have := len_mem (f := f) e; omega
theorem bo_all_things (N : List Str) (hN : N.length = 3) (d : Nat) : ∀ as h Q E, as.length = 1 → SR_all_things (d + 1) as h Q E → den_all_things (SR_all_things d) (startA N as) h (endsR Q) (RX E) := by
  rintro as h0 Q E - ⟨t, rfl, hd, tl, ok, q⟩
  unfold den_all_things
  simp only [startA, hN]
  refine seq_o fun K hK => ?_
  cases t with
  | leaf n =>
    have q := RT.same q
    simp only [sSet, sFor, sIf, sRet, sExpr, sPar, sAsg, sSeq, sNext, sAug, dIt, dTup, dLst, dLstH, dCB, dCall, dCallK, dBin, dUn, dTest, dChain, dIfE, aCons, aNil, dVar, dC, dTruth, dNot, dAnd, dOr, vAnd, vOr, vNot, dBM, dSl, dRev, oSome, oNone]
    simp only [Tree.enc, Tree.things] at q ⊢
    simp
    exact ⟨by decide, by simpa using q⟩
  | node z ts =>
    obtain ⟨tsl, oks⟩ := okN_node ok
    have hts := ht_node hd
    rw [things_node] at tl q
    rw [enc_node]
    simp only [sSet, sFor, sIf, sRet, sExpr, sPar, sAsg, sSeq, sNext, sAug, dIt, dTup, dLst, dLstH, dCB, dCall, dCallK, dBin, dUn, dTest, dChain, dIfE, aCons, aNil, dVar, dC, dTruth, dNot, dAnd, dOr, vAnd, vOr, vNot, dBM, dSl, dRev, oSome, oNone]
    simp
    subst hK
    refine seq_o fun K hK => ?_
    simp only [sSet, sFor, sIf, sRet, sExpr, sPar, sAsg, sSeq, sNext, sAug, dIt, dTup, dLst, dLstH, dCB, dCall, dCallK, dBin, dUn, dTest, dChain, dIfE, aCons, aNil, dVar, dC, dTruth, dNot, dAnd, dOr, vAnd, vOr, vNot, dBM, dSl, dRev, oSome, oNone]
    simp
    intro p hp
    subst hK
    refine seq_o fun K hK => ?_
    refine for_o fun dd hdd => ?_
    simp only [sSet, sFor, sIf, sRet, sExpr, sPar, sAsg, sSeq, sNext, sAug, dIt, dTup, dLst, dLstH, dCB, dCall, dCallK, dBin, dUn, dTest, dChain, dIfE, aCons, aNil, dVar, dC, dTruth, dNot, dAnd, dOr, vAnd, vOr, vNot, dBM, dSl, dRev, oSome, oNone]
    simp [atI, ixN]
    subst hdd
    refine for_ind (fun vs ρ h => ∃ (done rest : List Tree) (x2 : Option Val), ts = done ++ rest ∧ vs = rest.map Tree.enc ∧ ρ = [some (.tup [.str z, .tup (ts.map Tree.enc)]), some (.ref p), x2] ∧ h = put h0 p (.lst ((done.flatMap Tree.things).map .int))) ?_ ?_ _ _ _ ⟨[], ts, none, rfl, rfl, rfl, rfl⟩
    · rintro ρ h ⟨done, rest, x2, e1, e2, rfl, rfl⟩
      have : rest = [] := by cases rest with
        | nil => rfl
        | cons _ _ => cases e2
      subst this
      rw [List.append_nil] at e1
      subst e1
      refine ⟨trivial, ?_⟩
      dsimp only
      subst hK
      simp only [sSet, sFor, sIf, sRet, sExpr, sPar, sAsg, sSeq, sNext, sAug, dIt, dTup, dLst, dLstH, dCB, dCall, dCallK, dBin, dUn, dTest, dChain, dIfE, aCons, aNil, dVar, dC, dTruth, dNot, dAnd, dOr, vAnd, vOr, vNot, dBM, dSl, dRev, oSome, oNone]
      simp
      exact RT.frz (Lss.put hp (by simp)) put_same hp q
    · rintro v vs ρ h ⟨done, rest, x2, e1, e2, rfl, rfl⟩
      cases rest with
      | nil => cases e2
      | cons t rest =>
        rw [List.map_cons, List.cons.injEq] at e2
        obtain ⟨rfl, rfl⟩ := e2
        have mt : t ∈ ts := by rw [e1]; simp
        refine ⟨trivial, _, rfl, fun N hN => ?_⟩
        simp only [sSet, sFor, sIf, sRet, sExpr, sPar, sAsg, sSeq, sNext, sAug, dIt, dTup, dLst, dLstH, dCB, dCall, dCallK, dBin, dUn, dTest, dChain, dIfE, aCons, aNil, dVar, dC, dTruth, dNot, dAnd, dOr, vAnd, vOr, vNot, dBM, dSl, dRev, oSome, oNone]
        simp [tyA, put_same]
        have l1 : (done.flatMap Tree.things).length + t.things.length ≤ 1000 := by
          rw [e1, List.flatMap_append, List.flatMap_cons, List.length_append, List.length_append] at tl
          omega
        refine ⟨t, rfl, hts t mt, by omega, oks t mt, ?_⟩
        have l2 : (done.flatMap Tree.things).length + t.things.length ≤ sizeLine := sl1000 l1
        rw [List.length_flatMap] at l2
        simp [fExtend, put_same, l2]
        refine hN _ _ ⟨done ++ [t], rest, some t.enc, by rw [e1]; simp, rfl, rfl, ?_⟩
        funext a
        by_cases ha : a = p
        · subst ha; rw [put_same, put_same]; simp [List.map_flatMap]
        · rw [put_ne ha, put_ne ha, put_ne ha]
theorem bo_works_in (N : List Str) (hN : N.length = 2) (d : Nat) : ∀ as h Q E, as.length = 1 → SR_works_in (d + 1) as h Q E → den_works_in (SR_works_in d) (startA N as) h (endsR Q) (RX E) := by
  rintro as h0 Q E - ⟨t, rfl, hd, ok, q⟩
  have q := RT.same q
  unfold den_works_in
  simp only [startA, hN]
  generalize hc : dCB fSum _ = dn
  revert dn
  refine opq fun dn hc => ?_
  cases t with
  | leaf n =>
    simp only [sSet, sFor, sIf, sRet, sExpr, sPar, sAsg, sSeq, sNext, sAug, dIt, dTup, dLst, dLstH, dCB, dCall, dCallK, dBin, dUn, dTest, dChain, dIfE, aCons, aNil, dVar, dC, dTruth, dNot, dAnd, dOr, vAnd, vOr, vNot, dBM, dSl, dRev, oSome, oNone]
    simp only [Tree.enc, Tree.lands] at q ⊢
    simpa using q
  | node z ts =>
    obtain ⟨tsl, oks⟩ := okN_node ok
    have hts := ht_node hd
    rw [lands_node] at q
    rw [enc_node]
    simp only [sSet, sFor, sIf, sRet, sExpr, sPar, sAsg, sSeq, sNext, sAug, dIt, dTup, dLst, dLstH, dCB, dCall, dCallK, dBin, dUn, dTest, dChain, dIfE, aCons, aNil, dVar, dC, dTruth, dNot, dAnd, dOr, vAnd, vOr, vNot, dBM, dSl, dRev, oSome, oNone]
    simp
    subst hc
    refine sum_lcT (ok := fun _ => True) ts Tree.enc (fun t => (t.lands.length : Int)) (fun R r => by simp only [sSet, sFor, sIf, sRet, sExpr, sPar, sAsg, sSeq, sNext, sAug, dIt, dTup, dLst, dLstH, dCB, dCall, dCallK, dBin, dUn, dTest, dChain, dIfE, aCons, aNil, dVar, dC, dTruth, dNot, dAnd, dOr, vAnd, vOr, vNot, dBM, dSl, dRev, oSome, oNone]; simpa [atI, ixN] using r) (fun _ _ => trivial) (sl1000 tsl) (fun t ht => ⟨_, rfl, fun h' Q' _ q' => ?_⟩) ?_
    · simp only [sSet, sFor, sIf, sRet, sExpr, sPar, sAsg, sSeq, sNext, sAug, dIt, dTup, dLst, dLstH, dCB, dCall, dCallK, dBin, dUn, dTest, dChain, dIfE, aCons, aNil, dVar, dC, dTruth, dNot, dAnd, dOr, vAnd, vOr, vNot, dBM, dSl, dRev, oSome, oNone]
      simp
      exact ⟨t, rfl, hts t ht, oks t ht, q'⟩
    · simp
      refine Qv q ?_
      rw [List.length_cons, List.length_flatMap]
      have : ∀ ts : List Tree, (((ts.map fun t => t.lands.length).sum : Nat) : Int) = (ts.map fun t => (t.lands.length : Int)).sum := fun ts => by
        induction ts with
        | nil => rfl
        | cons t ts ih => rw [List.map_cons, List.map_cons, List.sum_cons, List.sum_cons, ← ih]; omega
      rw [← this ts]
      congr 1
      omega
theorem costOf_cons (b : Book) (z : Str) (zs : List Str) : costOf b (z :: zs) = ((rowA b z).map (·.pr)).getD 0 + costOf b zs := rfl
theorem costOf_app (b : Book) (zs ys : List Str) : costOf b (zs ++ ys) = costOf b zs + costOf b ys := by
  unfold costOf; rw [List.map_append, List.sum_append]
theorem costOf_flat (b : Book) (ts : List Tree) : costOf b (ts.flatMap Tree.lands) = (ts.map fun t => costOf b t.lands).sum := by
  induction ts with
  | nil => rfl
  | cons t ts ih => rw [List.flatMap_cons, costOf_app, ih]; rfl
theorem rowA_some {b : Book} {z : Str} (h : z ∈ b.names) : ∃ l, rowA b z = some l ∧ l ∈ b.lands ∧ l.nm = z := by
  obtain ⟨l, hl, e⟩ := List.mem_map.mp h
  unfold rowA
  cases hf : b.lands.filter fun l => decide (l.nm = z) with
  | nil =>
    have : l ∈ b.lands.filter fun l => decide (l.nm = z) := List.mem_filter.mpr ⟨hl, by simpa using e⟩
    rw [hf] at this; cases this
  | cons x r =>
    have : x ∈ b.lands.filter fun l => decide (l.nm = z) := by rw [hf]; exact List.mem_cons_self
    have := List.mem_filter.mp this
    exact ⟨x, rfl, this.1, by simpa using this.2⟩
theorem bo_price_of (N : List Str) (hN : N.length = 3) (d : Nat) : ∀ as h Q E, as.length = 2 → SR_price_of (d + 1) as h Q E → den_price_of (SR_price_of d) (startA N as) h (endsR Q) (RX E) := by
  rintro as h0 Q E - ⟨b, t, rfl, bl, hd, ok, okt, q⟩
  have q := RT.same q
  unfold den_price_of
  simp only [startA, hN]
  generalize hc : dCB fSum _ = dn
  revert dn
  refine opq fun dn hc => ?_
  cases t with
  | leaf n =>
    simp only [sSet, sFor, sIf, sRet, sExpr, sPar, sAsg, sSeq, sNext, sAug, dIt, dTup, dLst, dLstH, dCB, dCall, dCallK, dBin, dUn, dTest, dChain, dIfE, aCons, aNil, dVar, dC, dTruth, dNot, dAnd, dOr, vAnd, vOr, vNot, dBM, dSl, dRev, oSome, oNone]
    simp only [Tree.enc, Tree.lands] at q ⊢
    simpa [costOf] using q
  | node z ts =>
    obtain ⟨tsl, oks⟩ := okN_node ok
    have hts := ht_node hd
    rw [Tree.okT, okTs_iff] at okt
    obtain ⟨l, hl, -, -⟩ := rowA_some okt.1
    rw [lands_node] at q
    rw [enc_node]
    simp only [sSet, sFor, sIf, sRet, sExpr, sPar, sAsg, sSeq, sNext, sAug, dIt, dTup, dLst, dLstH, dCB, dCall, dCallK, dBin, dUn, dTest, dChain, dIfE, aCons, aNil, dVar, dC, dTruth, dNot, dAnd, dOr, vAnd, vOr, vNot, dBM, dSl, dRev, oSome, oNone]
    simp [atI, ixN]
    refine ⟨b, z, l, rfl, bl, hl, ?_⟩
    simp [encL]
    subst hc
    refine sum_lcT (ok := fun _ => True) ts Tree.enc (fun t => costOf b t.lands) (fun R r => by simp only [sSet, sFor, sIf, sRet, sExpr, sPar, sAsg, sSeq, sNext, sAug, dIt, dTup, dLst, dLstH, dCB, dCall, dCallK, dBin, dUn, dTest, dChain, dIfE, aCons, aNil, dVar, dC, dTruth, dNot, dAnd, dOr, vAnd, vOr, vNot, dBM, dSl, dRev, oSome, oNone]; simpa [atI, ixN] using r) (fun _ _ => trivial) (sl1000 tsl) (fun t ht => ⟨_, rfl, fun h' Q' _ q' => ?_⟩) ?_
    · simp only [sSet, sFor, sIf, sRet, sExpr, sPar, sAsg, sSeq, sNext, sAug, dIt, dTup, dLst, dLstH, dCB, dCall, dCallK, dBin, dUn, dTest, dChain, dIfE, aCons, aNil, dVar, dC, dTruth, dNot, dAnd, dOr, vAnd, vOr, vNot, dBM, dSl, dRev, oSome, oNone]
      simp
      exact ⟨b, t, rfl, bl, hts t ht, oks t ht, okt.2.2 t ht, q'⟩
    · simp
      refine Qv q ?_
      rw [costOf_cons, costOf_flat, hl]; rfl
theorem bo__law_all (N : List Str) (hN : N.length = 5) (d : Nat) : ∀ as h Q E, as.length = 1 → SR__law_all (d + 1) as h Q E → den__law_all (SR__law_all d) (startA N as) h (endsR Q) (RX E) := by
  rintro as h0 Q E - ⟨t, rfl, hd, tl, ll, ok, q⟩
  have q := RT.same q
  unfold den__law_all
  simp only [startA, hN]
  refine seq_o fun K hK => ?_
  cases t with
  | leaf n =>
    simp only [sSet, sFor, sIf, sRet, sExpr, sPar, sAsg, sSeq, sNext, sAug, dIt, dTup, dLst, dLstH, dCB, dCall, dCallK, dBin, dUn, dTest, dChain, dIfE, aCons, aNil, dVar, dC, dTruth, dNot, dAnd, dOr, vAnd, vOr, vNot, dBM, dSl, dRev, oSome, oNone]
    simp only [Tree.enc, Tree.lands, Tree.things] at q ⊢
    simp
    exact ⟨by decide, by decide, by simpa using q⟩
  | node z ts =>
    obtain ⟨tsl, oks⟩ := okN_node ok
    have hts := ht_node hd
    rw [things_node] at tl q
    rw [lands_node] at ll q
    rw [enc_node]
    simp only [sSet, sFor, sIf, sRet, sExpr, sPar, sAsg, sSeq, sNext, sAug, dIt, dTup, dLst, dLstH, dCB, dCall, dCallK, dBin, dUn, dTest, dChain, dIfE, aCons, aNil, dVar, dC, dTruth, dNot, dAnd, dOr, vAnd, vOr, vNot, dBM, dSl, dRev, oSome, oNone]
    simp
    subst hK
    refine seq_o fun K hK => ?_
    simp only [sSet, sFor, sIf, sRet, sExpr, sPar, sAsg, sSeq, sNext, sAug, dIt, dTup, dLst, dLstH, dCB, dCall, dCallK, dBin, dUn, dTest, dChain, dIfE, aCons, aNil, dVar, dC, dTruth, dNot, dAnd, dOr, vAnd, vOr, vNot, dBM, dSl, dRev, oSome, oNone]
    simp [atI, ixN]
    refine ⟨by decide, ?_⟩
    subst hK
    refine seq_o fun K hK => ?_
    refine for_o fun dd hdd => ?_
    simp only [sSet, sFor, sIf, sRet, sExpr, sPar, sAsg, sSeq, sNext, sAug, dIt, dTup, dLst, dLstH, dCB, dCall, dCallK, dBin, dUn, dTest, dChain, dIfE, aCons, aNil, dVar, dC, dTruth, dNot, dAnd, dOr, vAnd, vOr, vNot, dBM, dSl, dRev, oSome, oNone]
    simp [atI, ixN]
    subst hdd
    refine for_ind (fun vs ρ h => ∃ (done rest : List Tree) (x3 x4 : Option Val), ts = done ++ rest ∧ vs = rest.map Tree.enc ∧ ρ = [some (.tup [.str z, .tup (ts.map Tree.enc)]), some (.lst ((done.flatMap Tree.things).map .int)), some (.lst ((z :: done.flatMap Tree.lands).map .str)), x3, x4] ∧ h = h0) ?_ ?_ _ _ _ ⟨[], ts, none, none, rfl, rfl, rfl, rfl⟩
    · rintro ρ h ⟨done, rest, x3, x4, e1, e2, rfl, rfl⟩
      have : rest = [] := by cases rest with
        | nil => rfl
        | cons _ _ => cases e2
      subst this
      rw [List.append_nil] at e1
      subst e1
      refine ⟨trivial, ?_⟩
      dsimp only
      subst hK
      simp only [sSet, sFor, sIf, sRet, sExpr, sPar, sAsg, sSeq, sNext, sAug, dIt, dTup, dLst, dLstH, dCB, dCall, dCallK, dBin, dUn, dTest, dChain, dIfE, aCons, aNil, dVar, dC, dTruth, dNot, dAnd, dOr, vAnd, vOr, vNot, dBM, dSl, dRev, oSome, oNone]
      simp only [List.map_cons] at q ⊢
      exact ⟨(by show 2 ≤ sizeLine; decide), q⟩
    · rintro v vs ρ h ⟨done, rest, x3, x4, e1, e2, rfl, rfl⟩
      cases rest with
      | nil => cases e2
      | cons t rest =>
        rw [List.map_cons, List.cons.injEq] at e2
        obtain ⟨rfl, rfl⟩ := e2
        have mt : t ∈ ts := by rw [e1]; simp
        refine ⟨trivial, _, rfl, fun N hN => ?_⟩
        have l1 : (done.flatMap Tree.things).length + t.things.length ≤ 1000 := by
          rw [e1, List.flatMap_append, List.flatMap_cons, List.length_append, List.length_append] at tl
          omega
        have l2 : (done.flatMap Tree.lands).length + t.lands.length + 1 ≤ 1000 := by
          rw [e1, List.flatMap_append, List.flatMap_cons, List.length_cons, List.length_append, List.length_append] at ll
          omega
        have s1 := sl1000 l1
        have s2 := sl1000 l2
        simp only [sSet, sFor, sIf, sRet, sExpr, sPar, sAsg, sSeq, sNext, sAug, dIt, dTup, dLst, dLstH, dCB, dCall, dCallK, dBin, dUn, dTest, dChain, dIfE, aCons, aNil, dVar, dC, dTruth, dNot, dAnd, dOr, vAnd, vOr, vNot, dBM, dSl, dRev, oSome, oNone]
        simp
        refine ⟨t, rfl, hts t mt, by omega, by omega, oks t mt, ?_⟩
        rw [List.length_flatMap] at s1 s2
        have s2' : (List.map (fun x => x.lands.length) done).sum + 1 + t.lands.length ≤ sizeLine := by omega
        simp [atI, ixN, s1, s2']
        refine hN _ _ ⟨done ++ [t], rest, some t.enc, some (.tup [.lst (t.things.map .int), .lst (t.lands.map .str)]), by rw [e1]; simp, rfl, ?_, rfl⟩
        simp [List.map_flatMap]
theorem bo_things_in (N : List Str) (hN : N.length = 1) : ∀ as h Q E, as.length = 1 → S_things_in as h Q E → den_things_in (startA N as) h (endsR Q) (RX E) := by
  rintro as h0 Q E - ⟨t, rfl, hd, tl, ok, q⟩
  have q := RT.same q
  unfold den_things_in
  simp only [startA, hN]
  simp only [sSet, sFor, sIf, sRet, sExpr, sPar, sAsg, sSeq, sNext, sAug, dIt, dTup, dLst, dLstH, dCB, dCall, dCallK, dBin, dUn, dTest, dChain, dIfE, aCons, aNil, dVar, dC, dTruth, dNot, dAnd, dOr, vAnd, vOr, vNot, dBM, dSl, dRev, oSome, oNone]
  simp
  refine ⟨t, rfl, hd, tl, ok, ?_⟩
  simp [fSorted, intsOf_map']
  exact q
theorem ded_len : ∀ (ns acc : List Int), (ns.foldl step_dedup acc).length ≤ acc.length + ns.length ∧ ((ns.foldl step_dedup acc).length = acc.length + ns.length ↔ ns.Nodup ∧ ∀ x ∈ ns, x ∉ acc)
  | [], acc => by simp
  | n :: ns, acc => by
    rw [List.foldl_cons]
    by_cases hm : n ∈ acc
    · have e : step_dedup acc n = acc := by
        unfold step_dedup; rw [if_pos (List.any_eq_true.mpr ⟨n, hm, by simp⟩)]
      rw [e]
      obtain ⟨i1, i2⟩ := ded_len ns acc
      rw [List.length_cons]
      refine ⟨by omega, fun h => by omega, fun h => ?_⟩
      exact absurd hm (h.2 n List.mem_cons_self)
    · have e : step_dedup acc n = acc ++ [n] := by
        unfold step_dedup
        rw [if_neg]
        intro h
        obtain ⟨x, hx, ex⟩ := List.any_eq_true.mp h
        rw [eq_of_beq ex] at hx
        exact hm hx
      rw [e]
      obtain ⟨i1, i2⟩ := ded_len ns (acc ++ [n])
      rw [List.length_append, List.length_singleton] at i1 i2
      rw [List.length_cons]
      refine ⟨by omega, fun h => ?_, fun h => ?_⟩
      · have := i2.mp (by omega)
        refine ⟨List.nodup_cons.mpr ⟨fun hn => this.2 n hn (by simp), this.1⟩, fun x hx => ?_⟩
        rcases List.mem_cons.mp hx with ex | ex
        · rw [ex]; exact hm
        · exact fun hz => this.2 x ex (List.mem_append_left _ hz)
      · have hn := List.nodup_cons.mp h.1
        have := i2.mpr ⟨hn.2, fun x hx hz => by
          rcases List.mem_append.mp hz with ez | ez
          · exact h.2 x (List.mem_cons_of_mem _ hx) ez
          · rw [List.mem_singleton.mp ez] at hx; exact hn.1 hx⟩
        omega
theorem metI_len (ns : List Int) : (metI ns).length = ns.length ↔ ns.Nodup := by
  have e : (List.range ns.length).map (fun i => ns.getD i 0) = ns := by
    refine List.ext_getElem (by simp) fun i h1 h2 => ?_
    simp [List.getD_eq_getElem?_getD, h2]
  have := (ded_len ns []).2
  unfold metI firstMet
  rw [e]
  simpa using this
theorem bo_is_tree (N : List Str) (hN : N.length = 4) : ∀ as h Q E, as.length = 3 → S_is_tree as h Q E → den_is_tree (startA N as) h (endsR Q) (RX E) := by
  rintro as h0 Q E - ⟨b, hs, v, rfl, bl, ok, q⟩
  unfold den_is_tree
  simp only [startA, hN]
  refine seq_o fun K hK => ?_
  simp only [sSet, sFor, sIf, sRet, sExpr, sPar, sAsg, sSeq, sNext, sAug, dIt, dTup, dLst, dLstH, dCB, dCall, dCallK, dBin, dUn, dTest, dChain, dIfE, aCons, aNil, dVar, dC, dTruth, dNot, dAnd, dOr, vAnd, vOr, vNot, dBM, dSl, dRev, oSome, oNone]
  simp
  rcases q with ⟨sh, q⟩ | ⟨t, rfl, hd, sh, tl, q⟩
  · refine ⟨b, _, v, false, rfl, bl, ok, sh, ?_⟩
    simpa using RT.same q
  · refine ⟨b, _, _, true, rfl, bl, ok, sh, ?_⟩
    simp
    subst hK
    refine seq_o fun K hK => ?_
    simp only [sSet, sFor, sIf, sRet, sExpr, sPar, sAsg, sSeq, sNext, sAug, dIt, dTup, dLst, dLstH, dCB, dCall, dCallK, dBin, dUn, dTest, dChain, dIfE, aCons, aNil, dVar, dC, dTruth, dNot, dAnd, dOr, vAnd, vOr, vNot, dBM, dSl, dRev, oSome, oNone]
    simp
    refine ⟨t, rfl, hd, tl, ok, ?_⟩
    subst hK
    simp only [sSet, sFor, sIf, sRet, sExpr, sPar, sAsg, sSeq, sNext, sAug, dIt, dTup, dLst, dLstH, dCB, dCall, dCallK, dBin, dUn, dTest, dChain, dIfE, aCons, aNil, dVar, dC, dTruth, dNot, dAnd, dOr, vAnd, vOr, vNot, dBM, dSl, dRev, oSome, oNone]
    simp [dLenSet, intsOf_map']
    refine ⟨by omega, ?_⟩
    refine Qb (RT.same q) ?_
    have := metI_len t.things
    by_cases hn : t.things.Nodup
    · rw [this.mpr hn]; simp [hn]
    · have ne : ¬ (metI t.things).length = t.things.length := fun e => hn (this.mp e)
      simp [hn]
      omega
end DL
namespace DL
open PySem PySem.Spec PyProof.Rows L2
theorem perm_erase {α : Type} : ∀ {l : List α} {i : Nat} (h : i < l.length), l.Perm (l[i] :: l.eraseIdx i)
  | x :: l, 0, _ => List.Perm.refl _
  | x :: l, i + 1, h => by
    have h' : i < l.length := by simpa using h
    exact ((perm_erase h').cons x).trans (List.Perm.swap _ _ _)
theorem erase_map {α β : Type} {f : α → β} : ∀ (l : List α) (i : Nat), (l.map f).eraseIdx i = (l.eraseIdx i).map f
  | [], _ => rfl
  | x :: l, 0 => rfl
  | x :: l, i + 1 => by
    rw [List.map_cons, List.eraseIdx_cons_succ, List.eraseIdx_cons_succ, List.map_cons, erase_map l i]
theorem Town.only {t r : Addr} {h h' : Hv} (T : Town t r h) (o : ∀ a, (a = t ∨ a = r) → h' a = h a) : Town t r h' :=
  ⟨T.ne, by rw [o t (.inl rfl)]; exact T.tc, by rw [o r (.inr rfl)]; exact T.rc⟩
/-- what is kept between the turns of the drawing -/
structure Lefts (b : Book) (ths : List Int) (turns : Nat) (left : List Tree) : Prop where
  pm : (left.flatMap Tree.things).Perm ths
  n1 : 1 ≤ left.length
  ok : ∀ tr ∈ left, tr.okT b.names ∧ tr.ht ≤ turns ∧ okN (2 * turns) tr.enc = true
  ld : (left.flatMap Tree.lands).length = turns
  tb : turns ≤ 4 ∨ turns + left.length ≤ 4 + ths.length
  ll : left.length ≤ ths.length
theorem some_pops {b : Book} {ns : List Int} {t r pl : Addr} {h : Hv} {Q : PV} {E : PX} {left : List Tree} {many : Nat} {x3 x5 x7 x8 : Option Val} (nl : ns.length ≤ 63) (l1 : pl ≠ t) (l2 : pl ≠ r) (T : Town t r h) (gl : h pl = some (.lst (left.map Tree.enc))) (lm : many ≤ left.length) (l8 : left.length ≤ 8)
    (q : ∀ (got rest : List Tree) (h' : Hv), (got ++ rest).Perm left → got.length = many → Town t r h' → h' pl = some (.lst (rest.map Tree.enc)) → (∀ a, a ≠ t → a ≠ r → a ≠ pl → h' a = h a) → Q (.lst (got.map Tree.enc)) h') :
    dLc (dRange1 (aCons (dVar 6) aNil)) (.nm 8) tTrue (dBM "list" fPopAt (dVar 4) (aCons (dCall 3 S__law_draw (aCons (dVar 0) (aCons (dVar 1) (aCons (dCB fLen (aCons (dVar 4) aNil)) aNil)))) aNil)) [8] [some (.scr ns), some (.ref t), some (encB b), x3, some (.ref pl), x5, some (.int many), x7, x8] h Q E := by
  refine lc_ind (items := (List.range many).map fun i => Val.int (0 + (i : Nat))) (ok := fun _ => True) (fun D items acc h' => ∃ got rest : List Tree, acc = got.map Tree.enc ∧ (got ++ rest).Perm left ∧ got.length + items.length = many ∧ Town t r h' ∧ h' pl = some (.lst (rest.map Tree.enc)) ∧ h D = none ∧ h' D = some .busy ∧ ∀ a, a ≠ t → a ≠ r → a ≠ pl → a ≠ D → h' a = h a) (fun R rr => ?_) (fun D hD => ?_) ?_ ?_
  · simp only [dRange1, sSet, sFor, sIf, sRet, sExpr, sPar, sAsg, sSeq, sNext, sAug, dIt, dTup, dLst, dLstH, dCB, dCall, dCallK, dBin, dUn, dTest, dChain, dIfE, aCons, aNil, dVar, dC, dTruth, dNot, dAnd, dOr, vAnd, vOr, vNot, dBM, dSl, dRev, oSome, oNone]
    simp
    exact ⟨by omega, by simpa using rr⟩
  · obtain ⟨d1, d2⟩ := T.fresh hD
    have d3 : pl ≠ D := fun e => by rw [← e, gl] at hD; cases hD
    exact ⟨[], left, rfl, List.Perm.refl _, by simp, T.put d1 d2, by rw [put_ne d3]; exact gl, hD, put_same, fun a _ _ _ ha => put_ne ha⟩
  · rintro D acc h' ⟨got, rest, rfl, pm, gl', T', g', hD, hb, fr⟩
    obtain ⟨d1, d2⟩ := T.fresh hD
    have d3 : pl ≠ D := fun e => by rw [← e, gl] at hD; cases hD
    refine ⟨trivial, q got rest _ pm (by simpa using gl') (T'.only fun a ha => ?_) (by rw [drop_ne d3]; exact g') fun a a1 a2 a3 => ?_⟩
    · refine drop_ne ?_
      rcases ha with e | e
      · rw [e]; exact d1.symm
      · rw [e]; exact d2.symm
    · by_cases ha : a = D
      · rw [ha, drop_same, hD]
      · rw [drop_ne ha]; exact fr a a1 a2 a3 ha
  · rintro D v items acc h' ⟨got, rest, rfl, pm, gl', T', g', hD, hb, fr⟩
    obtain ⟨d1, d2⟩ := T.fresh hD
    have d3 : pl ≠ D := fun e => by rw [← e, gl] at hD; cases hD
    have pl' := pm.length_eq
    rw [List.length_append] at pl'
    rw [List.length_cons] at gl'
    refine ⟨trivial, _, rfl, fun N hN => ?_⟩
    simp only [tTrue, if_true]
    simp only [sSet, sFor, sIf, sRet, sExpr, sPar, sAsg, sSeq, sNext, sAug, dIt, dTup, dLst, dLstH, dCB, dCall, dCallK, dBin, dUn, dTest, dChain, dIfE, aCons, aNil, dVar, dC, dTruth, dNot, dAnd, dOr, vAnd, vOr, vNot, dBM, dSl, dRev, oSome, oNone]
    simp [wipeA, tyA, g']
    refine draw_ask nl (by omega) (by omega) T' fun n h2 n0 n1 T2 o2 => ?_
    have g2 : h2 pl = some (.lst (rest.map Tree.enc)) := by rw [o2 pl l1 l2]; exact g'
    have hn : n.toNat < rest.length := by omega
    simp only [fPopAt, g2]
    have e1 : (rest.map Tree.enc)[n.toNat]? = some (rest[n.toNat].enc) := by simp [hn]
    rw [e1]
    refine ⟨⟨n0, by omega⟩, by rw [sizeLine_eq]; omega, hN _ _ ⟨got ++ [rest[n.toNat]], rest.eraseIdx n.toNat, by simp, ?_, by rw [List.length_append, List.length_singleton]; omega, T2.put l1 l2, ?_, hD, ?_, fun a a1 a2 a3 a4 => ?_⟩⟩
    · rw [List.append_assoc]
      exact ((perm_erase hn).symm.append_left got).trans pm
    · rw [put_same]
      congr 2
      exact erase_map _ _
    · rw [put_ne d3.symm, o2 D d1 d2]; exact hb
    · rw [put_ne a3, o2 a a1 a2]; exact fr a a1 a2 a3 a4
theorem flat_perm {α β : Type} {f : α → List β} : ∀ {l m : List α}, l.Perm m → (l.flatMap f).Perm (m.flatMap f) := fun p => by
  induction p with
  | nil => exact List.Perm.refl _
  | cons x _ ih => rw [List.flatMap_cons, List.flatMap_cons]; exact ih.append_left _
  | swap x y l =>
    rw [List.flatMap_cons, List.flatMap_cons, List.flatMap_cons, List.flatMap_cons, ← List.append_assoc, ← List.append_assoc]
    exact List.perm_append_comm.append_right _
  | trans _ _ i j => exact i.trans j
theorem Lefts.next {b : Book} {ths : List Int} {turns : Nat} {left got rest : List Tree} {z : Str} (L : Lefts b ths turns left) (pm : (got ++ rest).Perm left) (hz : z ∈ b.names) (nz : ∀ z ∈ b.names, okN 0 (.str z) = true) (g1 : 1 ≤ got.length) (g2 : 4 ≤ turns → 2 ≤ got.length) (l8 : ths.length ≤ 8) : Lefts b ths (turns + 1) (rest ++ [.node z got]) := by
  have pl := pm.length_eq
  rw [List.length_append] at pl
  have okg : ∀ tr ∈ got ++ rest, tr.okT b.names ∧ tr.ht ≤ turns ∧ okN (2 * turns) tr.enc = true := fun tr h => L.ok tr (pm.subset h)
  have ne : got ≠ [] := fun e => by rw [e] at g1; simp at g1
  refine ⟨?_, by simp, fun tr htr => ?_, ?_, ?_, ?_⟩
  · rw [List.flatMap_append, List.flatMap_cons, List.flatMap_nil, List.append_nil, things_node]
    refine List.perm_append_comm.trans ?_
    have := flat_perm (f := Tree.things) pm
    rw [List.flatMap_append] at this
    exact this.trans L.pm
  · rcases List.mem_append.mp htr with e | e
    · have := okg tr (List.mem_append_right _ e)
      exact ⟨this.1, by omega, okN_le this.2.2 (by omega)⟩
    · rw [List.mem_singleton.mp e]
      refine ⟨by rw [Tree.okT, okTs_iff]; exact ⟨hz, ne, fun t ht => (okg t (List.mem_append_left _ ht)).1⟩, ?_, ?_⟩
      · rw [Tree.ht]
        have := htTs_le (ts := got) (k := turns) fun t ht => (okg t (List.mem_append_left _ ht)).2.1
        omega
      · rw [enc_node, show 2 * (turns + 1) = (2 * turns + 1) + 1 by omega, okN_tup]
        refine ⟨fun v hv => ?_, (by decide : 2 ≤ 1000)⟩
        rcases List.mem_cons.mp hv with e | e
        · rw [e]; exact okN_le (nz z hz) (Nat.zero_le _)
        · rw [List.mem_singleton.mp e, okN_tup]
          refine ⟨fun v hv => ?_, by rw [List.length_map]; have := L.ll; omega⟩
          obtain ⟨t, ht, rfl⟩ := List.mem_map.mp hv
          exact (okg t (List.mem_append_left _ ht)).2.2
  · rw [List.flatMap_append, List.flatMap_cons, List.flatMap_nil, List.append_nil, lands_node, List.length_append, List.length_cons]
    have := (flat_perm (f := Tree.lands) pm).length_eq
    rw [List.flatMap_append, List.length_append, L.ld] at this
    omega
  · have := L.tb
    have := L.ll
    rw [List.length_append, List.length_singleton]
    by_cases h4 : 4 ≤ turns
    · have := g2 h4
      right
      omega
    · left; omega
  · have := L.ll
    rw [List.length_append, List.length_singleton]
    omega
theorem bo__law_a_tree (N : List Str) (hN : N.length = 9) : ∀ as h Q E, as.length = 4 → S__law_a_tree as h Q E → den__law_a_tree (startA N as) h (endsR Q) (RX E) := by
  rintro as h0 Q E - ⟨ns, t, r, b, ths, rfl, nl, b1, b4, nz, t1, t8, T0, q⟩
  unfold den__law_a_tree
  simp only [startA, hN]
  refine seq_o fun K hK => ?_
  simp only [sSet, sFor, sIf, sRet, sExpr, sPar, sAsg, sSeq, sNext, sAug, dIt, dTup, dLst, dLstH, dCB, dCall, dCallK, dBin, dUn, dTest, dChain, dIfE, aCons, aNil, dVar, dC, dTruth, dNot, dAnd, dOr, vAnd, vOr, vNot, dBM, dSl, dRev, oSome, oNone]
  simp
  intro pl hpl
  refine ⟨by decide, ?_⟩
  obtain ⟨l1, l2⟩ := T0.fresh hpl
  subst hK
  refine seq_o fun K hK => ?_
  generalize hdd : sSeq (sSet 6 _) _ = dd
  revert dd
  refine opq fun dd hdd => ?_
  have h00 : ∀ k : Nat, okN 0 (.int (k : Int)) = true := fun _ => rfl
  -- one turn
  have turn : ∀ (left : List Tree) (turns : Nat) (x6 x7 : Option Val) (h : Hv) (N : Sl → Hv → Prop) (D : AE), Lefts b ths turns left → (turns = 0 ∨ 2 ≤ left.length) → h pl = some (.lst (left.map Tree.enc)) → Town t r h → Ext t r [pl] h0 h →
      (∀ (left' : List Tree) (x6 x7 : Option Val) (h' : Hv), Lefts b ths (turns + 1) left' → left'.length ≤ left.length → (4 ≤ turns → left'.length < left.length) → h' pl = some (.lst (left'.map Tree.enc)) → Town t r h' → Ext t r [pl] h0 h' → N [some (.scr ns), some (.ref t), some (encB b), some (.lst (ths.map .int)), some (.ref pl), some (.int ((turns + 1 : Nat) : Int)), x6, x7, none] h') →
      dd [some (.scr ns), some (.ref t), some (encB b), some (.lst (ths.map .int)), some (.ref pl), some (.int (turns : Int)), x6, x7, none] h { D with nx := N } (RX E) := by
    intro left turns x6 x7 h N D L hturn gl T x hN
    have ll := L.ll
    have ln1 := L.n1
    subst hdd
    refine seq_o fun K hK => ?_
    simp only [sSet, sFor, sIf, sRet, sExpr, sPar, sAsg, sSeq, sNext, sAug, dIt, dTup, dLst, dLstH, dCB, dCall, dCallK, dBin, dUn, dTest, dChain, dIfE, aCons, aNil, dVar, dC, dTruth, dNot, dAnd, dOr, vAnd, vOr, vNot, dBM, dSl, dRev, oSome, oNone]
    simp [gl]
    have fin : ∀ (m n : Int) (h1 : Hv), (1 ≤ m ∧ (4 ≤ turns → 2 ≤ m)) → m ≤ 2 → 0 ≤ n → Town t r h1 → Only t r h h1 → fMin2 [.int (left.length : Int), .int (m + n)] h1 (fun v h1 => K [some (.scr ns), some (.ref t), some (encB b), some (.lst (ths.map .int)), some (.ref pl), some (.int (turns : Int)), some v, x7, none] h1 { D with nx := N } (RX E)) := by
      intro m n h1 hm m2 n0 T1 o1
      obtain ⟨many, em⟩ : ∃ many : Nat, (if m + n < (left.length : Int) then m + n else (left.length : Int)) = (many : Int) := ⟨(if m + n < (left.length : Int) then m + n else (left.length : Int)).toNat, by split <;> omega⟩
      have hmany : many ≤ left.length ∧ 1 ≤ many ∧ (4 ≤ turns → 2 ≤ many) := by
        refine ⟨?_, ?_, fun h4 => ?_⟩
        · split at em <;> omega
        · split at em <;> omega
        · have := hm.2 h4
          split at em <;> omega
      simp only [fMin2]
      rw [em]
      subst hK
      refine seq_o fun K hK => ?_
      simp only [sSet]
      have gl1 : h1 pl = some (.lst (left.map Tree.enc)) := by rw [o1 pl l1 l2]; exact gl
      refine some_pops nl l1 l2 T1 gl1 hmany.1 (by omega) fun got rest h2 pm gm T2 g2 fr => ?_
      subst hK
      refine seq_o fun K hK => ?_
      simp only [sSet, sFor, sIf, sRet, sExpr, sPar, sAsg, sSeq, sNext, sAug, dIt, dTup, dLst, dLstH, dCB, dCall, dCallK, dBin, dUn, dTest, dChain, dIfE, aCons, aNil, dVar, dC, dTruth, dNot, dAnd, dOr, vAnd, vOr, vNot, dBM, dSl, dRev, oSome, oNone]
      simp [tyA, g2, ↓ix_lands]
      refine draw_ask nl (by omega) (by omega) T2 fun nn h3 m0 m1 T3 o3 => ?_
      have g3 : h3 pl = some (.lst (rest.map Tree.enc)) := by rw [o3 pl l1 l2]; exact g2
      obtain ⟨hk, ek⟩ := atI_int (xs := b.lands.map encL) m0 (by rw [List.length_map]; exact m1)
      have hk' : nn.toNat < b.lands.length := by simpa using hk
      rw [List.getElem_map] at ek
      simp only [ek]
      have pl' := pm.length_eq
      rw [List.length_append] at pl'
      simp [encL, atI_zero, fAppend, g3]
      refine ⟨by decide, by rw [sizeLine_eq]; omega, ?_⟩
      subst hK
      simp only [sSet, sFor, sIf, sRet, sExpr, sPar, sAsg, sSeq, sNext, sAug, dIt, dTup, dLst, dLstH, dCB, dCall, dCallK, dBin, dUn, dTest, dChain, dIfE, aCons, aNil, dVar, dC, dTruth, dNot, dAnd, dOr, vAnd, vOr, vNot, dBM, dSl, dRev, oSome, oNone]
      simp
      have zn : (b.lands[nn.toNat]).nm ∈ b.names := List.mem_map.mpr ⟨_, List.getElem_mem hk', rfl⟩
      refine hN (rest ++ [.node (b.lands[nn.toNat]).nm got]) _ _ _ (L.next pm zn nz (by omega) (fun h4 => by have := hmany.2.2 h4; omega) t8) (by rw [List.length_append, List.length_singleton]; omega) (fun h4 => by have := hmany.2.2 h4; rw [List.length_append, List.length_singleton]; omega) ?_ (T3.put l1 l2) fun a a1 a2 a3 => ?_
      · rw [put_same, List.map_append, List.map_cons, List.map_nil, enc_node]
      · have a3' : a ≠ pl := by simpa using a3
        rw [put_ne a3', o3 a a1 a2, fr a a1 a2 a3', o1 a a1 a2]
        exact x a a1 a2 a3
    by_cases h4 : turns < 4
    · have h4' : (turns : Int) < 4 := by omega
      simp [h4']
      refine draw_ask nl (by decide) (by decide) T fun n h1 n0 n1 T1 o1 => ?_
      exact fin 1 n h1 ⟨by decide, fun h => by omega⟩ (by decide) n0 T1 o1
    · have h4' : ¬ (turns : Int) < 4 := by omega
      simp [h4']
      refine draw_ask nl (by decide) (by decide) T fun n h1 n0 n1 T1 o1 => ?_
      exact fin 2 n h1 ⟨by decide, fun h => by decide⟩ (by decide) n0 T1 o1
  have h1t : h0 pl = none := hpl
  refine while_of (fun m ρ h => ∃ (left : List Tree) (turns : Nat) (x6 x7 : Option Val), m = (4 - turns) + left.length ∧ ρ = [some (.scr ns), some (.ref t), some (encB b), some (.lst (ths.map .int)), some (.ref pl), some (.int (turns : Int)), x6, x7, none] ∧ Lefts b ths turns left ∧ h pl = some (.lst (left.map Tree.enc)) ∧ Town t r h ∧ Ext t r [pl] h0 h) (n := (4 - 0) + ths.length)
    ⟨ths.map Tree.leaf, 0, none, none, by simp, rfl, ⟨?_, by simpa using t1, ?_, ?_, .inl (by decide), by simp⟩, ?_, T0.put l1 l2, fun a a1 a2 a3 => put_ne (by simpa using a3)⟩ ?_
  · rw [List.flatMap_map]
    have : ∀ l : List Int, l.flatMap (fun n => (Tree.leaf n).things) = l := fun l => by
      induction l with
      | nil => rfl
      | cons n l ih => rw [List.flatMap_cons, ih]; rfl
    rw [this]
  · intro tr htr
    obtain ⟨n, -, rfl⟩ := List.mem_map.mp htr
    exact ⟨trivial, Nat.le_refl _, rfl⟩
  · rw [List.flatMap_map]
    have : ∀ l : List Int, l.flatMap (fun n => (Tree.leaf n).lands) = [] := fun l => by
      induction l with
      | nil => rfl
      | cons n l ih => rw [List.flatMap_cons, ih]; rfl
    rw [this]; rfl
  · rw [put_same, List.map_map]; rfl
  · rintro m ρ h ⟨left, turns, x6, x7, rfl, rfl, L, gl, T, x⟩ N hN
    have ln1 := L.n1
    have go : (turns = 0 ∨ 2 ≤ left.length) → ∀ h1, h1 pl = some (.lst (left.map Tree.enc)) → Town t r h1 → Ext t r [pl] h0 h1 → dd [some (.scr ns), some (.ref t), some (encB b), some (.lst (ths.map .int)), some (.ref pl), some (.int (turns : Int)), x6, x7, none] h1 { nx := N, rt := RT Q, bk := fun ρ h => K ρ h (endsR Q) (RX E), ct := N } (RX E) := fun hc h1 g1 T1 x1 =>
      turn left turns x6 x7 h1 N { nx := N, rt := RT Q, bk := fun ρ h => K ρ h (endsR Q) (RX E), ct := N } L hc g1 T1 x1 fun left' x6' x7' h' L' le lt g' T' x' => hN _ _ _ (by
        by_cases h4 : 4 ≤ turns
        · have := lt h4; omega
        · omega) ⟨left', turns + 1, x6', x7', rfl, rfl, L', g', T', x'⟩
    have out : left.length = 1 → ∀ h1, h1 pl = some (.lst (left.map Tree.enc)) → Town t r h1 → Ext t r [pl] h0 h1 → K [some (.scr ns), some (.ref t), some (encB b), some (.lst (ths.map .int)), some (.ref pl), some (.int (turns : Int)), x6, x7, none] h1 (endsR Q) (RX E) := by
      intro hl1 h1 g1 T1 x1
      match left, L, hl1, g1 with
      | [tr], L, _, g1 =>
        subst hK
        simp only [sSet, sFor, sIf, sRet, sExpr, sPar, sAsg, sSeq, sNext, sAug, dIt, dTup, dLst, dLstH, dCB, dCall, dCallK, dBin, dUn, dTest, dChain, dIfE, aCons, aNil, dVar, dC, dTruth, dNot, dAnd, dOr, vAnd, vOr, vNot, dBM, dSl, dRev, oSome, oNone]
        simp [g1, atI_zero]
        have ok := L.ok tr (by simp)
        have tb := L.tb
        have ld := L.ld
        have pm := L.pm
        simp at tb ld pm
        refine RT.less (dropAll_less (ps := [pl]) fun p hp => by rw [List.mem_singleton.mp hp, g1]; simp) (q tr _ ok.1 pm (by omega) (by omega) (okN_le ok.2.2 (by omega)) (T1.dropAll (by simpa using l1.symm) (by simpa using l2.symm)) (x1.only fun p hp => by rw [List.mem_singleton.mp hp]; exact hpl))
    simp only [sSet, sFor, sIf, sRet, sExpr, sPar, sAsg, sSeq, sNext, sAug, dIt, dTup, dLst, dLstH, dCB, dCall, dCallK, dBin, dUn, dTest, dChain, dIfE, aCons, aNil, dVar, dC, dTruth, dNot, dAnd, dOr, vAnd, vOr, vNot, dBM, dSl, dRev, oSome, oNone]
    simp [gl]
    by_cases h2 : 2 ≤ left.length
    · have h2' : (1 : Int) < left.length := by omega
      simp [h2']
      exact go (.inr h2) h gl T x
    · have h2' : ¬ (1 : Int) < left.length := by omega
      have hl1 : left.length = 1 := by omega
      simp [h2']
      by_cases h0' : turns = 0
      · subst h0'
        simp
        refine draw_ask nl (by decide) (by decide) T fun n h1 n0 n1 T1 o1 => ?_
        have g1 : h1 pl = some (.lst (left.map Tree.enc)) := by rw [o1 pl l1 l2]; exact gl
        have x1 : Ext t r [pl] h0 h1 := fun a a1 a2 a3 => (o1 a a1 a2).trans (x a a1 a2 a3)
        by_cases hn : n = 0
        · subst hn
          simp
          exact go (.inl rfl) h1 g1 T1 x1
        · have hn' : (n == 0) = false := by simpa using hn
          simp [hn, hn']
          exact out hl1 h1 g1 T1 x1
      · have h0'' : ((turns : Int) == 0) = false := by simpa using h0'
        simp [h0', h0'']
        exact out hl1 h gl T x
end DL
namespace DL
open PySem PySem.Spec PyProof.Rows L2
/-! ## what counts -/
def takesL (b : Book) (z : Str) : List Str := sortZ (z :: (b.pacts.filter fun p => decide (p.1 = z)).map (·.2))
def enough (b : Book) (z : Str) (c w : Int) : Bool := match rowA b z with
  | some l => decide (w * l.p ≤ c * l.q)
  | none => false
def rawW (hp : Heap') (n : Int) : Int := ((hp[n.toNat]?).map (·.1)).getD 0
def rawL (hp : Heap') (n : Int) : Option Str := (hp[n.toNat]?).bind (·.2)
mutual
def Tree.whole (hp : Heap') : Tree → Int
  | .leaf n => rawW hp n
  | .node _ ts => wholeTs hp ts
def wholeTs (hp : Heap') : List Tree → Int
  | [] => 0
  | t :: ts => t.whole hp + wholeTs hp ts
end
mutual
def Tree.land (b : Book) (hp : Heap') : Tree → Option Str
  | .leaf n => rawL hp n
  | .node z ts => if enough b z (cntTs b hp z ts) (wholeTs hp ts) = true then some z else none
/-- what of the parts counts in a work of z -/
def cntTs (b : Book) (hp : Heap') (z : Str) : List Tree → Int
  | [] => 0
  | t :: ts => (match t.land b hp with
    | some l => if l ∈ takesL b z then t.whole hp else 0
    | none => 0) + cntTs b hp z ts
end
def Tree.cnt (b : Book) (hp : Heap') : Tree → Int
  | .leaf n => rawW hp n
  | .node z ts => cntTs b hp z ts
abbrev Row := List Int × Option Str
def encRow (r : Row) : Val := .tup [.tup (r.1.map .int), encO r.2]
mutual
def Tree.rows (b : Book) (hp : Heap') (path : List Int) : Tree → List Row
  | .leaf n => [(path, rawL hp n)]
  | .node z ts => (path, (Tree.node z ts).land b hp) :: rowsTs b hp path 0 ts
def rowsTs (b : Book) (hp : Heap') (path : List Int) (i : Nat) : List Tree → List Row
  | [] => []
  | t :: ts => t.rows b hp (path ++ [(i : Int)]) ++ rowsTs b hp path (i + 1) ts
end
mutual
def Tree.size : Tree → Nat
  | .leaf _ => 1
  | .node _ ts => sizeTs ts + 1
def sizeTs : List Tree → Nat
  | [] => 0
  | t :: ts => t.size + sizeTs ts
end
/-- the part at a path -/
def Tree.at (t : Tree) : List Int → Option Tree
  | [] => some t
  | i :: p => match t with
    | .leaf _ => none
    | .node _ ts => if 0 ≤ i then (match ts[i.toNat]? with
      | some u => u.at p
      | none => none) else none
/-- with another one there -/
def Tree.put (t : Tree) (f : Tree) : List Int → Tree
  | [] => f
  | i :: p => match t with
    | .leaf n => .leaf n
    | .node z ts => match ts[i.toNat]? with
      | some u => .node z (ts.set i.toNat (u.put f p))
      | none => .node z ts
structure HpOk (b : Book) (hp : Heap') : Prop where
  n8 : hp.length ≤ 8
  fr : ∀ x ∈ hp, ∀ z, x.2 = some z → z ∈ b.names
structure TrOk (b : Book) (hp : Heap') (t : Tree) : Prop where
  ok : t.okT b.names
  rg : ∀ n ∈ t.things, 0 ≤ n ∧ n < (hp.length : Int)
def S_takes : SpF := fun as h Q _ => ∃ (b : Book) (z : Str), as = [encB b, .str z] ∧ b.pacts.length ≤ 16 ∧ Q (.tup ((takesL b z).map .str)) h
def S__law_takes : SpF := fun as h Q _ => ∃ (b : Book) (z : Str), as = [encB b, .str z] ∧ b.pacts.length ≤ 16 ∧ Q (.lst ((takesL b z).map .str)) h
def S_is_enough : SpF := fun as h Q _ => ∃ (b : Book) (z : Str) (c w : Int), as = [encB b, .str z, .int c, .int w] ∧ WFB b ∧ z ∈ b.names ∧ Q (.bl (enough b z c w)) h
def S__law_has_share : SpF := S_is_enough
def S_worth_of : SpF := fun as h Q _ => ∃ (hp : Heap') (v : Val) (ns : List Int), as = [encH hp, v] ∧ (v = .tup (ns.map .int) ∨ v = .lst (ns.map .int)) ∧ (∀ n ∈ ns, 0 ≤ n ∧ n < (hp.length : Int)) ∧ ns.length ≤ 1000 ∧ Q (.int (ns.map (rawW hp)).sum) h
def SR_valued (d : Nat) : SpF := fun as h Q _ => ∃ (b : Book) (hp : Heap') (t : Tree) (path : List Int) (p : Addr) (rows0 : List Val), as = [encB b, encH hp, t.enc, .tup (path.map .int), .ref p] ∧ WFB b ∧ TrOk b hp t ∧ t.ht < d ∧ path.length + t.ht ≤ 100 ∧ h p = some (.lst rows0) ∧ rows0.length + t.size ≤ 1000 ∧
  Q (.tup [.int (t.whole hp), .int (t.cnt b hp), encO (t.land b hp)]) (put h p (.lst (rows0 ++ (t.rows b hp path).map encRow)))
def S_valued : SpF := SR_valued 24
def S_counts_as : SpF := fun as h Q _ => ∃ (b : Book) (hp : Heap') (t : Tree), as = [encB b, encH hp, t.enc] ∧ WFB b ∧ TrOk b hp t ∧ t.ht < 24 ∧ t.size ≤ 900 ∧ Q (encO (t.land b hp)) h
def S_counting_worth : SpF := fun as h Q _ => ∃ (b : Book) (hp : Heap') (t : Tree), as = [encB b, encH hp, t.enc] ∧ WFB b ∧ TrOk b hp t ∧ t.ht < 24 ∧ t.size ≤ 900 ∧ Q (.int (t.cnt b hp)) h
def S_all_counts : SpF := fun as h Q _ => ∃ (b : Book) (hp : Heap') (t : Tree), as = [encB b, encH hp, t.enc] ∧ WFB b ∧ TrOk b hp t ∧ t.ht < 24 ∧ t.size ≤ 900 ∧ Q (.tup ((t.rows b hp []).map encRow)) h
def S_tree_at : SpF := fun as h Q _ => ∃ (t u : Tree) (path : List Int), as = [t.enc, .tup (path.map .int)] ∧ t.at path = some u ∧ Q u.enc h
def S__law_at : SpF := S_tree_at
def SR_put_at (d : Nat) : SpF := fun as h Q _ => ∃ (t u f : Tree) (path : List Int), as = [t.enc, .tup (path.map .int), f.enc] ∧ t.at path = some u ∧ path.length < d ∧ okN 60 t.enc = true ∧ Q (t.put f path).enc h
def S_put_at : SpF := SR_put_at 24
def S_as_one : SpF := fun as h Q _ => ∃ (b : Book) (hp : Heap') (t u : Tree) (path : List Int), as = [encB b, encH hp, t.enc, .tup (path.map .int)] ∧ WFB b ∧ TrOk b hp u ∧ t.at path = some u ∧ u.ht < 24 ∧ u.size ≤ 900 ∧ path.length < 24 ∧ (∀ i ∈ path, 0 ≤ i ∧ i ≤ 8) ∧ hp.length < 8 ∧ okN 60 t.enc = true ∧
  Q (.tup [encH (hp ++ [(u.whole hp, u.land b hp)]), (t.put (.leaf hp.length) path).enc]) h
theorem no_valued : ∀ as h Q E, SR_valued 0 as h Q E → False := fun _ _ _ _ ⟨_, _, _, _, _, _, _, _, _, z, _⟩ => Nat.not_lt_zero _ z
theorem no_put_at : ∀ as h Q E, SR_put_at 0 as h Q E → False := fun _ _ _ _ ⟨_, _, _, _, _, _, z, _⟩ => Nat.not_lt_zero _ z
end DL
namespace DL
open PySem PySem.Spec PyProof.Rows L2
def den_takes : SD := (sRet (dCB fTuple (aCons (dCB fSorted (aCons (dBin fAdd (dLst (aCons (dVar 1) aNil)) (dLc (dIt (dBin fIx (dVar 0) (dC (.int 1)))) (.tp [(.nm 2), (.nm 3)]) (dTest (dBin fEq (dVar 2) (dVar 1))) (dVar 3) [2, 3])) aNil)) aNil)))
def den_worth_of : SD := (sRet (dCB fSum (aCons (dLc (dIt (dVar 1)) (.nm 2) tTrue (dBin fIx (dBin fIx (dVar 0) (dVar 2)) (dC (.int 0))) [2]) aNil)))
def den_is_enough : SD := (sSeq (sAsg (.tp [(.nm 4), (.nm 5), (.nm 6), (.nm 7)]) (dCall 2 S_row_of (aCons (dVar 0) (aCons (dVar 1) aNil)))) (sRet (dBin fGe (dBin fMulA (dVar 2) (dVar 6)) (dBin fMulA (dVar 3) (dVar 5)))))
def den_valued (R : SpF) : SD := (sSeq (sIf (dNot (dTruth (dCB fIsi (aCons (dVar 2) (aCons (dC (.ty "tuple")) aNil))))) (sSeq (sAsg (.tp [(.nm 5), (.nm 6)]) (dBin fIx (dVar 1) (dVar 2))) (sSeq (sExpr (dBM "list" fAppend (dVar 4) (aCons (dTup (aCons (dVar 3) (aCons (dVar 6) aNil))) aNil))) (sRet (dTup (aCons (dVar 5) (aCons (dVar 5) (aCons (dVar 6) aNil))))))) sNext) (sSeq (sPar [7, 8, 9] (aCons (dCB fLen (aCons (dVar 4) aNil)) (aCons (dC (.int 0)) (aCons (dC (.int 0)) aNil)))) (sSeq (sExpr (dBM "list" fAppend (dVar 4) (aCons (dTup (aCons (dVar 3) (aCons (dC .non) aNil))) aNil))) (sSeq (sFor (dEnum (aCons (dBin fIx (dVar 2) (dC (.int 1))) aNil)) (.tp [(.nm 10), (.nm 11)]) (sSeq (sAsg (.tp [(.nm 5), (.nm 12), (.nm 6)]) (dCall 5 R (aCons (dVar 0) (aCons (dVar 1) (aCons (dVar 11) (aCons (dBin fAdd (dVar 3) (dTup (aCons (dVar 10) aNil))) (aCons (dVar 4) aNil))))))) (sSeq (sAug 8 (fI0 fun i j => .int (i + j)) (dVar 5)) (sAug 9 (fI0 fun i j => .int (i + j)) (dIfE (dAnd (dTest (dBin fNotN (dVar 6) (dC .non))) (dTest (dBin fIn (dVar 6) (dCall 2 S_takes (aCons (dVar 0) (aCons (dBin fIx (dVar 2) (dC (.int 0))) aNil)))))) (dVar 5) (dC (.int 0))))))) (sSeq (sSet 6 (dIfE (dTruth (dCall 4 S_is_enough (aCons (dVar 0) (aCons (dBin fIx (dVar 2) (dC (.int 0))) (aCons (dVar 9) (aCons (dVar 8) aNil)))))) (dBin fIx (dVar 2) (dC (.int 0))) (dC .non))) (sSeq (sLPut (dVar 4) (dVar 7) (dTup (aCons (dVar 3) (aCons (dVar 6) aNil)))) (sRet (dTup (aCons (dVar 8) (aCons (dVar 9) (aCons (dVar 6) aNil)))))))))))
def den_counts_as : SD := (sRet (dBin fIx (dCall 5 S_valued (aCons (dVar 0) (aCons (dVar 1) (aCons (dVar 2) (aCons (dTup aNil) (aCons (dLstH aNil) aNil)))))) (dC (.int 2))))
def den_counting_worth : SD := (sRet (dBin fIx (dCall 5 S_valued (aCons (dVar 0) (aCons (dVar 1) (aCons (dVar 2) (aCons (dTup aNil) (aCons (dLstH aNil) aNil)))))) (dC (.int 1))))
def den_all_counts : SD := (sSeq (sSet 3 (dLstH aNil)) (sSeq (sExpr (dCall 5 S_valued (aCons (dVar 0) (aCons (dVar 1) (aCons (dVar 2) (aCons (dTup aNil) (aCons (dVar 3) aNil))))))) (sRet (dCB fTuple (aCons (dVar 3) aNil)))))
def den_tree_at : SD := (sSeq (sFor (dIt (dVar 1)) (.nm 2) (sSeq (sIf (dOr (dNot (dTruth (dCB fIsi (aCons (dVar 0) (aCons (dC (.ty "tuple")) aNil))))) (dTest (dBin fGe (dVar 2) (dCB fLen (aCons (dBin fIx (dVar 0) (dC (.int 1))) aNil))))) (sRet (dC .non)) sNext) (sSet 0 (dBin fIx (dBin fIx (dVar 0) (dC (.int 1))) (dVar 2))))) (sRet (dVar 0)))
def den_put_at (R : SpF) : SD := (sSeq (sIf (dNot (dTruth (dVar 1))) (sRet (dVar 2)) sNext) (sSeq (sSet 3 (dBin fIx (dVar 1) (dC (.int 0)))) (sSeq (sSet 4 (dBin fAdd (dBin fAdd (dSl fSl (dBin fIx (dVar 0) (dC (.int 1))) oNone (oSome (dVar 3))) (dTup (aCons (dCall 3 R (aCons (dBin fIx (dBin fIx (dVar 0) (dC (.int 1))) (dVar 3)) (aCons (dSl fSl (dVar 1) (oSome (dC (.int 1))) oNone) (aCons (dVar 2) aNil)))) aNil))) (dSl fSl (dBin fIx (dVar 0) (dC (.int 1))) (oSome (dBin fAdd (dVar 3) (dC (.int 1)))) oNone))) (sRet (dTup (aCons (dBin fIx (dVar 0) (dC (.int 0))) (aCons (dVar 4) aNil)))))))
def den_as_one : SD := (sSeq (sIf (dOr (dNot (dTruth (dCB fIsi (aCons (dVar 3) (aCons (dC (.ty "tuple")) aNil))))) (dNot (dTruth (dCB fAll (aCons (dLc (dIt (dVar 3)) (.nm 8) tTrue (dCall 3 S_is_number (aCons (dVar 8) (aCons (dC (.int 0)) (aCons (dC (.int 8)) aNil)))) [8]) aNil))))) sDead sNext) (sSeq (sSet 4 (dCall 2 S_tree_at (aCons (dVar 2) (aCons (dVar 3) aNil)))) (sSeq (sIf (dTest (dBin fIsN (dVar 4) (dC .non))) sDead sNext) (sSeq (sIf (dTest (dBin fEq (dCB fLen (aCons (dVar 1) aNil)) (dC (.int 8)))) sDead sNext) (sSeq (sAsg (.tp [(.nm 5), (.nm 6), (.nm 7)]) (dCall 5 S_valued (aCons (dVar 0) (aCons (dVar 1) (aCons (dVar 4) (aCons (dTup aNil) (aCons (dLstH aNil) aNil))))))) (sRet (dTup (aCons (dBin fAdd (dVar 1) (dTup (aCons (dTup (aCons (dVar 5) (aCons (dVar 7) aNil))) aNil))) (aCons (dCall 3 S_put_at (aCons (dVar 2) (aCons (dVar 3) (aCons (dCB fLen (aCons (dVar 1) aNil)) aNil)))) aNil)))))))))
def den__law_takes : SD := (sRet (dCB fSorted (aCons (dBin fAdd (dLst (aCons (dVar 1) aNil)) (dLc (dIt (dBin fIx (dVar 0) (dC (.int 1)))) (.nm 2) (dTest (dBin fEq (dBin fIx (dVar 2) (dC (.int 0))) (dVar 1))) (dBin fIx (dVar 2) (dC (.int 1))) [2])) aNil)))
def den__law_has_share : SD := (sSeq (sSet 4 (dCall 2 S__law_row (aCons (dVar 0) (aCons (dVar 1) aNil)))) (sRet (dBin fGe (dBin fMulA (dVar 2) (dBin fIx (dVar 4) (dC (.int 2)))) (dBin fMulA (dVar 3) (dBin fIx (dVar 4) (dC (.int 1)))))))
def den__law_at : SD := (sSeq (sFor (dIt (dVar 1)) (.nm 2) (sSet 0 (dBin fIx (dBin fIx (dVar 0) (dC (.int 1))) (dVar 2)))) (sRet (dVar 0)))
end DL
namespace DL
open PySem PySem.Spec PyProof.Rows L2
theorem ix_pacts {b : Book} {h : Hv} {Q : PV} : fIx (encB b) (.int 1) h Q = Q (.tup (b.pacts.map encP)) h := rfl
theorem takes_len (b : Book) (z : Str) : (takesL b z).length ≤ b.pacts.length + 1 := by
  unfold takesL
  rw [(sortZ_perm _).length_eq, List.length_cons, List.length_map]
  have := List.length_filter_le (fun p : Str × Str => decide (p.1 = z)) b.pacts
  omega
theorem intsOf_str (z : Str) (vs : List Val) : intsOf (.str z :: vs) = none := by simp [intsOf]
theorem sorted_strs {z : Str} {zs : List Str} {h : Hv} {Q : PV} (hl : (z :: zs).length < 64) (q : Q (.lst ((sortZ (z :: zs)).map .str)) h) : fSorted [.lst (.str z :: zs.map .str)] h Q := by
  simp only [fSorted, listOf, Option.bind_some, intsOf_str]
  rw [show (Val.str z :: zs.map Val.str) = (z :: zs).map Val.str from rfl, strsOf_map]
  exact ⟨hl, q⟩
theorem bo_takes (N : List Str) (hN : N.length = 4) : ∀ as h Q E, as.length = 2 → S_takes as h Q E → den_takes (startA N as) h (endsR Q) (RX E) := by
  rintro as h Q E - ⟨b, z, rfl, pl, q⟩
  have q := RT.same q
  unfold den_takes
  simp only [startA, hN]
  generalize hd : dLc _ _ _ _ _ = dn
  revert dn
  refine opq fun dn hd => ?_
  simp only [sSet, sFor, sIf, sRet, sExpr, sPar, sAsg, sSeq, sNext, sAug, dIt, dTup, dLst, dLstH, dCB, dCall, dCallK, dBin, dUn, dTest, dChain, dIfE, aCons, aNil, dVar, dC, dTruth, dNot, dAnd, dOr, vAnd, vOr, vNot, dBM, dSl, dRev, oSome, oNone]
  simp
  subst hd
  refine ⟨by decide, lc_filtT (ok := fun _ => True) b.pacts encP (fun p => decide (p.1 = z)) (fun p => .str p.2) (fun R r => by simp only [sSet, sFor, sIf, sRet, sExpr, sPar, sAsg, sSeq, sNext, sAug, dIt, dTup, dLst, dLstH, dCB, dCall, dCallK, dBin, dUn, dTest, dChain, dIfE, aCons, aNil, dVar, dC, dTruth, dNot, dAnd, dOr, vAnd, vOr, vNot, dBM, dSl, dRev, oSome, oNone]; simpa [↓ix_pacts] using r) (fun _ _ => trivial) (sl1000 (by omega)) (fun p hp => ⟨_, rfl, fun h' Q' _ q' => ?_, fun _ h' Q' _ q' => by simpa using q'⟩) ?_⟩
  · simp only [sSet, sFor, sIf, sRet, sExpr, sPar, sAsg, sSeq, sNext, sAug, dIt, dTup, dLst, dLstH, dCB, dCall, dCallK, dBin, dUn, dTest, dChain, dIfE, aCons, aNil, dVar, dC, dTruth, dNot, dAnd, dOr, vAnd, vOr, vNot, dBM, dSl, dRev, oSome, oNone]
    simp
    by_cases e : p.1 = z
    · simpa [e] using q'
    · have : (p.1 == z) = false := by simpa using e
      simpa [e, this] using q'
  · have tl := takes_len b z
    unfold takesL at tl q
    rw [(sortZ_perm _).length_eq, List.length_cons, List.length_map] at tl
    have sz : 1 + (b.pacts.filter fun p => decide (p.1 = z)).length ≤ sizeLine := sl1000 (by omega)
    simp [sz]
    rw [show (List.map (fun p => Val.str p.2) (List.filter (fun p => decide (p.1 = z)) b.pacts)) = ((b.pacts.filter fun p => decide (p.1 = z)).map (·.2)).map Val.str by rw [List.map_map]; rfl]
    refine sorted_strs (by rw [List.length_cons, List.length_map]; omega) ?_
    simpa using q
theorem bo__law_takes (N : List Str) (hN : N.length = 3) : ∀ as h Q E, as.length = 2 → S__law_takes as h Q E → den__law_takes (startA N as) h (endsR Q) (RX E) := by
  rintro as h Q E - ⟨b, z, rfl, pl, q⟩
  have q := RT.same q
  unfold den__law_takes
  simp only [startA, hN]
  generalize hd : dLc _ _ _ _ _ = dn
  revert dn
  refine opq fun dn hd => ?_
  simp only [sSet, sFor, sIf, sRet, sExpr, sPar, sAsg, sSeq, sNext, sAug, dIt, dTup, dLst, dLstH, dCB, dCall, dCallK, dBin, dUn, dTest, dChain, dIfE, aCons, aNil, dVar, dC, dTruth, dNot, dAnd, dOr, vAnd, vOr, vNot, dBM, dSl, dRev, oSome, oNone]
  simp
  subst hd
  refine ⟨by decide, lc_filtT (ok := fun _ => True) b.pacts encP (fun p => decide (p.1 = z)) (fun p => .str p.2) (fun R r => by simp only [sSet, sFor, sIf, sRet, sExpr, sPar, sAsg, sSeq, sNext, sAug, dIt, dTup, dLst, dLstH, dCB, dCall, dCallK, dBin, dUn, dTest, dChain, dIfE, aCons, aNil, dVar, dC, dTruth, dNot, dAnd, dOr, vAnd, vOr, vNot, dBM, dSl, dRev, oSome, oNone]; simpa [↓ix_pacts] using r) (fun _ _ => trivial) (sl1000 (by omega)) (fun p hp => ⟨_, rfl, fun h' Q' _ q' => ?_, fun _ h' Q' _ q' => ?_⟩) ?_⟩
  · simp only [sSet, sFor, sIf, sRet, sExpr, sPar, sAsg, sSeq, sNext, sAug, dIt, dTup, dLst, dLstH, dCB, dCall, dCallK, dBin, dUn, dTest, dChain, dIfE, aCons, aNil, dVar, dC, dTruth, dNot, dAnd, dOr, vAnd, vOr, vNot, dBM, dSl, dRev, oSome, oNone]
    simp [encP, atI, ixN]
    by_cases e : p.1 = z
    · simpa [e] using q'
    · have : (p.1 == z) = false := by simpa using e
      simpa [e, this] using q'
  · simp only [sSet, sFor, sIf, sRet, sExpr, sPar, sAsg, sSeq, sNext, sAug, dIt, dTup, dLst, dLstH, dCB, dCall, dCallK, dBin, dUn, dTest, dChain, dIfE, aCons, aNil, dVar, dC, dTruth, dNot, dAnd, dOr, vAnd, vOr, vNot, dBM, dSl, dRev, oSome, oNone]
    simpa [encP, atI, ixN] using q'
  · have tl := takes_len b z
    unfold takesL at tl q
    rw [(sortZ_perm _).length_eq, List.length_cons, List.length_map] at tl
    have sz : 1 + (b.pacts.filter fun p => decide (p.1 = z)).length ≤ sizeLine := sl1000 (by omega)
    simp [sz]
    rw [show (List.map (fun p => Val.str p.2) (List.filter (fun p => decide (p.1 = z)) b.pacts)) = ((b.pacts.filter fun p => decide (p.1 = z)).map (·.2)).map Val.str by rw [List.map_map]; rfl]
    exact sorted_strs (by rw [List.length_cons, List.length_map]; omega) q
theorem share_mul {b : Book} {z : Str} (w : WFB b) (hz : z ∈ b.names) : ∃ l, rowA b z = some l ∧ (∀ c : Int, CMul c l.q ∧ CMul c l.p) := by
  obtain ⟨l, h1, h2, -⟩ := rowA_some hz
  have := w.sh l h2
  refine ⟨l, h1, fun c => ⟨.inr ?_, .inr ?_⟩⟩
  · have h : (2 : Int) ^ 64 = 18446744073709551616 := by decide
    omega
  · have h : (2 : Int) ^ 64 = 18446744073709551616 := by decide
    omega
theorem bo_is_enough (N : List Str) (hN : N.length = 8) : ∀ as h Q E, as.length = 4 → S_is_enough as h Q E → den_is_enough (startA N as) h (endsR Q) (RX E) := by
  rintro as h Q E - ⟨b, z, c, w, rfl, wf, hz, q⟩
  have q := RT.same q
  obtain ⟨l, hl, hm⟩ := share_mul wf hz
  unfold den_is_enough
  simp only [startA, hN]
  refine seq_o fun K hK => ?_
  simp only [sSet, sFor, sIf, sRet, sExpr, sPar, sAsg, sSeq, sNext, sAug, dIt, dTup, dLst, dLstH, dCB, dCall, dCallK, dBin, dUn, dTest, dChain, dIfE, aCons, aNil, dVar, dC, dTruth, dNot, dAnd, dOr, vAnd, vOr, vNot, dBM, dSl, dRev, oSome, oNone]
  refine ⟨rfl, b, z, l, rfl, wf.n4, hl, ?_⟩
  simp [encL]
  subst hK
  simp only [sSet, sFor, sIf, sRet, sExpr, sPar, sAsg, sSeq, sNext, sAug, dIt, dTup, dLst, dLstH, dCB, dCall, dCallK, dBin, dUn, dTest, dChain, dIfE, aCons, aNil, dVar, dC, dTruth, dNot, dAnd, dOr, vAnd, vOr, vNot, dBM, dSl, dRev, oSome, oNone]
  simp [hm]
  simpa [enough, hl] using q
theorem bo__law_has_share (N : List Str) (hN : N.length = 5) : ∀ as h Q E, as.length = 4 → S__law_has_share as h Q E → den__law_has_share (startA N as) h (endsR Q) (RX E) := by
  rintro as h Q E - ⟨b, z, c, w, rfl, wf, hz, q⟩
  have q := RT.same q
  obtain ⟨l, hl, hm⟩ := share_mul wf hz
  unfold den__law_has_share
  simp only [startA, hN]
  refine seq_o fun K hK => ?_
  simp only [sSet, sFor, sIf, sRet, sExpr, sPar, sAsg, sSeq, sNext, sAug, dIt, dTup, dLst, dLstH, dCB, dCall, dCallK, dBin, dUn, dTest, dChain, dIfE, aCons, aNil, dVar, dC, dTruth, dNot, dAnd, dOr, vAnd, vOr, vNot, dBM, dSl, dRev, oSome, oNone]
  simp
  refine ⟨b, z, l, rfl, wf.n4, hl, ?_⟩
  subst hK
  simp only [sSet, sFor, sIf, sRet, sExpr, sPar, sAsg, sSeq, sNext, sAug, dIt, dTup, dLst, dLstH, dCB, dCall, dCallK, dBin, dUn, dTest, dChain, dIfE, aCons, aNil, dVar, dC, dTruth, dNot, dAnd, dOr, vAnd, vOr, vNot, dBM, dSl, dRev, oSome, oNone]
  simp [encL, atI, ixN, hm]
  simpa [enough, hl] using q
theorem ix_heap {hp : Heap'} {n : Int} {h : Hv} {Q : PV} (h0 : 0 ≤ n) (h1 : n < (hp.length : Int)) (q : Q (.tup [.int (rawW hp n), encO (rawL hp n)]) h) : fIx (encH hp) (.int n) h Q := by
  have hk : n.toNat < hp.length := by omega
  obtain ⟨hk', e⟩ := atI_int (xs := hp.map encR) h0 (by rw [List.length_map]; exact h1)
  rw [List.getElem_map] at e
  simp [encH, e]
  simpa [rawW, rawL, hk, encR] using q
theorem bo_worth_of (N : List Str) (hN : N.length = 3) : ∀ as h Q E, as.length = 2 → S_worth_of as h Q E → den_worth_of (startA N as) h (endsR Q) (RX E) := by
  rintro as h Q E - ⟨hp, v, ns, rfl, hv, rg, nl, q⟩
  have q := RT.same q
  unfold den_worth_of
  simp only [startA, hN]
  show dCB fSum _ _ _ _ _
  refine sum_lcT (ok := fun _ => True) ns .int (rawW hp) (fun R r => ?_) (fun _ _ => trivial) (sl1000 nl) (fun n hn => ⟨_, rfl, fun h' Q' _ q' => ?_⟩) q
  · rcases hv with rfl | rfl
    · simp only [sSet, sFor, sIf, sRet, sExpr, sPar, sAsg, sSeq, sNext, sAug, dIt, dTup, dLst, dLstH, dCB, dCall, dCallK, dBin, dUn, dTest, dChain, dIfE, aCons, aNil, dVar, dC, dTruth, dNot, dAnd, dOr, vAnd, vOr, vNot, dBM, dSl, dRev, oSome, oNone]; simpa using r
    · simp only [sSet, sFor, sIf, sRet, sExpr, sPar, sAsg, sSeq, sNext, sAug, dIt, dTup, dLst, dLstH, dCB, dCall, dCallK, dBin, dUn, dTest, dChain, dIfE, aCons, aNil, dVar, dC, dTruth, dNot, dAnd, dOr, vAnd, vOr, vNot, dBM, dSl, dRev, oSome, oNone]; simpa using r
  · have := rg n hn
    simp only [sSet, sFor, sIf, sRet, sExpr, sPar, sAsg, sSeq, sNext, sAug, dIt, dTup, dLst, dLstH, dCB, dCall, dCallK, dBin, dUn, dTest, dChain, dIfE, aCons, aNil, dVar, dC, dTruth, dNot, dAnd, dOr, vAnd, vOr, vNot, dBM, dSl, dRev, oSome, oNone]
    simp only [wipeA, List.set, List.getElem?_cons_zero, List.getElem?_cons_succ]
    show fIx (encH hp) (.int n) h' _
    refine ix_heap this.1 this.2 ?_
    simpa [atI, ixN] using q'
end DL
namespace DL
open PySem PySem.Spec PyProof.Rows L2
def enumFrom (k : Nat) : List Val → List Val
  | [] => []
  | v :: vs => .tup [.int (k : Nat), v] :: enumFrom (k + 1) vs
theorem enumV_from (vs : List Val) : enumV vs = enumFrom 0 vs := by
  have : ∀ (k : Nat) (vs : List Val), (vs.zip (List.range' k vs.length)).map (fun p => Val.tup [.int (p.2 : Nat), p.1]) = enumFrom k vs := fun k vs => by
    induction vs generalizing k with
    | nil => rfl
    | cons v vs ih => rw [List.length_cons, List.range'_succ, List.zip_cons_cons, List.map_cons, ih]; rfl
  unfold enumV
  rw [List.range_eq_range', this]
theorem wholeTs_app (hp : Heap') : ∀ ts us : List Tree, wholeTs hp (ts ++ us) = wholeTs hp ts + wholeTs hp us
  | [], us => by rw [List.nil_append, wholeTs]; omega
  | t :: ts, us => by rw [List.cons_append, wholeTs, wholeTs, wholeTs_app hp ts us]; omega
theorem cntTs_app (b : Book) (hp : Heap') (z : Str) : ∀ ts us : List Tree, cntTs b hp z (ts ++ us) = cntTs b hp z ts + cntTs b hp z us
  | [], us => by rw [List.nil_append, cntTs]; omega
  | t :: ts, us => by
    rw [List.cons_append, cntTs, cntTs, cntTs_app b hp z ts us]; omega
theorem rowsTs_app (b : Book) (hp : Heap') (path : List Int) : ∀ (i : Nat) (ts us : List Tree), rowsTs b hp path i (ts ++ us) = rowsTs b hp path i ts ++ rowsTs b hp path (i + ts.length) us
  | i, [], us => by rw [List.nil_append, rowsTs, List.nil_append]; rfl
  | i, t :: ts, us => by
    rw [List.cons_append, rowsTs, rowsTs, rowsTs_app b hp path (i + 1) ts us, List.append_assoc, List.length_cons, show i + 1 + ts.length = i + (ts.length + 1) by omega]
theorem sizeTs_app : ∀ ts us : List Tree, sizeTs (ts ++ us) = sizeTs ts + sizeTs us
  | [], us => by rw [List.nil_append, sizeTs]; omega
  | t :: ts, us => by rw [List.cons_append, sizeTs, sizeTs, sizeTs_app ts us]; omega
mutual
theorem rows_len (b : Book) (hp : Heap') : ∀ (t : Tree) (path : List Int), (t.rows b hp path).length = t.size
  | .leaf n, path => by rw [Tree.rows, Tree.size]; rfl
  | .node z ts, path => by rw [Tree.rows, Tree.size, List.length_cons, rowsTs_len b hp ts path 0]
theorem rowsTs_len (b : Book) (hp : Heap') : ∀ (ts : List Tree) (path : List Int) (i : Nat), (rowsTs b hp path i ts).length = sizeTs ts
  | [], path, i => by rw [rowsTs, sizeTs]; rfl
  | t :: ts, path, i => by rw [rowsTs, sizeTs, List.length_append, rows_len b hp t _, rowsTs_len b hp ts path (i + 1)]
end
theorem TrOk.mem {b : Book} {hp : Heap'} {z : Str} {ts : List Tree} (k : TrOk b hp (.node z ts)) {t : Tree} (h : t ∈ ts) : TrOk b hp t := by
  have ok := k.ok
  rw [Tree.okT, okTs_iff] at ok
  refine ⟨ok.2.2 t h, fun n hn => k.rg n ?_⟩
  rw [things_node]
  exact List.mem_flatMap.mpr ⟨t, h, hn⟩
theorem TrOk.land {b : Book} {hp : Heap'} {z : Str} {ts : List Tree} (k : TrOk b hp (.node z ts)) : z ∈ b.names := by
  have ok := k.ok
  rw [Tree.okT, okTs_iff] at ok
  exact ok.1
theorem bo_valued (N : List Str) (hN : N.length = 13) (d : Nat) : ∀ as h Q E, as.length = 5 → SR_valued (d + 1) as h Q E → den_valued (SR_valued d) (startA N as) h (endsR Q) (RX E) := by
  rintro as h0 Q E - ⟨b, hp, t, path, p, rows0, rfl, wf, tk, hd, pl, gp, rl, q⟩
  have q := RT.same q
  unfold den_valued
  simp only [startA, hN]
  refine seq_o fun K hK => ?_
  cases t with
  | leaf n =>
    have rg := tk.rg n (by simp [Tree.things])
    rw [Tree.size] at rl
    simp only [sSet, sFor, sIf, sRet, sExpr, sPar, sAsg, sSeq, sNext, sAug, dIt, dTup, dLst, dLstH, dCB, dCall, dCallK, dBin, dUn, dTest, dChain, dIfE, aCons, aNil, dVar, dC, dTruth, dNot, dAnd, dOr, vAnd, vOr, vNot, dBM, dSl, dRev, oSome, oNone]
    simp only [Tree.enc, Tree.whole, Tree.cnt, Tree.land, Tree.rows] at q ⊢
    simp [-fIx, -bT, -bTs]
    refine ix_heap rg.1 rg.2 ?_
    have s2 : (2 : Nat) ≤ sizeLine := by decide
    have s3 : (3 : Nat) ≤ sizeLine := by decide
    have sl : rows0.length < sizeLine := by rw [sizeLine_eq]; omega
    simp [tyA, fAppend, gp, s2, s3, sl]
    simpa [encRow] using q
  | node z ts =>
    have hts := ht_node hd
    have zn := tk.land
    rw [Tree.size] at rl
    have rlen : rows0.length < sizeLine := by rw [sizeLine_eq]; omega
    have s2 : (2 : Nat) ≤ sizeLine := by decide
    have s3 : (3 : Nat) ≤ sizeLine := by decide
    rw [enc_node]
    simp only [sSet, sFor, sIf, sRet, sExpr, sPar, sAsg, sSeq, sNext, sAug, dIt, dTup, dLst, dLstH, dCB, dCall, dCallK, dBin, dUn, dTest, dChain, dIfE, aCons, aNil, dVar, dC, dTruth, dNot, dAnd, dOr, vAnd, vOr, vNot, dBM, dSl, dRev, oSome, oNone]
    simp
    subst hK
    refine seq_o fun K hK => ?_
    simp only [sSet, sFor, sIf, sRet, sExpr, sPar, sAsg, sSeq, sNext, sAug, dIt, dTup, dLst, dLstH, dCB, dCall, dCallK, dBin, dUn, dTest, dChain, dIfE, aCons, aNil, dVar, dC, dTruth, dNot, dAnd, dOr, vAnd, vOr, vNot, dBM, dSl, dRev, oSome, oNone]
    simp [gp]
    subst hK
    refine seq_o fun K hK => ?_
    simp only [sSet, sFor, sIf, sRet, sExpr, sPar, sAsg, sSeq, sNext, sAug, dIt, dTup, dLst, dLstH, dCB, dCall, dCallK, dBin, dUn, dTest, dChain, dIfE, aCons, aNil, dVar, dC, dTruth, dNot, dAnd, dOr, vAnd, vOr, vNot, dBM, dSl, dRev, oSome, oNone]
    simp [tyA, fAppend, gp, s2, rlen]
    subst hK
    refine seq_o fun K hK => ?_
    refine for_o fun dd hdd => ?_
    simp only [dEnum, sSet, sFor, sIf, sRet, sExpr, sPar, sAsg, sSeq, sNext, sAug, dIt, dTup, dLst, dLstH, dCB, dCall, dCallK, dBin, dUn, dTest, dChain, dIfE, aCons, aNil, dVar, dC, dTruth, dNot, dAnd, dOr, vAnd, vOr, vNot, dBM, dSl, dRev, oSome, oNone]
    simp [atI, ixN]
    rw [enumV_from]
    subst hdd
    refine for_ind (fun vs ρ h => ∃ (done rest : List Tree) (x5 x6 x10 x11 x12 : Option Val), ts = done ++ rest ∧ vs = enumFrom done.length (rest.map Tree.enc) ∧ ρ = [some (encB b), some (encH hp), some (.tup [.str z, .tup (ts.map Tree.enc)]), some (.tup (path.map .int)), some (.ref p), x5, x6, some (.int (rows0.length : Nat)), some (.int (wholeTs hp done)), some (.int (cntTs b hp z done)), x10, x11, x12] ∧ h = put h0 p (.lst (rows0 ++ .tup [.tup (path.map .int), .non] :: (rowsTs b hp path 0 done).map encRow))) ?_ ?_ _ _ _ ⟨[], ts, none, none, none, none, none, rfl, rfl, by simp [wholeTs, cntTs], by simp [rowsTs]⟩
    · rintro ρ h ⟨done, rest, x5, x6, x10, x11, x12, e1, e2, rfl, rfl⟩
      have : rest = [] := by cases rest with
        | nil => rfl
        | cons _ _ => cases e2
      subst this
      rw [List.append_nil] at e1
      subst e1
      refine ⟨trivial, ?_⟩
      dsimp only
      subst hK
      refine seq_o fun K hK => ?_
      simp only [sSet, sFor, sIf, sRet, sExpr, sPar, sAsg, sSeq, sNext, sAug, dIt, dTup, dLst, dLstH, dCB, dCall, dCallK, dBin, dUn, dTest, dChain, dIfE, aCons, aNil, dVar, dC, dTruth, dNot, dAnd, dOr, vAnd, vOr, vNot, dBM, dSl, dRev, oSome, oNone]
      simp [atI, ixN]
      refine ⟨b, z, _, _, rfl, wf, zn, ?_⟩
      have ixr : ixN (rows0 ++ .tup [.tup (path.map .int), .non] :: (rowsTs b hp path 0 ts).map encRow).length ((rows0.length : Nat) : Int) = some rows0.length := by
        unfold ixN; simp; omega
      have fin : ∀ (v : Option Str), (Tree.node z ts).land b hp = v → K [some (encB b), some (encH hp), some (.tup [.str z, .tup (ts.map Tree.enc)]), some (.tup (path.map .int)), some (.ref p), x5, some (encO v), some (.int (rows0.length : Nat)), some (.int (wholeTs hp ts)), some (.int (cntTs b hp z ts)), x10, x11, x12] (put h0 p (.lst (rows0 ++ .tup [.tup (path.map .int), .non] :: (rowsTs b hp path 0 ts).map encRow))) (endsR Q) (RX E) := by
        intro v hv
        subst hK
        refine seq_o fun K hK => ?_
        simp only [sLPut, sSet, sFor, sIf, sRet, sExpr, sPar, sAsg, sSeq, sNext, sAug, dIt, dTup, dLst, dLstH, dCB, dCall, dCallK, dBin, dUn, dTest, dChain, dIfE, aCons, aNil, dVar, dC, dTruth, dNot, dAnd, dOr, vAnd, vOr, vNot, dBM, dSl, dRev, oSome, oNone]
        simp only [List.getElem?_cons_zero, List.getElem?_cons_succ]
        refine ⟨s2, ?_⟩
        rw [put_same]
        dsimp only
        rw [ixr]
        dsimp only
        subst hK
        simp only [sSet, sFor, sIf, sRet, sExpr, sPar, sAsg, sSeq, sNext, sAug, dIt, dTup, dLst, dLstH, dCB, dCall, dCallK, dBin, dUn, dTest, dChain, dIfE, aCons, aNil, dVar, dC, dTruth, dNot, dAnd, dOr, vAnd, vOr, vNot, dBM, dSl, dRev, oSome, oNone]
        refine ⟨s3, ?_⟩
        rw [put_put]
        rw [Tree.whole, Tree.cnt, Tree.rows, hv] at q
        have : (rows0 ++ Val.tup [.tup (path.map .int), .non] :: (rowsTs b hp path 0 ts).map encRow).set rows0.length (.tup [.tup (path.map .int), encO v]) = rows0 ++ (((path, v) : Row) :: rowsTs b hp path 0 ts).map encRow := by
          rw [List.set_append_right _ _ (Nat.le_refl _), Nat.sub_self]; rfl
        rw [this]
        exact q
      cases he : enough b z (cntTs b hp z ts) (wholeTs hp ts) with
      | true =>
        simp
        exact fin (some z) (by rw [Tree.land, he]; rfl)
      | false =>
        simp
        exact fin none (by rw [Tree.land, he]; rfl)
    · rintro v vs ρ h ⟨done, rest, x5, x6, x10, x11, x12, e1, e2, rfl, rfl⟩
      cases rest with
      | nil => cases e2
      | cons t rest =>
        rw [List.map_cons, enumFrom, List.cons.injEq] at e2
        obtain ⟨rfl, rfl⟩ := e2
        have mt : t ∈ ts := by rw [e1]; simp
        refine ⟨trivial, _, rfl, fun N hN => ?_⟩
        refine seq_o fun K hK => ?_
        have pl2 : path.length + 1 ≤ sizeLine := sl1000 (by rw [Tree.ht] at pl; omega)
        simp only [sSet, sFor, sIf, sRet, sExpr, sPar, sAsg, sSeq, sNext, sAug, dIt, dTup, dLst, dLstH, dCB, dCall, dCallK, dBin, dUn, dTest, dChain, dIfE, aCons, aNil, dVar, dC, dTruth, dNot, dAnd, dOr, vAnd, vOr, vNot, dBM, dSl, dRev, oSome, oNone]
        simp only [List.set, List.getElem?_cons_zero, List.getElem?_cons_succ, fAdd]
        have sz : sizeTs ts = sizeTs done + (t.size + sizeTs rest) := by rw [e1, sizeTs_app, sizeTs]
        refine ⟨by show 1 ≤ sizeLine; decide, by simpa using pl2, rfl, b, hp, t, path ++ [(done.length : Int)], p, _, by simp, wf, tk.mem mt, hts t mt, ?_, put_same, ?_, ?_⟩
        · have := htTs_mem mt
          rw [Tree.ht] at pl
          rw [List.length_append, List.length_singleton]
          omega
        · rw [List.length_append, List.length_cons, List.length_map, rowsTs_len]
          omega
        rw [put_put]
        have hrow : rows0 ++ .tup [.tup (path.map .int), .non] :: (rowsTs b hp path 0 done).map encRow ++ (t.rows b hp (path ++ [(done.length : Int)])).map encRow = rows0 ++ .tup [.tup (path.map .int), .non] :: (rowsTs b hp path 0 (done ++ [t])).map encRow := by
          rw [rowsTs_app, rowsTs, rowsTs, List.append_nil, List.map_append, Nat.zero_add]
          simp
        rw [hrow]
        simp
        subst hK
        refine seq_o fun K hK => ?_
        simp only [sSet, sFor, sIf, sRet, sExpr, sPar, sAsg, sSeq, sNext, sAug, dIt, dTup, dLst, dLstH, dCB, dCall, dCallK, dBin, dUn, dTest, dChain, dIfE, aCons, aNil, dVar, dC, dTruth, dNot, dAnd, dOr, vAnd, vOr, vNot, dBM, dSl, dRev, oSome, oNone]
        simp
        subst hK
        simp only [sSet, sFor, sIf, sRet, sExpr, sPar, sAsg, sSeq, sNext, sAug, dIt, dTup, dLst, dLstH, dCB, dCall, dCallK, dBin, dUn, dTest, dChain, dIfE, aCons, aNil, dVar, dC, dTruth, dNot, dAnd, dOr, vAnd, vOr, vNot, dBM, dSl, dRev, oSome, oNone]
        simp
        have ew : wholeTs hp (done ++ [t]) = wholeTs hp done + t.whole hp := by rw [wholeTs_app, wholeTs, wholeTs]; omega
        cases hl : t.land b hp with
        | none =>
          have ec : cntTs b hp z (done ++ [t]) = cntTs b hp z done := by rw [cntTs_app, cntTs, cntTs, hl]; show _ + (0 + 0) = _; omega
          simp [encO]
          refine hN _ _ ⟨done ++ [t], rest, some (.int (t.whole hp)), some .non, some (.int (done.length : Nat)), some t.enc, some (.int (t.cnt b hp)), by rw [e1]; simp, by simp, ?_, rfl⟩
          rw [ew, ec]
        | some l =>
          simp [encO, atI, ixN]
          refine ⟨b, z, rfl, wf.pl, ?_⟩
          simp [inA_str, flat_strs]
          by_cases hm : l ∈ takesL b z
          · have ec : cntTs b hp z (done ++ [t]) = cntTs b hp z done + t.whole hp := by rw [cntTs_app, cntTs, cntTs, hl]; show _ + ((if l ∈ takesL b z then t.whole hp else 0) + 0) = _; rw [if_pos hm]; omega
            simp [hm]
            refine hN _ _ ⟨done ++ [t], rest, some (.int (t.whole hp)), some (.str l), some (.int (done.length : Nat)), some t.enc, some (.int (t.cnt b hp)), by rw [e1]; simp, by simp, ?_, rfl⟩
            rw [ew, ec]
          · have ec : cntTs b hp z (done ++ [t]) = cntTs b hp z done := by rw [cntTs_app, cntTs, cntTs, hl]; show _ + ((if l ∈ takesL b z then t.whole hp else 0) + 0) = _; rw [if_neg hm]; omega
            simp [hm]
            refine hN _ _ ⟨done ++ [t], rest, some (.int (t.whole hp)), some (.str l), some (.int (done.length : Nat)), some t.enc, some (.int (t.cnt b hp)), by rw [e1]; simp, by simp, ?_, rfl⟩
            rw [ew, ec]
end DL
namespace DL
open PySem PySem.Spec PyProof.Rows L2
theorem ask_valued {b : Book} {hp : Heap'} {t : Tree} {p : Addr} {h : Hv} {Q : PV} {E : PF} (wf : WFB b) (tk : TrOk b hp t) (hd : t.ht < 24) (sz : t.size ≤ 900) (gp : h p = some (.lst [])) (q : Q (.tup [.int (t.whole hp), .int (t.cnt b hp), encO (t.land b hp)]) (put h p (.lst ((t.rows b hp []).map encRow)))) : S_valued [encB b, encH hp, t.enc, .tup [], .ref p] h Q E :=
  ⟨b, hp, t, [], p, [], rfl, wf, tk, hd, by simp; omega, gp, by simp; omega, q⟩
theorem bo_counts_as (N : List Str) (hN : N.length = 3) : ∀ as h Q E, as.length = 3 → S_counts_as as h Q E → den_counts_as (startA N as) h (endsR Q) (RX E) := by
  rintro as h Q E - ⟨b, hp, t, rfl, wf, tk, hd, sz, q⟩
  unfold den_counts_as
  simp only [startA, hN]
  simp only [sSet, sFor, sIf, sRet, sExpr, sPar, sAsg, sSeq, sNext, sAug, dIt, dTup, dLst, dLstH, dCB, dCall, dCallK, dBin, dUn, dTest, dChain, dIfE, aCons, aNil, dVar, dC, dTruth, dNot, dAnd, dOr, vAnd, vOr, vNot, dBM, dSl, dRev, oSome, oNone]
  simp
  intro p hp'
  refine ask_valued wf tk hd sz put_same ?_
  rw [put_put]
  simp [atI, ixN]
  exact RT.less (Lss.put hp' (by simp)) q
theorem bo_counting_worth (N : List Str) (hN : N.length = 3) : ∀ as h Q E, as.length = 3 → S_counting_worth as h Q E → den_counting_worth (startA N as) h (endsR Q) (RX E) := by
  rintro as h Q E - ⟨b, hp, t, rfl, wf, tk, hd, sz, q⟩
  unfold den_counting_worth
  simp only [startA, hN]
  simp only [sSet, sFor, sIf, sRet, sExpr, sPar, sAsg, sSeq, sNext, sAug, dIt, dTup, dLst, dLstH, dCB, dCall, dCallK, dBin, dUn, dTest, dChain, dIfE, aCons, aNil, dVar, dC, dTruth, dNot, dAnd, dOr, vAnd, vOr, vNot, dBM, dSl, dRev, oSome, oNone]
  simp
  intro p hp'
  refine ask_valued wf tk hd sz put_same ?_
  rw [put_put]
  simp [atI, ixN]
  exact RT.less (Lss.put hp' (by simp)) q
theorem bo_all_counts (N : List Str) (hN : N.length = 4) : ∀ as h Q E, as.length = 3 → S_all_counts as h Q E → den_all_counts (startA N as) h (endsR Q) (RX E) := by
  rintro as h Q E - ⟨b, hp, t, rfl, wf, tk, hd, sz, q⟩
  unfold den_all_counts
  simp only [startA, hN]
  refine seq_o fun K hK => ?_
  simp only [sSet, sFor, sIf, sRet, sExpr, sPar, sAsg, sSeq, sNext, sAug, dIt, dTup, dLst, dLstH, dCB, dCall, dCallK, dBin, dUn, dTest, dChain, dIfE, aCons, aNil, dVar, dC, dTruth, dNot, dAnd, dOr, vAnd, vOr, vNot, dBM, dSl, dRev, oSome, oNone]
  simp
  intro p hp'
  subst hK
  refine seq_o fun K hK => ?_
  simp only [sSet, sFor, sIf, sRet, sExpr, sPar, sAsg, sSeq, sNext, sAug, dIt, dTup, dLst, dLstH, dCB, dCall, dCallK, dBin, dUn, dTest, dChain, dIfE, aCons, aNil, dVar, dC, dTruth, dNot, dAnd, dOr, vAnd, vOr, vNot, dBM, dSl, dRev, oSome, oNone]
  simp
  refine ask_valued wf tk hd sz put_same ?_
  rw [put_put]
  subst hK
  simp only [sSet, sFor, sIf, sRet, sExpr, sPar, sAsg, sSeq, sNext, sAug, dIt, dTup, dLst, dLstH, dCB, dCall, dCallK, dBin, dUn, dTest, dChain, dIfE, aCons, aNil, dVar, dC, dTruth, dNot, dAnd, dOr, vAnd, vOr, vNot, dBM, dSl, dRev, oSome, oNone]
  simp [put_same]
  exact RT.less (Lss.put hp' (by simp)) q
theorem at_node {z : Str} {ts : List Tree} {i : Int} {path : List Int} {u : Tree} (h : (Tree.node z ts).at (i :: path) = some u) : 0 ≤ i ∧ ∃ (hk : i.toNat < ts.length), (ts[i.toNat]).at path = some u := by
  rw [Tree.at] at h
  split at h
  · rename_i h0
    refine ⟨h0, ?_⟩
    split at h
    · rename_i v hv
      obtain ⟨hk, e⟩ := List.getElem?_eq_some_iff.mp hv
      exact ⟨hk, by rw [e]; exact h⟩
    · cases h
  · cases h
theorem at_leaf {n i : Int} {path : List Int} {u : Tree} (h : (Tree.leaf n).at (i :: path) = some u) : False := by
  rw [Tree.at] at h; cases h
theorem bo_tree_at (N : List Str) (hN : N.length = 3) : ∀ as h Q E, as.length = 2 → S_tree_at as h Q E → den_tree_at (startA N as) h (endsR Q) (RX E) := by
  rintro as h Q E - ⟨t, u, path, rfl, ha, q⟩
  have q := RT.same q
  unfold den_tree_at
  simp only [startA, hN]
  refine seq_o fun K hK => ?_
  refine for_o fun dd hdd => ?_
  simp only [sSet, sFor, sIf, sRet, sExpr, sPar, sAsg, sSeq, sNext, sAug, dIt, dTup, dLst, dLstH, dCB, dCall, dCallK, dBin, dUn, dTest, dChain, dIfE, aCons, aNil, dVar, dC, dTruth, dNot, dAnd, dOr, vAnd, vOr, vNot, dBM, dSl, dRev, oSome, oNone]
  simp
  subst hdd
  refine for_ind (fun vs ρ h' => ∃ (t : Tree) (rest : List Int) (x2 : Option Val), vs = rest.map .int ∧ t.at rest = some u ∧ ρ = [some t.enc, some (.tup (path.map .int)), x2] ∧ h' = h) ?_ ?_ _ _ _ ⟨t, path, none, rfl, ha, rfl, rfl⟩
  · rintro ρ h' ⟨t, rest, x2, e1, ha, rfl, rfl⟩
    have : rest = [] := by cases rest with
      | nil => rfl
      | cons _ _ => cases e1
    subst this
    rw [Tree.at] at ha
    cases ha
    refine ⟨trivial, ?_⟩
    dsimp only
    subst hK
    simp only [sSet, sFor, sIf, sRet, sExpr, sPar, sAsg, sSeq, sNext, sAug, dIt, dTup, dLst, dLstH, dCB, dCall, dCallK, dBin, dUn, dTest, dChain, dIfE, aCons, aNil, dVar, dC, dTruth, dNot, dAnd, dOr, vAnd, vOr, vNot, dBM, dSl, dRev, oSome, oNone]
    exact q
  · rintro v vs ρ h' ⟨t, rest, x2, e1, ha, rfl, rfl⟩
    cases rest with
    | nil => cases e1
    | cons i rest =>
      rw [List.map_cons, List.cons.injEq] at e1
      obtain ⟨rfl, rfl⟩ := e1
      refine ⟨trivial, _, rfl, fun N hN => ?_⟩
      cases t with
      | leaf n => exact (at_leaf ha).elim
      | node z ts =>
        obtain ⟨h0, hk, hu⟩ := at_node ha
        have hlt : ¬ (ts.length : Int) ≤ i := by omega
        obtain ⟨hk', e⟩ := atI_int (xs := ts.map Tree.enc) h0 (by rw [List.length_map]; omega)
        rw [List.getElem_map] at e
        rw [enc_node]
        refine seq_o fun K hK => ?_
        simp only [sSet, sFor, sIf, sRet, sExpr, sPar, sAsg, sSeq, sNext, sAug, dIt, dTup, dLst, dLstH, dCB, dCall, dCallK, dBin, dUn, dTest, dChain, dIfE, aCons, aNil, dVar, dC, dTruth, dNot, dAnd, dOr, vAnd, vOr, vNot, dBM, dSl, dRev, oSome, oNone]
        simp [atI, ixN, hlt]
        subst hK
        simp only [sSet, sFor, sIf, sRet, sExpr, sPar, sAsg, sSeq, sNext, sAug, dIt, dTup, dLst, dLstH, dCB, dCall, dCallK, dBin, dUn, dTest, dChain, dIfE, aCons, aNil, dVar, dC, dTruth, dNot, dAnd, dOr, vAnd, vOr, vNot, dBM, dSl, dRev, oSome, oNone]
        have ix1 : atI [Val.str z, Val.tup (ts.map Tree.enc)] 1 = some (.tup (ts.map Tree.enc)) := rfl
        simp [ix1, e]
        exact hN _ _ ⟨ts[i.toNat], rest, some (.int i), rfl, hu, rfl, rfl⟩
theorem bo__law_at (N : List Str) (hN : N.length = 3) : ∀ as h Q E, as.length = 2 → S__law_at as h Q E → den__law_at (startA N as) h (endsR Q) (RX E) := by
  rintro as h Q E - ⟨t, u, path, rfl, ha, q⟩
  have q := RT.same q
  unfold den__law_at
  simp only [startA, hN]
  refine seq_o fun K hK => ?_
  refine for_o fun dd hdd => ?_
  simp only [sSet, sFor, sIf, sRet, sExpr, sPar, sAsg, sSeq, sNext, sAug, dIt, dTup, dLst, dLstH, dCB, dCall, dCallK, dBin, dUn, dTest, dChain, dIfE, aCons, aNil, dVar, dC, dTruth, dNot, dAnd, dOr, vAnd, vOr, vNot, dBM, dSl, dRev, oSome, oNone]
  simp
  subst hdd
  refine for_ind (fun vs ρ h' => ∃ (t : Tree) (rest : List Int) (x2 : Option Val), vs = rest.map .int ∧ t.at rest = some u ∧ ρ = [some t.enc, some (.tup (path.map .int)), x2] ∧ h' = h) ?_ ?_ _ _ _ ⟨t, path, none, rfl, ha, rfl, rfl⟩
  · rintro ρ h' ⟨t, rest, x2, e1, ha, rfl, rfl⟩
    have : rest = [] := by cases rest with
      | nil => rfl
      | cons _ _ => cases e1
    subst this
    rw [Tree.at] at ha
    cases ha
    refine ⟨trivial, ?_⟩
    dsimp only
    subst hK
    simp only [sSet, sFor, sIf, sRet, sExpr, sPar, sAsg, sSeq, sNext, sAug, dIt, dTup, dLst, dLstH, dCB, dCall, dCallK, dBin, dUn, dTest, dChain, dIfE, aCons, aNil, dVar, dC, dTruth, dNot, dAnd, dOr, vAnd, vOr, vNot, dBM, dSl, dRev, oSome, oNone]
    exact q
  · rintro v vs ρ h' ⟨t, rest, x2, e1, ha, rfl, rfl⟩
    cases rest with
    | nil => cases e1
    | cons i rest =>
      rw [List.map_cons, List.cons.injEq] at e1
      obtain ⟨rfl, rfl⟩ := e1
      refine ⟨trivial, _, rfl, fun N hN => ?_⟩
      cases t with
      | leaf n => exact (at_leaf ha).elim
      | node z ts =>
        obtain ⟨h0, hk, hu⟩ := at_node ha
        obtain ⟨hk', e⟩ := atI_int (xs := ts.map Tree.enc) h0 (by rw [List.length_map]; omega)
        rw [List.getElem_map] at e
        rw [enc_node]
        simp only [sSet, sFor, sIf, sRet, sExpr, sPar, sAsg, sSeq, sNext, sAug, dIt, dTup, dLst, dLstH, dCB, dCall, dCallK, dBin, dUn, dTest, dChain, dIfE, aCons, aNil, dVar, dC, dTruth, dNot, dAnd, dOr, vAnd, vOr, vNot, dBM, dSl, dRev, oSome, oNone]
        have ix1 : atI [Val.str z, Val.tup (ts.map Tree.enc)] 1 = some (.tup (ts.map Tree.enc)) := rfl
        simp [ix1, e]
        exact hN _ _ ⟨ts[i.toNat], rest, some (.int i), rfl, hu, rfl, rfl⟩
theorem cut_to (vs : List Val) (k : Nat) : cutA vs none (some (k : Int)) = vs.take k := by
  unfold cutA
  rw [HT.sIx_none, HT.sIx_nat]
  show (vs.drop 0).take (min k vs.length - 0) = _
  rw [List.drop_zero, Nat.sub_zero]
  rcases Nat.le_total k vs.length with h | h
  · rw [Nat.min_eq_left h]
  · rw [Nat.min_eq_right h, List.take_length, List.take_of_length_le h]
theorem cut_from (vs : List Val) (k : Nat) : cutA vs (some (k : Int)) none = vs.drop k := by
  unfold cutA
  rw [HT.sIx_none, HT.sIx_nat]
  rcases Nat.le_total k vs.length with h | h
  · rw [Nat.min_eq_left h]
    exact List.take_of_length_le (by rw [List.length_drop]; exact Nat.le_refl _)
  · rw [Nat.min_eq_right h, List.drop_of_length_le h]
    simp
theorem bo_put_at (N : List Str) (hN : N.length = 5) (d : Nat) : ∀ as h Q E, as.length = 3 → SR_put_at (d + 1) as h Q E → den_put_at (SR_put_at d) (startA N as) h (endsR Q) (RX E) := by
  rintro as h Q E - ⟨t, u, f, path, rfl, ha, hd, ok, q⟩
  have q := RT.same q
  unfold den_put_at
  simp only [startA, hN]
  refine seq_o fun K hK => ?_
  cases path with
  | nil =>
    simp only [sSet, sFor, sIf, sRet, sExpr, sPar, sAsg, sSeq, sNext, sAug, dIt, dTup, dLst, dLstH, dCB, dCall, dCallK, dBin, dUn, dTest, dChain, dIfE, aCons, aNil, dVar, dC, dTruth, dNot, dAnd, dOr, vAnd, vOr, vNot, dBM, dSl, dRev, oSome, oNone]
    simpa [Tree.put] using q
  | cons i rest =>
    cases t with
    | leaf n => exact (at_leaf ha).elim
    | node z ts =>
      obtain ⟨h0, hk, hu⟩ := at_node ha
      obtain ⟨tsl, oks⟩ := okN_node ok
      obtain ⟨k, rfl⟩ := Int.eq_ofNat_of_zero_le h0
      have hk : k < ts.length := by simpa using hk
      obtain ⟨hk', e⟩ := atI_int (xs := ts.map Tree.enc) h0 (by rw [List.length_map]; omega)
      rw [List.getElem_map] at e
      have e : atI (ts.map Tree.enc) (k : Int) = some (ts[k]).enc := by simpa using e
      have hu : (ts[k]).at rest = some u := by simpa using hu
      rw [enc_node]
      simp only [sSet, sFor, sIf, sRet, sExpr, sPar, sAsg, sSeq, sNext, sAug, dIt, dTup, dLst, dLstH, dCB, dCall, dCallK, dBin, dUn, dTest, dChain, dIfE, aCons, aNil, dVar, dC, dTruth, dNot, dAnd, dOr, vAnd, vOr, vNot, dBM, dSl, dRev, oSome, oNone]
      simp
      subst hK
      refine seq_o fun K hK => ?_
      simp only [sSet, sFor, sIf, sRet, sExpr, sPar, sAsg, sSeq, sNext, sAug, dIt, dTup, dLst, dLstH, dCB, dCall, dCallK, dBin, dUn, dTest, dChain, dIfE, aCons, aNil, dVar, dC, dTruth, dNot, dAnd, dOr, vAnd, vOr, vNot, dBM, dSl, dRev, oSome, oNone]
      simp [atI_zero]
      subst hK
      refine seq_o fun K hK => ?_
      have ix1 : atI [Val.str z, Val.tup (ts.map Tree.enc)] 1 = some (.tup (ts.map Tree.enc)) := rfl
      have c1 : cutA (ts.map Tree.enc) none (some (k : Int)) = (ts.take k).map Tree.enc := by rw [cut_to, List.map_take]
      have c2 : cutA (ts.map Tree.enc) (some ((k : Int) + 1)) none = (ts.drop (k + 1)).map Tree.enc := by
        have := cut_from (ts.map Tree.enc) (k + 1)
        rw [List.map_drop]
        simpa using this
      have c3 : cutA (.int (k : Int) :: rest.map Val.int) (some 1) none = rest.map .int := cut1 _
      have l1 : min k ts.length + 1 ≤ sizeLine := sl1000 (by omega)
      have l2 : min k ts.length + (1 + (ts.length - (k + 1))) ≤ sizeLine := sl1000 (by omega)
      have l2' : min k ts.length + 1 + (ts.length - (k + 1)) ≤ sizeLine := sl1000 (by omega)
      have mt : ts[k] ∈ ts := List.getElem_mem hk
      simp only [sSet, sFor, sIf, sRet, sExpr, sPar, sAsg, sSeq, sNext, sAug, dIt, dTup, dLst, dLstH, dCB, dCall, dCallK, dBin, dUn, dTest, dChain, dIfE, aCons, aNil, dVar, dC, dTruth, dNot, dAnd, dOr, vAnd, vOr, vNot, dBM, dSl, dRev, oSome, oNone]
      simp [ix1, c1, e, c3]
      refine ⟨ts[k], u, f, rest, rfl, hu, by simpa using hd, oks _ mt, ?_⟩
      simp [c2, l1, l2, l2']
      refine ⟨by decide, ?_⟩
      subst hK
      simp only [sSet, sFor, sIf, sRet, sExpr, sPar, sAsg, sSeq, sNext, sAug, dIt, dTup, dLst, dLstH, dCB, dCall, dCallK, dBin, dUn, dTest, dChain, dIfE, aCons, aNil, dVar, dC, dTruth, dNot, dAnd, dOr, vAnd, vOr, vNot, dBM, dSl, dRev, oSome, oNone]
      simp [atI_zero]
      refine ⟨by decide, ?_⟩
      refine Qv q ?_
      rw [Tree.put]
      have : ts[(k : Int).toNat]? = some ts[k] := by simp [hk]
      rw [this]
      dsimp only
      rw [enc_node]
      have : (ts.set (k : Int).toNat ((ts[k]).put f rest)) = ts.take k ++ (ts[k]).put f rest :: ts.drop (k + 1) := by
        rw [Int.toNat_natCast, List.set_eq_take_append_cons_drop, if_pos hk]
      rw [this]
      simp [List.map_take, List.map_drop]
theorem ask_num {v : Val} {lo hi : Int} {h : Hv} {Q : PV} {E : PF} (o : okD v = true) (q : Q (.bl (isNum v lo hi)) h) : S_is_number [v, .int lo, .int hi] h Q E := ⟨v, lo, hi, rfl, o, q⟩
theorem fIsN_enc {t : Tree} {h : Hv} {Q : PV} : fIsN t.enc .non h Q = Q (.bl false) h := by
  cases t with
  | leaf n => rw [Tree.enc]; rfl
  | node z ts => rw [enc_node]; rfl
theorem encH_app {hp : Heap'} {x : Int × Option Str} : encH (hp ++ [x]) = .tup (hp.map encR ++ [encR x]) := by unfold encH; rw [List.map_append]; rfl
theorem bo_as_one (N : List Str) (hN : N.length = 9) : ∀ as h Q E, as.length = 4 → S_as_one as h Q E → den_as_one (startA N as) h (endsR Q) (RX E) := by
  rintro as h Q E - ⟨b, hp, t, u, path, rfl, wf, tk, ha, uh, us, pl, pr, h8, ok, q⟩
  unfold den_as_one
  simp only [startA, hN]
  refine seq_o fun K hK => ?_
  generalize hd : dCB fAll _ = dn
  revert dn
  refine opq fun dn hd => ?_
  simp only [sSet, sFor, sIf, sRet, sExpr, sPar, sAsg, sSeq, sNext, sAug, dIt, dTup, dLst, dLstH, dCB, dCall, dCallK, dBin, dUn, dTest, dChain, dIfE, aCons, aNil, dVar, dC, dTruth, dNot, dAnd, dOr, vAnd, vOr, vNot, dBM, dSl, dRev, oSome, oNone]
  simp
  subst hd
  refine all_lcT (ok := fun _ => True) path .int (fun i => isNum (.int i) 0 8) (fun R r => by simp only [sSet, sFor, sIf, sRet, sExpr, sPar, sAsg, sSeq, sNext, sAug, dIt, dTup, dLst, dLstH, dCB, dCall, dCallK, dBin, dUn, dTest, dChain, dIfE, aCons, aNil, dVar, dC, dTruth, dNot, dAnd, dOr, vAnd, vOr, vNot, dBM, dSl, dRev, oSome, oNone]; simpa using r) (fun _ _ => trivial) (sl1000 (by omega)) (fun i hi => ⟨_, rfl, fun h' Q' _ q' => ?_⟩) ?_
  · simp only [sSet, sFor, sIf, sRet, sExpr, sPar, sAsg, sSeq, sNext, sAug, dIt, dTup, dLst, dLstH, dCB, dCall, dCallK, dBin, dUn, dTest, dChain, dIfE, aCons, aNil, dVar, dC, dTruth, dNot, dAnd, dOr, vAnd, vOr, vNot, dBM, dSl, dRev, oSome, oNone]
    simp
    exact ask_num rfl q'
  have : (path.all fun i => isNum (.int i) 0 8) = true := by
    rw [List.all_eq_true]
    intro i hi
    have := pr i hi
    simp [isNum, this]
  rw [this]
  simp
  subst hK
  refine seq_o fun K hK => ?_
  simp only [sSet, sFor, sIf, sRet, sExpr, sPar, sAsg, sSeq, sNext, sAug, dIt, dTup, dLst, dLstH, dCB, dCall, dCallK, dBin, dUn, dTest, dChain, dIfE, aCons, aNil, dVar, dC, dTruth, dNot, dAnd, dOr, vAnd, vOr, vNot, dBM, dSl, dRev, oSome, oNone]
  simp
  refine ⟨t, u, path, rfl, ha, ?_⟩
  subst hK
  refine seq_o fun K hK => ?_
  simp only [sSet, sFor, sIf, sRet, sExpr, sPar, sAsg, sSeq, sNext, sAug, dIt, dTup, dLst, dLstH, dCB, dCall, dCallK, dBin, dUn, dTest, dChain, dIfE, aCons, aNil, dVar, dC, dTruth, dNot, dAnd, dOr, vAnd, vOr, vNot, dBM, dSl, dRev, oSome, oNone]
  simp [↓fIsN_enc]
  subst hK
  refine seq_o fun K hK => ?_
  have h8' : ((hp.length : Int) == 8) = false := by rw [beq_eq_false_iff_ne]; omega
  have lh : ∀ {h : Hv} {Q : PV}, Q (.int (hp.length : Nat)) h → fLen [encH hp] h Q := fun {h Q} q => by simpa [encH] using q
  simp only [sSet, sFor, sIf, sRet, sExpr, sPar, sAsg, sSeq, sNext, sAug, dIt, dTup, dLst, dLstH, dCB, dCall, dCallK, dBin, dUn, dTest, dChain, dIfE, aCons, aNil, dVar, dC, dTruth, dNot, dAnd, dOr, vAnd, vOr, vNot, dBM, dSl, dRev, oSome, oNone]
  simp only [List.getElem?_cons_zero, List.getElem?_cons_succ]
  refine lh ?_
  simp [h8']
  subst hK
  refine seq_o fun K hK => ?_
  simp only [sSet, sFor, sIf, sRet, sExpr, sPar, sAsg, sSeq, sNext, sAug, dIt, dTup, dLst, dLstH, dCB, dCall, dCallK, dBin, dUn, dTest, dChain, dIfE, aCons, aNil, dVar, dC, dTruth, dNot, dAnd, dOr, vAnd, vOr, vNot, dBM, dSl, dRev, oSome, oNone]
  simp only [List.getElem?_cons_zero, List.getElem?_cons_succ]
  refine ⟨by decide, by decide, fun p hp' => ⟨rfl, ask_valued wf tk uh us put_same ?_⟩⟩
  rw [put_put]
  simp
  subst hK
  simp only [sSet, sFor, sIf, sRet, sExpr, sPar, sAsg, sSeq, sNext, sAug, dIt, dTup, dLst, dLstH, dCB, dCall, dCallK, dBin, dUn, dTest, dChain, dIfE, aCons, aNil, dVar, dC, dTruth, dNot, dAnd, dOr, vAnd, vOr, vNot, dBM, dSl, dRev, oSome, oNone]
  have s9 : hp.length + 1 ≤ sizeLine := sl1000 (by omega)
  simp [encH, s9]
  refine ⟨by decide, by decide, t, u, .leaf hp.length, path, by rw [Tree.enc], ha, pl, ok, by decide, ?_⟩
  rw [encH_app] at q
  exact RT.less (Lss.put hp' (by simp)) q
end DL
namespace DL
open PySem PySem.Spec PyProof.Rows L2

/-! ### an exception that was caught stays known -/
section
variable {X : Cx} {pins : List (Addr × Obj)} {σ : L2.St} {H : Hp} {s : Shared}
/-- the object at a stands -/
def Thr (a : Addr) : Heap → Prop := fun h => ∃ o, h.get? a = some o
theorem inv_track {a : Addr} {oe : Obj} {vs : Array Value} (I : Inv X ((a, oe) :: pins) σ H s) (hd : oe.data = .fields vs) (h0 : X.s_0.heap.get? a = none) (hp : ∀ p ∈ X.pn ++ pins, p.1 ≠ a) : Inv X pins σ (upd H a (.frz oe (.ext (Thr a)))) s := by
  obtain ⟨ha, na, nL, nF, _⟩ := I.pin (a, oe) (List.mem_append_right _ List.mem_cons_self)
  have ne : ∀ {b : Addr} {o : HO}, H b = some o → b ≠ a := fun e => ne_of_none e na
  refine ⟨I.ok, I.os, I.bare, ⟨I.base.keep, I.base.slot, fun b o e n hx => ?_, I.base.there, fun b xs e => ?_, fun b o u e => ?_, fun b ps e => ?_⟩, I.loc, I.cell, ?_, fun x c e => ?_, fun p q => ?_, fun b o e => ?_, I.len⟩
  · have : b ≠ a := fun z => by rw [z, h0] at e; cases e
    rw [upd_ne this]; exact I.base.free b o e n hx
  · have := I.base.tups b xs e
    rw [upd_ne (ne this)]; exact this
  · have := I.base.frzs b o u e
    rw [upd_ne (ne this)]; exact this
  · obtain ⟨m, this⟩ := I.base.tbls b ps e
    exact ⟨m, by rw [upd_ne (ne this)]; exact this⟩
  · rw [upd_ne (Ne.symm nL)]; exact I.free
  · obtain ⟨w, o, z, d⟩ := I.cell x c e
    have : c ≠ a := fun q => by
      have ha : s.heap.get? a = some oe := ha
      rw [q, ha] at z; cases z; rw [hd] at d; cases d
    rw [upd_ne this]; exact I.freeC x c e
  · have m : p ∈ X.pn ++ (a, oe) :: pins := by
      rcases List.mem_append.mp q with z | z
      · exact List.mem_append_left _ z
      · exact List.mem_append_right _ (List.mem_cons_of_mem _ z)
    have := I.pin p m
    rw [upd_ne (hp p q)]; exact this
  · by_cases hb : b = a
    · subst hb
      rw [upd_same] at e
      cases e
      exact ⟨ha, ⟨oe, ha⟩, ⟨oe, ha⟩, fun h1 h2 ⟨o, e⟩ k => ⟨o, k o e⟩⟩
    · rw [upd_ne hb] at e
      exact (I.hok b o e).stay (fun _ _ _ z => z) (fun c z => by rw [upd_ne (ne z)]; exact z) fun c xs z => by rw [upd_ne (ne z)]; exact z
end

/-- what the clause 'except x as n: ..' wishes of an exception of the body; what was caught stays known -/
def wKeep (K : PySem.W.Frag) (c : Value) (i n : Nat) (ts : Addr → TS) (D : Ends) : WX := fun cls d σ H =>
  PySem.W.exmOne K cls c = some true ∧ ∀ a oe vs, H a = none → σ.length = n → L2.Zc cls d oe → oe.data = .fields vs → ts a { nx := fun σ' H' => H' a = none → D.nx (σ'.set i none) (upd H' a (.frz oe (.ext (Thr a)))), rt := fun _ _ => False, bk := fun _ _ => False, ct := fun _ _ => False } (σ.set i (some (.ref a))) H
section
variable {X : Cx} {x n : Str} {c : Value} {i : Nat} {body suite : List Stmt} {b₀ : Stmt} {np pos pos' : Pos} {tb : WX → TS} {ts : Addr → TS}
theorem ps_try_keep (hs : X.stack = X.env :: X.outer) (hf : X.env.frame = some X.env.locals) (hN : X.N.Nodup) (hi : X.N[i]? = some n) (hln : X.env.kindOf n = some .local) (hex : X.ex = []) (hc : Names X x c)
    (hb : ∀ (W : WX) (pn : List (Addr × Obj)) (xe : Value → Shared → Prop), Takes (X.tr pn xe) W → PassesOwn (model X.prog X.w) X.A X.env xe → PSs (X.tr pn xe) body (tb W))
    (hsu : ∀ (a : Addr) (oe : Obj) (pn : List (Addr × Obj)), PSs (X.suite a ((a, oe) :: pn)) (b₀ :: suite) (ts a)) :
    PS X (.Try body [.ExceptHandler (some (.Name x np)) (some n) (b₀ :: suite) pos'] [] [] pos) (fun D σ H => tb (wKeep X.K c i X.N.length ts D) D σ H) := by
  refine ⟨fun pins s σ H D I h => ?_⟩
  have ok := I.ok
  have hfr : X.A.frames = some (X.env :: X.outer) := by rw [ok.frames, hs]
  have hloc : Loc X.env.scope n := .inl hln
  refine wpAny_Try_except ?_
  refine wpAny_mono ((hb (wKeep X.K c i X.N.length ts D) (X.pn ++ pins) (fun e s₁ => wpAny (model X.prog X.w) X.A (noteFrame e X.env) (fun _ s₂ => wpAny (model X.prog X.w) X.A (setFlight e none) (fun _ s₃ =>
    wpAny (model X.prog X.w) X.A (handleBy e X.env [.ExceptHandler (some (.Name x np)) (some n) (b₀ :: suite) pos']) (SP X pins D) X.xe s₃) X.xe s₂) X.xe s₁) (fun u s' xx => ?_) PassesOwn.looking).run [] s σ H D (I.toTry _) h) (fun f s1 hsp => ?_) (fun e s1 he => he)
  · -- the catch
    obtain ⟨a, B, sI, pins', σ', H', cls, d, rfl, J', nb, up, sky, na, os, ag, hb1, hyes⟩ := xx
    have J : Inv X pins σ' H' sI := J'.ofTry ok
    have sky' : Sky B (X.env :: X.outer) a (L2.Zc cls d) X.env.locals s'.heap := by rw [← hs]; exact sky
    show wpAny (model X.prog X.w) X.A (noteFrame (.ref a) X.env) _ _ _
    refine Sky.land Zc.steady hfr hf sky' fun h3 fl3 up3 => ?_
    have J3 : Inv X pins σ' H' { s' with heap := h3 } := J.landed nb fl3.1 (up.trans up3) os ag
    obtain ⟨oe3, vs3, he3, hz3, hd3⟩ := fl3.there
    have notFr : ∀ {h : Heap} {o : Obj} {vs : Array Value}, h.FunFrames B (X.env :: X.outer) → h.get? a = some o → o.data = .fields vs → a ∉ frs (X.env :: X.outer) := fun {h o vs} ff e dd hm => by
      obtain ⟨_, o', e', hnf⟩ := ff.mem hm
      rw [e] at e'; cases e'
      exact hnf _ dd
    have nfr := notFr fl3.2.2.1 he3 hd3
    have nL : a ≠ X.env.locals := fun z => nfr (List.mem_filterMap.mpr ⟨X.env, List.mem_cons_self, by rw [hf, z]⟩)
    have nF : a ∉ X.fs := fun hm => by
      obtain ⟨e, he, q⟩ := List.mem_filterMap.mp hm
      exact nfr (List.mem_filterMap.mpr ⟨e, List.mem_cons_of_mem _ he, q⟩)
    have nB : B.get? a = none := fl3.2.1
    have nS : ∀ b o, sI.heap.get? b = some o → b ∉ frs X.stack → b ≠ a := fun b o e hb z => by
      have q := nb b o e hb
      rw [z, nB] at q; cases q
    have nfr' : a ∉ frs X.stack := by rw [hs]; exact nfr
    have n0 : X.s_0.heap.get? a = none := by
      cases q : X.s_0.heap.get? a with
      | none => rfl
      | some o =>
        obtain ⟨o', e⟩ := J.base.there a o q (by rw [hex]; simp)
        exact absurd rfl (nS a o' e nfr')
    have nP : ∀ p ∈ X.pn ++ pins, p.1 ≠ a := fun p hp => by
      obtain ⟨e, _, l, f, _⟩ := J.pin p hp
      refine nS p.1 p.2 e fun hm => ?_
      rcases List.mem_cons.mp (J.stkSub _ hm) with z | z
      · exact l z
      · exact f z
    have S3 := J3.suite he3 hd3 na nL nF
    refine wpAny_handleBy_cons (codeAny_handlers_test ?_) (by intro q; cases q)
    have LT : PySem.W.Looks (model X.prog X.w) h3 (typeOf (.ref a)) cls := fun A Q E s k q => wpAny_typeOf_ref (k _ _ he3) (by rw [hz3.1]; exact q)
    have LM := PySem.W.exm_one (M := model X.prog X.w) (J3.kIn) LT hb1
    have test : ∀ {Q : Value → Shared → Prop} {E : Value → Shared → Prop}, Q c { s' with heap := h3 } → wpAny (model X.prog X.w) (X.A.mark (some (.ref a))) (eval (.Name x np) X.env) Q E { s' with heap := h3 } := fun {Q E} q => by
      obtain ⟨hg, hdbg, hm | ⟨hm, hv, hnn⟩⟩ := hc
      · exact ld_glob (X := X.suite a ((a, oe3) :: (X.pn ++ pins))) S3 hg hm q hdbg
      · exact ld_blt (X := X.suite a ((a, oe3) :: (X.pn ++ pins))) S3 hg hm hv q hnn hdbg
    refine test (LM.here ?_)
    refine codeAny_handlers_suite_as ?_
    refine HandSPX.lands_againZ fl3 fun h4 fl4 up4 => ?_
    have J4 : Inv X pins σ' H' { s' with heap := h4 } := J.landed nb fl4.1 ((up.trans up3).trans up4) os ag
    obtain ⟨oe4, vs4, he4, hz4, hd4⟩ := fl4.there
    have S4 := J4.suite he4 hd4 na nL nF
    refine store_ok (X := X.suite a ((a, oe4) :: (X.pn ++ pins))) (v := .ref a) S4 hN hi hloc rfl (fun s5 S5 => ?_) (.inr hln)
    refine wpAny_mono ((hsu a oe4 (X.pn ++ pins)).run [] s5 _ H' _ S5 (hyes a oe4 vs4 na J.len hz4 hd4)) (fun f s6 hsp => ?_) (fun _ _ z => False.elim z)
    cases f with
    | next =>
      obtain ⟨σ6, H6, S6, q6⟩ := hsp
      have pa := S6.pin (a, oe4) (List.mem_append_left _ List.mem_cons_self)
      have S7 : Inv X ((a, oe4) :: pins) σ6 H6 s6 := (S6.unsuite ok).pins_of fun p hp => by
        rcases List.mem_cons.mp hp with z | z
        · rw [z]; exact pa
        · exact (S6.unsuite ok).pin p (List.mem_append_right _ z)
      exact gone_ok S7 hN hi hln fun s7 J7 => ⟨_, _, inv_track J7 hd4 n0 nP, q6 pa.2.1⟩
    | brk =>
      obtain ⟨σ6, H6, S6, q6⟩ := hsp
      exact q6.elim
    | cont =>
      obtain ⟨σ6, H6, S6, q6⟩ := hsp
      exact q6.elim
    | ret u =>
      obtain ⟨v6, σ6, H6, S6, r6, q6⟩ := hsp
      exact q6.elim
  · cases f with
    | next =>
      obtain ⟨σ', H', J', q⟩ := hsp
      exact wpAny_execs_nil ⟨σ', H', J'.ofTry ok, q⟩
    | brk =>
      obtain ⟨σ', H', J', q⟩ := hsp
      exact ⟨σ', H', J'.ofTry ok, q⟩
    | cont =>
      obtain ⟨σ', H', J', q⟩ := hsp
      exact ⟨σ', H', J'.ofTry ok, q⟩
    | ret u =>
      obtain ⟨v, σ', H', J', r, q⟩ := hsp
      exact ⟨v, σ', H', J'.ofTry ok, r, q⟩
end

/-! ### isinstance(e, c), e an exception that was caught -/
def rIsK (K : PySem.W.Frag) : List V → Hp → VK → Prop := fun xs H Q => ∃ (a D : Addr) (c : V) (cv : Value) (oe : Obj) (φ : Heap → Prop) (b : Bool), xs = [.ref a, c] ∧ H a = some (.frz oe (.ext φ)) ∧ L2.Zc (.ref D) none oe ∧ (∃ vs, oe.data = .fields vs) ∧ ExcC K D ∧ (∀ u, L2.RelV c u → u = cv) ∧ PySem.W.kitOne K (.ref D) cv = some b ∧ Q (.bl b) H
theorem call_isK {X : Cx} : CallR X (.builtin "isinstance") (rIsK X.K) := by
  intro pins s σ H xs us Q I r h
  obtain ⟨a, D, c, cv, oe, φ, b, rfl, ha, hz, hf, C, hcv, e, q⟩ := h
  cases r with
  | cons rx rr =>
    cases rr with
    | cons rt rr =>
      cases rr
      cases rx
      have ec := hcv _ rt
      subst ec
      obtain ⟨hget, _⟩ := I.hok a _ ha
      obtain ⟨vs, hv⟩ := hf
      have J : PySem.W.InstAt s.heap a oe D none := by
        obtain ⟨oc, od, oda, osl⟩ := oe
        obtain ⟨h1, h2⟩ := hz
        dsimp only at h1 h2 hv
        subst h1 h2 hv
        exact ⟨hget, rfl, rfl, trivial⟩
      exact PySem.W.kia_one (PySem.W.handS_kitx_exc C.hg C.hk C.hs C.hd C.ha C.hn C.ht C.hm) I.kIn J e (fun z => nomatch z) fun tk => ⟨.bl b, H, I.kept (t' := tk) fun _ _ z => z, rfl, q⟩
end DL
namespace DL
open PySem PySem.Spec PyProof.Rows L2

/-! ### isinstance of what was caught -/
def cvOf : Val → Option Value
  | .ref C => some (.ref C)
  | .ty n => some (.type n)
  | _ => none
def fIsK (K : PySem.W.Frag) : FA := fun vs h Q => match vs with
  | [.ref a, w] => (match h a with
    | some (.exc D) => ExcC K D ∧ ∃ b cv, cvOf w = some cv ∧ PySem.W.kitOne K (.ref D) cv = some b ∧ Q (.bl b) h
    | _ => False)
  | _ => False
theorem cl_isK {K : PySem.W.Frag} : CaL K (fIsK K) (rIsK K) := fun vs xs h H Q' Q r rs q c => by
  unfold fIsK at q
  split at q
  · rename_i a w
    obtain ⟨x, y, e, rv, rw'⟩ := rvs2 rs
    rw [RV] at rv
    split at q
    · rename_i D hD
      obtain ⟨oe, φ, e1, z, f⟩ := r a _ hD
      obtain ⟨C, b, cv, ec, ek, q⟩ := q
      refine ⟨a, D, y, cv, oe, φ, b, by rw [e, rv], e1, z, f, C, ?_, ek, c.val r rv_bl q⟩
      intro u hu
      unfold cvOf at ec
      split at ec
      · rw [RV] at rw'; subst rw'; cases ec; exact hu
      · rw [RV] at rw'; subst rw'; cases ec; exact hu
      · cases ec
    · exact q.elim
  · exact q.elim

/-! ### d.update(e) -/
section
variable {X : Cx}
def rUpd : V → List V → Hp → VK → Prop := fun x vs H Q => ∃ a b kvs more, x = .ref a ∧ vs = [.ref b] ∧ a ≠ b ∧ H a = some (.dK kvs) ∧ H b = some (.dK more) ∧ kvs.length + more.length ≤ sizeLine ∧ Q .non (upd H a (.dK (mergeK kvs more)))
theorem mt_update : MtR X "dict.update" rUpd := by
  intro pins s σ H x vs v us Q I rx rv h
  obtain ⟨a, b, kvs, more, rfl, rfl, hab, hA, hB, hz, q⟩ := h
  cases rx
  obtain ⟨u, rfl, ru⟩ := rv.one
  cases ru
  obtain ⟨z, hd, vs1, r1, dd⟩ := dk_of I.hok hA
  obtain ⟨z2, hd2, vs2, r2, dd2⟩ := dk_of I.hok hB
  refine call_meetsIn F.slot_dict_update dd.typeIs F.entry_dict_update (F.args_dict_update_2 _ _) (meets_dict_update (mixKind X.prog X.w) a b hab hd2) ⟨vs1, vs2, dd, dd2, by rw [← r1.length, ← r2.length]; exact hz, fun h' dd' _ hs => ⟨.non, _, ?_, rfl, q⟩⟩
  have he : ∃ q, h'.get? a = some q := let ⟨q, _, _, hq, _⟩ := dd'; ⟨q, hq⟩
  exact d_write I (by rw [hA]; exact True.intro) hs he (dk_new (by have := length_mergeK more kvs; omega) hd (r2.merge r1) dd')
end
def fUpd : FM := fun v ws h Q => match v, ws with
  | .ref a, [.ref b] => (match h a, h b with
    | some (.dK kvs), some (.dK more) => a ≠ b ∧ kvs.length + more.length ≤ sizeLine ∧ Q .non (put h a (.dK (mergeA kvs more)))
    | _, _ => False)
  | _, _ => False
theorem ml_update {K : PySem.W.Frag} : MtL K fUpd rUpd := fun v ws x ys h H Q' Q r rv rs q c => by
  unfold fUpd at q
  split at q
  · rename_i a b
    obtain ⟨y, e, rw'⟩ := rvs1 rs
    rw [RV] at rv rw'
    split at q
    · rename_i kvs more h1 h2
      obtain ⟨xs, e1, r1⟩ := r a _ h1
      obtain ⟨ys, e2, r2⟩ := r b _ h2
      have nb : Ob.dK kvs ≠ .busy := fun z => nomatch z
      have s : Step h H (put h a (.dK (mergeA kvs more))) (upd H a (.dK (mergeK xs ys))) := Step.write h1 nb
      exact ⟨a, b, xs, ys, rv, by rw [e, rw'], q.1, e1, e2, by rw [← r1.len, ← r2.len]; exact q.2.1, c _ _ _ _ q.2.2 s rv_non (r.write h1 nb ⟨_, upd_same, (merge_rel r2 r1).step s⟩)⟩
    · exact q.elim
  · exact q.elim

/-! ### for k in d: the dict is known from now on, and changed no more -/
def keyV : Key → Val
  | .inl i => .int i
  | .inr x => .str x
def dKeys (de : ED) : ID := fun ρ h Q E => de ρ h (fun v h1 => match v with
  | .ref d => (match h1 d with
    | some (.dK kvs) => ∀ o xs, Q ⟨kvs.map fun p => keyV p.1, fun h2 => h2 d = some (.dF o xs kvs)⟩ (put h1 d (.dF o xs kvs))
    | some (.dF o xs kvs) => Q ⟨kvs.map fun p => keyV p.1, fun h2 => h2 d = some (.dF o xs kvs)⟩ h1
    | _ => False)
  | _ => False) E
theorem RKs.keys {K : PySem.W.Frag} {H : Hp} {h : Hv} : ∀ {kvs : List (Key × Val)} {xs : List (Key × V)}, RKs K H h kvs xs → kvs.map (·.1) = xs.map (·.1)
  | [], xs, r => by rw [show xs = [] from r]; rfl
  | (k, v) :: kvs, xs, r => by
    obtain ⟨y, ys, e, _, r2⟩ := r
    rw [e, List.map_cons, List.map_cons, RKs.keys r2]
theorem itk_rel {K : PySem.W.Frag} {h : Hv} {H : Hp} {d : Addr} {o : Obj} {xs : List (Key × V)} {kvs : List (Key × Val)} : ItRel K ⟨kvs.map fun p => keyV p.1, fun h2 => h2 d = some (.dF o xs kvs)⟩ (Itk d o xs) h H := fun h2 H2 s2 r2 o2 => by
  obtain ⟨e1, rs⟩ := r2 d _ o2
  have hl : (kvs.map fun p => keyV p.1).length = xs.length := by rw [List.length_map, rs.len]
  refine ⟨fun i v hv => ?_, e1, by rw [hl]; exact Nat.le_refl _⟩
  rw [List.getElem?_map] at hv
  obtain ⟨p, hp, ev⟩ := Option.map_eq_some_iff.mp hv
  have hi : i < xs.length := by
    rw [← rs.len]
    exact (List.getElem?_eq_some_iff.mp hp).1
  refine ⟨⟨e1, hi⟩, fun y H3 hy => ?_⟩
  obtain ⟨e3, k, v', hk, ey⟩ := hy
  subst e3
  refine ⟨Step.refl _ _, r2, ?_⟩
  have hk1 : (xs.map (·.1))[i]? = some k := by rw [List.getElem?_map, hk]; rfl
  rw [← rs.keys, List.getElem?_map, hp] at hk1
  have : p.1 = k := Option.some.inj hk1
  rw [← ev, ey, this]
  cases k with
  | inl i => show RV K H3 h2 (.int i) (.int i); rw [RV]
  | inr z => show RV K H3 h2 (.str z) (.str z); rw [RV]
theorem pi_keysL {X : Cx} {tg e : Expr} {td : TE} (he : PE X e td) : PI X tg e (fun σ H R => td σ H fun x H1 => ∃ d kvs, x = .ref d ∧ ((∃ o, H1 d = some (.frz o (.dK kvs)) ∧ R (Itk d o kvs) H1) ∨ (H1 d = some (.dK kvs) ∧ ∀ o, R (Itk d o kvs) (upd H1 d (.frz o (.dK kvs)))))) := by
  refine ⟨fun pins s σ H R I h => ?_⟩
  refine thn (he.run pins s σ H _ I h) fun u s1 ⟨x, H1, I1, rx, d, kvs, ex, q⟩ => ?_
  subst ex
  obtain rfl : u = Value.ref d := rx
  rcases q with ⟨o, hd, q⟩ | ⟨hd, q⟩
  · obtain ⟨hs, hgd, hx, es, ep, vs, hdt, hsz, kv, hm⟩ := I1.frzK hd
    refine iter_keys hs hgd hx hdt (pi_one (tk := s1.toks) I1 _ (turn_keys _ hdt) ⟨_, Heap.get?_push_size _ rfl, rfl, ?_⟩ q)
    rw [hsz] <;> rfl
  · obtain ⟨od, I2⟩ := I1.lock hd True.intro
    obtain ⟨hs, hgd, hx, es, ep, vs, hdt, hsz, kv, hm⟩ := I2.frzK upd_same
    refine iter_keys hs hgd hx hdt (pi_one (tk := s1.toks) I2 _ (turn_keys _ hdt) ⟨_, Heap.get?_push_size _ rfl, rfl, ?_⟩ (q od))
    rw [hsz] <;> rfl
theorem di_keys {X : Cx} {B : Bs} {tg e : Expr} {de : ED} (he : DE X B e de) : DI X B tg e (dKeys de) :=
  PIi (pi_keysL he) fun σ H R ⟨ρ, h, Q', S, q, C⟩ => ⟨ρ, h, _, S, q, fun v h1 x H1 q1 s1 rv1 r1 => by
    split at q1
    · rename_i d
      rw [RV] at rv1
      split at q1
      · rename_i kvs hk
        obtain ⟨xs, e1, rs⟩ := r1 d _ hk
        refine ⟨d, xs, rv1, .inr ⟨e1, fun o => ?_⟩⟩
        have nb : Ob.dK kvs ≠ .busy := fun z => nomatch z
        have s : Step h1 H1 (put h1 d (.dF o xs kvs)) (upd H1 d (.frz o (.dK xs))) := Step.write hk nb
        exact C _ _ _ _ (q1 o xs) (s1.trans s) (r1.write hk nb ⟨upd_same, rs.step s⟩) itk_rel
      · rename_i o xs kvs hk
        obtain ⟨e1, rs⟩ := r1 d _ hk
        exact ⟨d, xs, rv1, .inl ⟨o, e1, C _ _ _ _ q1 s1 r1 itk_rel⟩⟩
      · exact q1.elim
    · exact q1.elim⟩

/-! ### a class of the program as a value; raise -/
theorem de_gref {X : Cx} {B : Bs} {x : Str} {C : Addr} {pos : Pos} (hg : Gl X x) (hm : X.mg x = some (.ref C)) (hd : (x == ("__debug__" : Str)) = false := by decide) : DE X B (.Name x pos) (dC (.ref C)) :=
  PEi (pe_glob (v := .ref C) hg hm rfl hd) fun σ H Q ⟨ρ, h, Q', S, q, C⟩ => C.val S.r (by rw [RV]) q
/-- a class that can be raised -/
structure XcR (K : PySem.W.Frag) (mg : Str → Option Value) (x : Str) : Prop where
  ex : ∃ C, mg x = some (.ref C) ∧ PySem.W.excIn K C [.type "ValueError", .type "Exception", .type "BaseException", .type "object"] "ValueError.__new__" = true ∧ PySem.W.keepIn K (.ref C) = true ∧ PySem.W.subIn K (.ref C) (.type "BaseException") = some true ∧ PySem.W.typeIn K (.ref C) = some (.type "type")
@[simp] def sRaise (x : Str) : SD := fun ρ h _ E => E x none ρ h
theorem ds_raise {X : Cx} {B : Bs} {x m : Str} {j : Nat} {p p2 pos pos' : Pos} (c : XcR X.K X.mg x) (tk : TakesB X B) (hc : X.calm = true := by rfl) (hg : Gl X x := by rfl) (hdb : (x == ("__debug__" : Str)) = false := by decide) :
    DS X B (.Raise (some (.Call (.Name x p) [.Constant (.str m) j p2] [] pos)) none pos') (sRaise x) := by
  obtain ⟨C, hm, q, k, h1, h2⟩ := c.ex
  exact PSi (ps_raise hc tk (pmk_own PySem.F.excBase_ValueError q hm k (raises_own h1 h2) hg hdb)) fun D σ H ⟨ρ, h, D', S, z, c⟩ => ⟨x, none, ρ, h, hm, S, .inl ⟨rfl, rfl⟩, z⟩
end DL
namespace DL
open PySem PySem.Spec PyProof.Rows L2

/-! ### the table of a def's code objects -/
section
variable {K : PySem.W.Frag} {H H1 : Hp} {h : Hv} {P : Addr} {q : Str}
theorem ro_nt {a : Addr} {o : Ob} (r : RO K H h a o) (n : ∀ q, o ≠ .tab q) {u : HO} (e : H a = some u) : NT u := by
  cases o with
  | lst vs => obtain ⟨_, e1, _⟩ := r; rw [e] at e1; cases e1; exact fun _ z => nomatch z
  | dK vs => obtain ⟨_, e1, _⟩ := r; rw [e] at e1; cases e1; exact fun _ z => nomatch z
  | dT vs => obtain ⟨_, e1, _⟩ := r; rw [e] at e1; cases e1; exact fun _ z => nomatch z
  | ins C fs => obtain ⟨_, _, e1, _⟩ := r; rw [e] at e1; cases e1; exact fun _ z => nomatch z
  | dF o xs kvs => have e1 := r.1; rw [e] at e1; cases e1; exact fun _ z => nomatch z
  | exc C => obtain ⟨_, _, e1, _⟩ := r; rw [e] at e1; cases e1; exact fun _ z => nomatch z
  | tab q => exact absurd rfl (n q)
  | busy =>
    obtain ⟨_, e1, f⟩ := r; rw [e] at e1; cases e1
    rcases f with ⟨_, z⟩ | ⟨_, z⟩ <;> subst z <;> exact fun _ z => nomatch z
theorem ro_noext {a : Addr} {o : Ob} (r : RO K H h a o) {φ : Heap → Prop} : H a ≠ some (.ext φ) := fun e => by
  cases o with
  | lst vs => obtain ⟨_, e1, _⟩ := r; rw [e] at e1; cases e1
  | dK vs => obtain ⟨_, e1, _⟩ := r; rw [e] at e1; cases e1
  | dT vs => obtain ⟨_, e1, _⟩ := r; rw [e] at e1; cases e1
  | ins C fs => obtain ⟨_, _, e1, _⟩ := r; rw [e] at e1; cases e1
  | dF o xs kvs => have e1 := r.1; rw [e] at e1; cases e1
  | exc C => obtain ⟨_, _, e1, _⟩ := r; rw [e] at e1; cases e1
  | tab q => obtain ⟨_, e1, _⟩ := r; rw [e] at e1; cases e1
  | busy =>
    obtain ⟨_, e1, f⟩ := r; rw [e] at e1; cases e1
    rcases f with ⟨_, z⟩ | ⟨_, z⟩ <;> cases z
theorem ro_some {a : Addr} {o : Ob} (r : RO K H h a o) : ∃ u, H a = some u := by
  cases o with
  | lst vs => obtain ⟨_, e1, _⟩ := r; exact ⟨_, e1⟩
  | dK vs => obtain ⟨_, e1, _⟩ := r; exact ⟨_, e1⟩
  | dT vs => obtain ⟨_, e1, _⟩ := r; exact ⟨_, e1⟩
  | ins C fs => obtain ⟨_, _, e1, _⟩ := r; exact ⟨_, e1⟩
  | dF o xs kvs => exact ⟨_, r.1⟩
  | exc C => obtain ⟨_, _, e1, _⟩ := r; exact ⟨_, e1⟩
  | tab q => obtain ⟨_, e1, _⟩ := r; exact ⟨_, e1⟩
  | busy => obtain ⟨_, e1, f⟩ := r; exact ⟨_, e1⟩
end
/-! ### the tables of code objects of several defs -/
structure Tbs (Ts : List (Addr × Str)) (h : Hv) : Prop where
  has : ∀ p ∈ Ts, h p.1 = some (.tab p.2)
  all : ∀ b q, h b = some (.tab q) → (b, q) ∈ Ts
section
variable {K : PySem.W.Frag} {H H1 : Hp} {h : Hv} {Ts : List (Addr × Str)}
theorem Tbs.tabs (t : Tbs Ts h) (r : RH K H h) : LamX.Tabs Ts H := fun p hp => by
  obtain ⟨ps, e, k, z⟩ := r p.1 _ (t.has p hp)
  exact ⟨ps, e, k, fun pos cv hc => let ⟨c, e1, e2, _⟩ := z pos cv hc; ⟨c, e1, e2⟩⟩
theorem Tbs.uniq (t : Tbs Ts h) {P : Addr} {q : Str} (m : (P, q) ∈ Ts) : ∀ p ∈ Ts, p.1 = P → p.2 = q := fun p hp e => by
  have a := t.has p hp
  have b := t.has _ m
  rw [e, b] at a
  cases a
  rfl
theorem Tbs.step (t : Tbs Ts h) (r : RH K H h) (e : LamX.ExtN H H1) (T : LamX.Tabs Ts H1) : RH K H1 h ∧ Step h H h H1 := by
  have s : Step h H h H1 := ⟨fun a o ha hn n => ⟨e a o ha n, hn⟩, fun a o ha hn => ⟨e a o ha (ro_nt (r a _ hn) (fun _ z => nomatch z) ha), hn⟩⟩
  refine ⟨fun a o ha => ?_, s⟩
  have ra := r a o ha
  by_cases n : ∃ q', o = .tab q'
  · obtain ⟨q', rfl⟩ := n
    obtain ⟨ps, e1, k, z⟩ := T (a, q') (t.all a q' ha)
    refine ⟨ps, e1, k, fun pos cv hc => ?_⟩
    obtain ⟨c, e2, e3⟩ := z pos cv hc
    refine ⟨c, e2, e3, ?_⟩
    cases hx : h c with
    | none => rfl
    | some ob =>
      have rc := r c ob hx
      by_cases m : ∃ q', ob = .tab q'
      · obtain ⟨q2, rfl⟩ := m
        obtain ⟨ps2, e4, _⟩ := T (c, q2) (t.all c q2 hx)
        have e4 : H1 c = some (.tbl ps2) := e4
        rw [e4] at e3
        exact absurd (Option.some.inj e3).symm (LamX.codeO_ne _)
      · obtain ⟨u, hu⟩ := ro_some rc
        have := e c u hu (ro_nt rc (fun q' z => m ⟨q', z⟩) hu)
        rw [this] at e3
        rw [Option.some.inj e3] at hu
        exact absurd hu (ro_noext rc)
  · exact ra.stepN s.n fun u hu => e a u hu (ro_nt ra (fun q' z => n ⟨q', z⟩) hu)
theorem Tbs.put {p : Addr} {o : Ob} (x : Tbs Ts h) (e : h p = none) (n : ∀ q, o ≠ .tab q) : Tbs Ts (DL.put h p o) := by
  refine ⟨fun a ha => ?_, fun b q hb => ?_⟩
  · have := x.has a ha
    rw [put_ne (fun z => by rw [z, e] at this; cases this)]; exact this
  · by_cases z : b = p
    · subst z; rw [put_same] at hb; exact absurd (Option.some.inj hb) (n q)
    · rw [put_ne z] at hb; exact x.all b q hb
theorem Tbs.write {p : Addr} {o u : Ob} (x : Tbs Ts h) (e : h p = some u) (nu : ∀ q, u ≠ .tab q) (n : ∀ q, o ≠ .tab q) : Tbs Ts (DL.put h p o) := by
  refine ⟨fun a ha => ?_, fun b q hb => ?_⟩
  · have := x.has a ha
    rw [put_ne (fun z => by rw [z, e] at this; exact nu _ (Option.some.inj this))]; exact this
  · by_cases z : b = p
    · subst z; rw [put_same] at hb; exact absurd (Option.some.inj hb) (n q)
    · rw [put_ne z] at hb; exact x.all b q hb
theorem Tbs.drop {p : Addr} {u : Ob} (x : Tbs Ts h) (e : h p = some u) (nu : ∀ q, u ≠ .tab q) : Tbs Ts (DL.drop h p) := by
  refine ⟨fun a ha => ?_, fun b q hb => ?_⟩
  · have := x.has a ha
    rw [drop_ne (fun z => by rw [z, e] at this; exact nu _ (Option.some.inj this))]; exact this
  · by_cases z : b = p
    · subst z; rw [drop_same] at hb; cases hb
    · rw [drop_ne z] at hb; exact x.all b q hb
end

/-! ### _law_heard(lambda: ..) -/
/-- what is known of the classes, by their names -/
structure HCls (K : PySem.W.Frag) (mg : Str → Option Value) (cs : Str → Addr) (rs : List Str) : Prop where
  mg : ∀ x ∈ (["CountError", "NotOf", "NoLand", "NoPath", "TooMany", "NoClaims", "NoThing", "NoWorth", "BadBook", "NoBack", "NoText"] : List Str), mg x = some (.ref (cs x))
  ec : ∀ x ∈ rs, ExcC K (cs x)
  ex : ∀ x ∈ rs, PySem.W.exmOne K (.ref (cs x)) (.ref (cs "CountError")) = some true
  kt : ∀ x ∈ rs, ∀ y ∈ (["NotOf", "NoLand", "NoPath", "TooMany", "NoClaims", "NoThing", "NoWorth", "BadBook", "NoBack", "NoText"] : List Str), PySem.W.kitOne K (.ref (cs x)) (.ref (cs y)) = some (decide (x = y))
  ve : ∀ x ∈ rs, PySem.W.kitOne K (.ref (cs x)) (.type "ValueError") = some true
  sub : ∀ x ∈ rs, x ∈ (["NoLand", "NoPath", "TooMany", "NoClaims", "NoThing", "NoWorth", "BadBook", "NoBack", "NoText"] : List Str)
/-- how a refusal is told -/
def heardW (x : Str) : Str :=
  if x = "NoLand" then "no land" else if x = "NoPath" then "no path" else if x = "TooMany" then "too many" else if x = "NoClaims" then "no claims" else if x = "NoThing" then "no thing" else if x = "NoWorth" then "no worth" else if x = "BadBook" then "no book" else if x = "NoBack" then "no back" else "no text"
def dHeard (Ts : List (Addr × Str)) (P : Addr) (q : Str) (rs : List Str) (d : ED) : ED := fun ρ h Q E => Tbs Ts h ∧ (P, q) ∈ Ts ∧ d ρ h (fun v h1 => Q (.tup [.str "told", v]) h1) (fun nm pl _ h1 => nm ∈ rs ∧ pl = none ∧ Q (.tup [.str (heardW nm)]) h1)
/-- what it makes of the lambda's reading -/
def TTh (K : PySem.W.Frag) (mg : Str → Option Value) (rs : List Str) : (XK → Hp → VK → Prop) → Hp → VK → Prop := fun tl H Q => ∀ p, H p = none →
  tl (fun c d H' => ∃ nm h', mg nm = some c ∧ d = none ∧ nm ∈ rs ∧ RH K H' h' ∧ ∀ x H2, Step h' H' h' H2 → RV K H2 h' (.tup [.str (heardW nm)]) x → RH K H2 h' → Q x H2) (upd H p (.tup [.non, .non]))
    (fun x H' => ∃ v h1, RV K H' h1 v x ∧ RH K H' h1 ∧ ∀ y H2, Step h1 H' h1 H2 → RV K H2 h1 (.tup [.str "told", v]) y → RH K H2 h1 → Q y H2)
abbrev NH : List Str := ["deed", "refused", "found", "e", "some", "names", "word"]
/-- the tail of _law_heard, by its two ways -/
structure HTail (K : PySem.W.Frag) (cs : Str → Addr) (rs : List Str) (den : SD) : Prop where
  told : ∀ v h D E, D.rt (.tup [.str "told", v]) h → den [none, some .non, some v, none, none, none, none] h D E
  exc : ∀ nm a h D E, nm ∈ rs → h a = none → (∀ h2, Lss h2 h → D.rt (.tup [.str (heardW nm)]) h2) → den [none, some (.ref a), none, none, none, none, none] (put h a (.exc (cs nm))) D E
section
variable {X : Cx} {sg : Scope} {g : Addr} {cdg : Value} {q : Str} {cs : Str → Addr} {rs : List Str} {den : SD} {s1 : Stmt} {rest : List Stmt} {p1 p2 p3 p4 p5 p6 p7 p8 p9 p10 p11 : Pos}
theorem pe_mono {X : Cx} {e : Expr} {t : TE} (p : PE X e t) : PE X e (fun σ H Q => ∃ Qx : VK, t σ H Qx ∧ ∀ x H', Qx x H' → Q x H') :=
  ⟨fun pins s σ H Q I ⟨Qx, h, m⟩ => wpAny_mono (p.run pins s σ H Qx I h) (fun v s' ⟨x, H', I', r, q⟩ => ⟨x, H', I', r, m x H' q⟩) fun e s' z => z⟩
theorem heard_gives (hC : HCls X.K X.mg cs rs) (hT : HTail X.K cs rs den) (hg : sg.names.lookup ("CountError" : Str) = some .globalImplicit) (l1 : sg.names.lookup ("refused" : Str) = some .local) (l2 : sg.names.lookup ("found" : Str) = some .local) (l3 : sg.names.lookup ("e" : Str) = some .local)
    (h1 : ∀ (s : Shared) (H : Hp), PS (cxOf C8.CX0 X.prog X.w X.K X.mg X.base NH "_law_heard" sg g cdg X.A X.stack s H C8.E0).nox s1 (tAsg (tTup (tCons (tC .non) (tCons (tC .non) tNil))) (gTup X.K 2 (gCons (gName 1) (gCons (gName 2) gNil)))))
    (hr : ∀ (s : Shared) (H : Hp) (B : Bs), DSs (cxOf C8.CX0 X.prog X.w X.K X.mg X.base NH "_law_heard" sg g cdg X.A X.stack s H C8.E0).nox B rest den) :
    LamX.GivesTo X NH "_law_heard" sg g cdg (s1 :: .Try [.Assign [.Name "found" p1] (.Call (.Name "deed" p2) [] [] p3) p4] [.ExceptHandler (some (.Name "CountError" p5)) (some "e") [.Assign [.Name "refused" p6] (.Name "e" p7) p8] p9] [] [] p10 :: rest) "deed" q (TTh X.K X.mg rs) := by
  intro f c' s H Q tl act hc h
  have nd : NH.Nodup := by decide +kernel
  have hgl : Gl (cxOf C8.CX0 X.prog X.w X.K X.mg X.base NH "_law_heard" sg g cdg X.A X.stack s H C8.E0).nox "CountError" := hg
  refine ⟨_, pss_cons (h1 s H) (pss_cons (ps_try_keep (X := (cxOf C8.CX0 X.prog X.w X.K X.mg X.base NH "_law_heard" sg g cdg X.A X.stack s H C8.E0).nox) (c := .ref (cs "CountError")) (i := 3)
      (tb := fun W D σ H => ∃ Ech : XK, (∀ cls d σ' H', Ech cls d H' → W cls d σ' H') ∧ σ[0]? = some (some (.ref f)) ∧ H c' = some (LamX.CodeO c' q) ∧ ∃ Qx : VK, tl Ech H Qx ∧ ∀ x H', Qx x H' → D.nx (σ.set 2 (some x)) H')
      (ts := fun _ => tAsg (tVar 3) (gName 1)) rfl rfl nd rfl l3 rfl ⟨hgl, by decide, .inl (hC.mg _ (by decide +kernel))⟩ (fun W pn xe tk _ => ?_) (fun a oe pn => pss_one (ps_set (i := 1) nd rfl (Or.inl l1) (pe_var (i := 3) rfl (Or.inl l3)) rfl (.inr l1))))
    (u := fun D σ H => ∃ B, rdS X.K B den D σ H) ⟨fun pins s' σ H' D I ⟨B, z⟩ => (hr s H B).run pins s' σ H' D I z⟩), ?_⟩
  · refine ⟨fun pins s' σ H' D I h' => ?_⟩
    obtain ⟨Ech, hW, h1, h2, Qx, h3, h4⟩ := h'
    have hp := pe_mono (act W pn xe Ech p2 p3 tk hW)
    have hq := pss_one (ps_set (pos := p4) (pos' := p1) (X := (cxOf C8.CX0 X.prog X.w X.K X.mg X.base NH "_law_heard" sg g cdg X.A X.stack s H C8.E0).nox.tr pn xe) (i := 2) (x := "found") nd rfl (Or.inl l2) hp rfl (.inr l2))
    exact hq.run pins s' σ H' D I ⟨Qx, ⟨h1, h2, h3⟩, h4⟩
  · refine ⟨(show 2 ≤ sizeLine by rw [sizeLine_eq]; omega), fun p hp => ⟨p, [.non, .non], rfl, .of upd_same, rfl, .non, _, rfl, .non, _, rfl, rfl, ?_⟩⟩
    refine ⟨_, fun cls d σ' H' z => ?_, rfl, by rw [upd_ne (ne_of_none hc hp)]; exact hc, _, h p hp, fun x H' z => ?_⟩
    · obtain ⟨nm, h', hm, hd, hin, rH, hQ⟩ := z
      subst hd
      have hm' := hC.mg nm (List.mem_cons_of_mem _ (List.mem_cons_of_mem _ (hC.sub nm hin)))
      rw [hm'] at hm
      cases hm
      refine ⟨hC.ex nm hin, fun a oe vs na hl hz hv => ?_⟩
      have hl : σ'.length = 7 := hl
      refine ⟨.ref a, List.getElem?_set_self (by rw [hl]; decide), fun na' => ?_⟩
      have ea : h' a = none := rH.nof na
      have s1 : Step h' H' (put h' a (.exc (cs nm))) (upd H' a (.frz oe (.ext (Thr a)))) := Step.new na
      have r1 : RH X.K (upd H' a (.frz oe (.ext (Thr a)))) (put h' a (.exc (cs nm))) := rH.new na ⟨oe, _, upd_same, hz, vs, hv⟩
      refine ⟨⟨fun _ _ _ _ => False, put h' a (.exc (cs nm)), upd H' a (.frz oe (.ext (Thr a)))⟩, [none, some (.ref a), none, none, none, none, none], put h' a (.exc (cs nm)), ⟨fun _ _ => False, fun v h2 => v = .tup [.str (heardW nm)] ∧ Lss h2 h', fun _ _ => False, fun _ _ => False⟩, ⟨⟨?_, ?_⟩, r1, Step.refl _ _⟩, hT.exc nm a h' _ _ hin ea fun h2 l => ⟨rfl, l⟩, ?_⟩
      · simp [hl]
      · intro i v e
        have hi : i = 1 ∧ v = .ref a := by
          match i, e with
          | 0, e => simp at e
          | 1, e => simp at e; exact ⟨rfl, e.symm⟩
          | 2, e => simp at e
          | 3, e => simp at e
          | 4, e => simp at e
          | 5, e => simp at e
          | 6, e => simp at e
          | n + 7, e => simp at e
        obtain ⟨rfl, rfl⟩ := hi
        refine ⟨.ref a, ?_, by rw [RV]⟩
        rw [List.getElem?_set_ne (by decide), List.getElem?_set_self (by rw [List.length_set, hl]; decide)]
      · refine ⟨fun _ _ _ _ z => z.elim, fun v h2 x H2 z st rv r2 => ?_, fun _ _ _ _ z => z.elim, fun _ _ _ _ z => z.elim⟩
        obtain ⟨rfl, l⟩ := z
        exact hQ x H2 (s1.trans (st.trans l.step)) (rv.step l.step) (r2.less l.l)
    · obtain ⟨v, h1, rv, rH, hQ⟩ := z
      refine ⟨⟨fun _ _ _ _ => False, h1, H'⟩, [none, some .non, some v, none, none, none, none], h1, ⟨fun _ _ => False, fun w h2 => w = .tup [.str "told", v] ∧ h2 = h1, fun _ _ => False, fun _ _ => False⟩, ⟨⟨rfl, ?_⟩, rH, Step.refl _ _⟩, hT.told v h1 _ _ ⟨rfl, rfl⟩, ?_⟩
      · intro i w e
        match i, e with
        | 0, e => simp at e
        | 1, e => simp at e; subst e; exact ⟨.non, rfl, by rw [RV]⟩
        | 2, e => simp at e; subst e; exact ⟨x, rfl, rv⟩
        | 3, e => simp at e
        | 4, e => simp at e
        | 5, e => simp at e
        | 6, e => simp at e
        | n + 7, e => simp at e
      · refine ⟨fun _ _ _ _ z => z.elim, fun w h2 y H2 z st rw' r2 => ?_, fun _ _ _ _ z => z.elim, fun _ _ _ _ z => z.elim⟩
        obtain ⟨rfl, rfl⟩ := z
        exact hQ y H2 st rw' r2
end
end DL
namespace DL
open PySem PySem.Spec PyProof.Rows L2
abbrev lamQ (n : Str) : Str := (n ++ ".<locals>.") ++ "<lambda>"
abbrev LQ : Str := lamQ "law"
/-- the tables and the classes of the program, by names -/
structure Gx where
  ns : List Str
  T : Str → Addr
  C : Str → Addr
def Gx.Ts (G : Gx) : List (Addr × Str) := G.ns.map fun n => (G.T n, lamQ n)
theorem Gx.mem {G : Gx} {n : Str} (h : n ∈ G.ns) : (G.T n, lamQ n) ∈ G.Ts := List.mem_map.mpr ⟨n, h, rfl⟩
/-- _law_heard stands, and the table at P is the def's own -/
structure Heard (X : Cx) (k : Nat) (P : Addr) (rs : List Str) : Prop where
  ex : ∃ (g c : Addr) (pg : Arguments) (bg : List Stmt) (sg : Scope) (dV kV doc pm cdv ct oc : Value) (an od : Option Addr) (osl : Array (Option Value)), X.mg "_law_heard" = some (.ref g) ∧ PySem.W.keepIn X.K (.ref g) = true ∧
    X.K.lookup g = some ⟨oc, od, .func (PySem.W.fnOf "_law_heard" "_law_heard" pg bg sg dV kV doc pm an cdv ct), osl⟩ ∧ PySem.W.codeIn X.K cdv "_law_heard" = true ∧ L2.Binds X.K (PySem.W.fnOf "_law_heard" "_law_heard" pg bg sg dV kV doc pm an cdv ct) ["deed"] [] ∧ FnScope NH ["deed"] sg ∧ Vis sg "deed" ∧
    LamX.GivesTo X NH "_law_heard" sg g cdv bg "deed" (X.env.qual ++ "<lambda>") (TTh X.K X.mg rs) ∧ LamX.TabB X.base X.mg c P ∧ X.env.code = .ref c ∧ Room (k + 2) X.A
theorem de_heard {X : Cx} {B : Bs} {k : Nat} {Ts : List (Addr × Str)} {P : Addr} {rs : List Str} {params : Arguments} {body : Expr} {scope : Scope} {p lpos pos : Pos} {d : ED} (HH : Heard X k P rs) (L : LamX.LamS X.env.scope scope)
    (hbody : ∀ (A : Around) (outer : List Env) (s : Shared) (H : Hp) (E : XK) (f c' : Addr) (B' : Bs), Room k (A.deeper (LamX.lamEnv X scope s.heap.objs.size f c')) → TakesB (LamX.lamCx X A outer s H E scope f c') B' → DE (LamX.lamCx X A outer s H E scope f c') B' body d)
    (hg : Gl X "_law_heard" := by rfl) (hdef : defaultsOf params X.env = ([], []) := by rfl) (hbind : ∀ (q : Str) (cl : List (Str × Addr)) (pm cv ctv : Value), bindArgs (PySem.W.kla_fn "<lambda>" q params body scope cl pm cv ctv) ⟨[], []⟩ = pure [] := by intros; rfl) :
    DE X B (.Call (.Name "_law_heard" p) [.Lambda params body scope lpos] [] pos) (dHeard Ts P (X.env.qual ++ "<lambda>") rs d) := by
  obtain ⟨g, c, pg, bg, sg, dV, kV, doc, pm, cdv, ct, oc, an, od, osl, hm, hk, lk, hcg, hb, Sg, hva, hG, TB, hcode, hr⟩ := HH.ex
  refine ⟨fun pins s σ H Q I ⟨ρ, h, Q', S, ⟨ot, hin, qd⟩, C⟩ => ?_⟩
  refine (LamX.pe_lamcall (T := Ts) (t := fun E σ H Q => ∃ B' : Bs, (∀ cls dd σ H, wx X.mg X.K B' cls dd σ H → E cls dd H) ∧ rdE X.K B' d σ H Q) hg hm hk lk hcg hb Sg rfl hva hG TB hcode hin (ot.uniq hin) hr L hdef hbind (fun A outer s H E f c' hr' => ?_)).run pins s σ H Q I ⟨ot.tabs S.r, fun H1 eN T1 => ?_⟩
  · refine ⟨fun pins s' σ H' Q I ⟨B', hW, z⟩ => (hbody A outer s H E f c' B' hr' ?_).run pins s' σ H' Q I z⟩
    have tk : Takes (LamX.lamCx X A outer s H E scope f c') (fun cls d _ H => E cls d H) := takes_of rfl rfl rfl rfl
    exact tk.imp fun cls dd σ H hw => hW cls dd σ H hw
  · obtain ⟨r0, s0⟩ := ot.step S.r eN T1
    intro pt hpt
    have s1 := s0.trans (Step.fresh (h := h) (o := .tup [.non, .non]) hpt)
    have r1 := r0.fresh (o := .tup [.non, .non]) hpt
    refine ⟨⟨fun nm pl _ h1 => nm ∈ rs ∧ pl = none ∧ Q' (.tup [.str (heardW nm)]) h1, h, _⟩, fun cls dd σ2 H2 hw => ?_, ρ, h, fun v h1 => Q' (.tup [.str "told", v]) h1, ⟨S.s.step s1, r1, Step.refl _ _⟩, qd, fun v h1 x H2 q st rv r2 => ⟨v, h1, rv, r2, fun y H3 st3 ry r3 => C _ _ _ _ q (s1.trans (st.trans st3)) ry r3⟩⟩
    obtain ⟨nm, pl, ρ2, h2, hm2, S2, pld, hin, hpl, q⟩ := hw
    refine ⟨nm, h2, hm2, ?_, hin, S2.r, fun x H3 st rv r3 => C _ _ _ _ q (s1.trans (S2.b.trans st)) rv r3⟩
    rcases pld with z | ⟨_, _, _, _, e, _⟩
    · exact z.1
    · rw [hpl] at e; cases e
end DL
namespace DL
open PySem PySem.Spec PyProof.Rows L2
def encPr (p : Int × Int) : Val := .tup [.int p.1, .int p.2]
def lexLe (p q : Int × Int) : Prop := p.1 < q.1 ∨ (p.1 = q.1 ∧ p.2 ≤ q.2)
/-- sorted(xs), xs a list of pairs of ints -/
def fSortedP : FA := fun vs h Q => ∃ (v : Val) (ps : List (Int × Int)), vs = [v] ∧ listOf v h = some (ps.map encPr) ∧ ∀ qs : List (Int × Int), qs.Perm ps → qs.Pairwise lexLe → Q (.lst (qs.map encPr)) h
def kOf (H : Hp) (x : V) : Int × Int := match x with
  | .ref t => (match H t with
    | some (.tup [.int i, .int j]) => (i, j)
    | _ => (0, 0))
  | _ => (0, 0)
section
variable {K : PySem.W.Frag} {H : Hp} {h : Hv}
theorem pr_rel {p : Int × Int} {x : V} (r : RV K H h (encPr p) x) : ∃ t, x = .ref t ∧ H t = some (.tup [.int p.1, .int p.2]) ∧ h t = none ∧ kOf H x = p := by
  unfold encPr at r
  rw [RV] at r
  obtain ⟨a, xs, e, n, ha, rs⟩ := r
  obtain ⟨x1, x2, e2, r1, r2⟩ := rvs2 rs
  rw [RV] at r1 r2
  subst e2 r1 r2 e
  exact ⟨a, rfl, ha, n, by unfold kOf; simp only [ha]⟩
theorem prs_rel : ∀ {ps : List (Int × Int)} {xs : List V}, RVs K H h (ps.map encPr) xs → (∀ x ∈ xs, ∃ t, x = .ref t ∧ H t = some (.tup [.int (kOf H x).1, .int (kOf H x).2]) ∧ h t = none) ∧ xs.map (kOf H) = ps
  | [], xs, r => by rw [List.map_nil, RVs] at r; subst r; exact ⟨fun _ h => (by cases h), rfl⟩
  | p :: ps, xs, r => by
    rw [List.map_cons, RVs] at r
    obtain ⟨y, ys, e, r1, r2⟩ := r
    obtain ⟨t, e1, e2, e3, e4⟩ := pr_rel r1
    obtain ⟨i1, i2⟩ := prs_rel r2
    subst e
    refine ⟨fun x hx => ?_, by rw [List.map_cons, e4, i2]⟩
    rcases List.mem_cons.mp hx with z | z
    · rw [z]; exact ⟨t, e1, by rw [e4]; exact e2, e3⟩
    · exact i1 x z
theorem prs_back : ∀ {ys : List V}, (∀ x ∈ ys, ∃ t, x = .ref t ∧ H t = some (.tup [.int (kOf H x).1, .int (kOf H x).2]) ∧ h t = none) → RVs K H h ((ys.map (kOf H)).map encPr) ys
  | [], _ => RVs.nil
  | y :: ys, a => by
    rw [List.map_cons, List.map_cons]
    refine RVs.cons ?_ (prs_back fun x hx => a x (List.mem_cons_of_mem _ hx))
    obtain ⟨t, e1, e2, e3⟩ := a y List.mem_cons_self
    unfold encPr
    rw [RV]
    exact ⟨t, _, e1, e3, e2, RVs.cons (by rw [RV]) (RVs.cons (by rw [RV]) RVs.nil)⟩
theorem cl_sortedP : CaL K fSortedP (rSortedPO K) := fun vs xs h H Q' Q r rs q c => by
  obtain ⟨v, ps, rfl, el, q⟩ := q
  obtain ⟨x, e, rv⟩ := rvs1 rs
  obtain ⟨a, us, e3, ha, rss⟩ := listOf_rel r rv el
  obtain ⟨i1, i2⟩ := prs_rel rss
  refine ⟨a, us, kOf H, by rw [e, e3], .of ha, fun x hx => let ⟨t, e1, e2, _⟩ := i1 x hx; ⟨t, e1, e2⟩, fun ys p srt stb hp => ?_⟩
  have pm := stb.perm
  have q1 := q (ys.map (kOf H)) (by rw [← i2]; exact pm.map _) (by
    rw [List.pairwise_map]
    refine List.Pairwise.imp ?_ srt
    intro x y hxy
    have := SrtO.lexB_no.mp hxy
    unfold lexLe
    omega)
  exact c.lst r (prs_back fun x hx => i1 x (pm.subset hx)) hp q1
/-- min(xs), xs a list of ints that is not empty -/
def fMinL : FA := fun vs h Q => ∃ (v : Val) (ns : List Int), vs = [v] ∧ listOf v h = some (ns.map .int) ∧ ns ≠ [] ∧ ∀ m, m ∈ ns → (∀ y ∈ ns, m ≤ y) → Q (.int m) h
theorem cl_minL : CaL K fMinL (rMin K) := fun vs xs h H Q' Q r rs q c => by
  obtain ⟨v, ns, rfl, el, hne, q⟩ := q
  obtain ⟨x, e, rv⟩ := rvs1 rs
  obtain ⟨a, us, e3, ha, rss⟩ := listOf_rel r rv el
  rw [rss.ints] at ha
  exact ⟨a, ns, by rw [e, e3], .of ha, List.length_pos_iff.mpr hne, fun m hm hy => c.val r (by rw [RV]) (q m hm hy)⟩
/-- l.remove(k), l a list of ints that has it -/
def fRemove : FM := fun v ws h Q => ∃ (a : Addr) (ns : List Int) (k : Int), v = .ref a ∧ ws = [.int k] ∧ h a = some (.lst (ns.map .int)) ∧ k ∈ ns ∧ Q .non (put h a (.lst ((ns.erase k).map .int)))
theorem erase_ix : ∀ {ns : List Int} {k : Int}, k ∈ ns → ∃ j : Nat, ns[j]? = some k ∧ (∀ m : Nat, m < j → ns[m]? ≠ some k) ∧ ns.eraseIdx j = ns.erase k
  | [], k, h => by cases h
  | n :: ns, k, h => by
    by_cases e : n = k
    · subst e
      exact ⟨0, rfl, fun m hm => absurd hm (Nat.not_lt_zero _), by rw [List.erase_cons_head]; rfl⟩
    · rcases List.mem_cons.mp h with z | z
      · exact absurd z.symm e
      · obtain ⟨j, h1, h2, h3⟩ := erase_ix z
        refine ⟨j + 1, by simpa using h1, fun m hm => ?_, ?_⟩
        · cases m with
          | zero => simpa using e
          | succ m => simpa using h2 m (by omega)
        · rw [List.eraseIdx_cons_succ, h3, List.erase_cons_tail (by simpa using e)]
theorem ml_remove : MtL K fRemove rRemI := fun v ws x ys h H Q' Q r rv rs q c => by
  obtain ⟨a, ns, k, rfl, rfl, hv, hk, q⟩ := q
  rw [RV] at rv
  obtain ⟨y, e, rw'⟩ := rvs1 rs
  rw [RV] at rw'
  obtain ⟨xs, e1, rss⟩ := r a _ hv
  rw [rss.ints] at e1
  obtain ⟨j, j1, j2, j3⟩ := erase_ix hk
  refine ⟨a, ns, k, j, rv, by rw [e, rw'], e1, j1, j2, ?_⟩
  rw [j3]
  exact c.write r hv (RVs.ofInts _) rv_non q
end
end DL
namespace DL
open PySem PySem.Spec PyProof.Rows L2
/-! ### instances of the program's classes -/
def putFA (f : Str) (v : Val) : List (Str × Val) → List (Str × Val)
  | [] => [(f, v)]
  | (g, x) :: r => if g = f then (g, v) :: r else (g, x) :: putFA f v r
section
variable {K : PySem.W.Frag} {H : Hp} {h : Hv}
theorem RKs.look {f : Str} : ∀ {fs : List (Str × Val)} {xs : List (Str × V)}, RKs K H h fs xs → (fs.lookup f = none ∧ xs.lookup f = none) ∨ ∃ v x, fs.lookup f = some v ∧ xs.lookup f = some x ∧ RV K H h v x
  | [], xs, r => by rw [show xs = [] from r]; exact .inl ⟨rfl, rfl⟩
  | (g, v) :: fs, xs, r => by
    obtain ⟨y, ys, e, r1, r2⟩ := r
    subst e
    rw [List.lookup_cons, List.lookup_cons]
    cases f == g with
    | true => exact .inr ⟨v, y, rfl, rfl, r1⟩
    | false => exact RKs.look r2
theorem RKs.putF {f : Str} {v : Val} {y : V} (rv : RV K H h v y) : ∀ {fs : List (Str × Val)} {xs : List (Str × V)}, RKs K H h fs xs → RKs K H h (putFA f v fs) (L2.putF f y xs)
  | [], xs, r => by rw [show xs = [] from r]; exact ⟨y, [], rfl, rv, rfl⟩
  | (g, u) :: fs, xs, r => by
    obtain ⟨z, ys, e, r1, r2⟩ := r
    subst e
    unfold putFA L2.putF
    by_cases hg : g = f
    · rw [if_pos hg, if_pos hg]; exact ⟨y, ys, rfl, rv, r2⟩
    · rw [if_neg hg, if_neg hg]; exact ⟨z, _, rfl, r1, RKs.putF rv r2⟩
end
section
variable {X : Cx} {B : Bs} {o e : Expr} {es : List Expr} {d dv : ED} {aa : AD} {f m x : Str} {C : Addr} {pos pos' apos p : Pos}
@[simp] def dFld (C : Addr) (f : Str) (d : ED) : ED := fun ρ h Q E => d ρ h (fun v h1 => match v with
  | .ref a => (match h1 a with
    | some (.ins C' fs) => C' = C ∧ (match fs.lookup f with
      | some u => Q u h1
      | none => False)
    | _ => False)
  | _ => False) E
theorem de_fld (c : Cls X.K C) (n : NoAttr X.K C f) (ho : DE X B o d) (hb : attributeBase o f X.env (eval o X.env) = eval o X.env := by rfl) : DE X B (.Attribute o f pos) (dFld C f d) :=
  PEi (pe_fld ho hb) fun σ H Q ⟨ρ, h, Q', S, q, Cn⟩ => ⟨ρ, h, _, S, q, fun v h1 x H1 q1 s1 rv1 r1 => by
    split at q1
    · rename_i a
      rw [RV] at rv1
      split at q1
      · rename_i C' fs ha
        obtain ⟨rfl, q1⟩ := q1
        obtain ⟨dx, xs, e1, e2, n2, rs⟩ := r1 a _ ha
        split at q1
        · rename_i u hu
          rcases rs.look (f := f) with ⟨z, _⟩ | ⟨v, y, l1, l2, ry⟩
          · rw [hu] at z; cases z
          · rw [hu] at l1; cases l1
            exact ⟨a, _, dx, xs, y, rv1, e1, c, n, l2, (Cn.trans s1).val r1 ry q1⟩
        · exact q1.elim
      · exact q1.elim
    · exact q1.elim⟩
@[simp] def sFldA (C : Addr) (f : Str) (d dv : ED) : SD := fun ρ h D E => dv ρ h (fun v h1 => d ρ h1 (fun o h2 => match o with
  | .ref a => (match h2 a with
    | some (.ins C' fs) => C' = C ∧ fs.length < 1000 ∧ D.nx ρ (put h2 a (.ins C (putFA f v fs)))
    | _ => False)
  | _ => False) E) E
theorem ds_fld {value : Expr} (c : Cls X.K C) (n : NoAttr X.K C f) (ho : DE X B o d) (hv : DE X B value dv) (hs : swapsWith value (some (.Attribute o f pos')) pos.line X.env = pure false := by rfl) : DS X B (.Assign [.Attribute o f pos'] value pos) (sFldA C f d dv) :=
  PSi (ps_fld ho hv hs) fun D σ H ⟨ρ, h, D', S, q, Cn⟩ => ⟨ρ, h, _, S, q, fun v h1 y H1 q1 s1 rv1 r1 => ⟨ρ, h1, _, S.step s1 r1, q1, fun ov h2 x H2 q2 s2 rv2 r2 => by
    split at q2
    · rename_i a
      rw [RV] at rv2
      split at q2
      · rename_i C' fs ha
        obtain ⟨rfl, fl, q2⟩ := q2
        obtain ⟨dx, xs, e1, e2, n2, rs⟩ := r2 a _ ha
        have nb : Ob.ins C' fs ≠ .busy := fun z => nomatch z
        have st : Step h2 H2 (put h2 a (.ins C' (putFA f v fs))) (upd H2 a (.ins C' dx (L2.putF f y xs))) := Step.write ha nb
        have ne : dx ≠ a := fun z => by rw [z, e1] at e2; cases e2
        have r3 : RH X.K (upd H2 a (.ins C' dx (L2.putF f y xs))) (put h2 a (.ins C' (putFA f v fs))) := r2.write ha nb ⟨dx, _, upd_same, by rw [upd_ne ne]; exact e2, by rw [put_ne ne]; exact n2, (rs.putF (rv1.step s2)).step st⟩
        exact ⟨a, _, dx, xs, rv2, e1, c, n, by rw [← rs.len]; exact fl, Cn.nx _ _ _ _ q2 (s1.trans (s2.trans st)) (S.step (s1.trans (s2.trans st)) r3)⟩
      · exact q2.elim
    · exact q2.elim⟩⟩
/-- o.m(e, ..) -/
@[simp] def dMeth (C : Addr) (m : Str) (n : Nat) (fs : SpF) (d : ED) (aa : AD) : ED := fun ρ h Q E => d ρ h (fun v h1 => match v with
  | .ref a => (match h1 a with
    | some (.ins C' fl) => C' = C ∧ fl.lookup m = none ∧ aa ρ h1 (fun vs h2 => vs.length + 1 = n ∧ fs (.ref a :: vs) h2 Q (fun nm pl h' => E nm pl ρ h')) E
    | _ => False)
  | _ => False) E
/-- a method that stands, with its promise -/
def MtF (P : Program) (w : World) (K : PySem.W.Frag) (mg : Str → Option Value) (base : Heap) (A : Around) (C : Addr) (m : Str) (n : Nat) (fs : SpF) : Prop :=
  ∃ (k : Nat) (f : Addr) (fd : FuncData) (ps : List Str), FnOk P w K mg base (L2.CX P w) k f fd ps (spA K mg n fs) ∧ Room k A ∧ Meth K C m f ∧ L2.Binds K fd ps []
theorem de_meth {n : Nat} {fs : SpF} {pl : Sem Bool} (c : Cls X.K C) (F : MtF X.prog X.w X.K X.mg X.base X.A C m n fs) (tk : TakesB X B) (ho : DE X B o d) (ha : DA X B (e :: es) aa)
    (hst : starEach (e :: es) X.env = (false, eval e X.env) :: starEach es X.env := by rfl) (hpl : (backTo pos (starEach es X.env)).any (·.1) = false := by rfl)
    (ht : eval (.Call (.Attribute o m apos) (e :: es) [] pos) X.env = (do
      let ov ← eval o X.env
      standAt apos.atName
      let (f, first) ← holding [ov] (getMethod ov m pl)
      callWith pos f first (backTo pos (starEach (e :: es) X.env)) (backToKw pos (keywordEach [] X.env))) := by rfl) :
    DE X B (.Call (.Attribute o m apos) (e :: es) [] pos) (dMeth C m n fs d aa) := by
  obtain ⟨k, f, fd, ps, G, hr, hm, hb⟩ := F
  refine ⟨fun pins s σ H Q I ⟨ρ, h, Q', S, q, Cn⟩ => ?_⟩
  refine PySem.W.methodCall_KW (pl := pl) (thn (ho.run pins s σ H (fun x H1 => ∃ a dx xs, x = .ref a ∧ H1 a = some (.ins C dx xs) ∧ xs.lookup m = none ∧ rdA X.K B aa σ H1 fun vs H2 => spA X.K X.mg n fs (x :: vs) H2 Q (WE (wx X.mg X.K B) σ)) I ⟨ρ, h, _, S, q, fun v h1 x H1 q1 s1 rv1 r1 => ?_⟩) fun u s1 ⟨x, H1, I1, rx, a, dx, xs, ex, ea, l, q⟩ => ?_) ht
  · split at q1
    · rename_i a
      rw [RV] at rv1
      split at q1
      · rename_i C' fl hfl
        obtain ⟨rfl, hl, q1⟩ := q1
        obtain ⟨dx, xs, e1, e2, n2, rs⟩ := r1 a _ hfl
        have l2 : xs.lookup m = none := by
          rcases rs.look (f := m) with ⟨_, z⟩ | ⟨v, y, l1, _⟩
          · exact z
          · rw [hl] at l1; cases l1
        refine ⟨a, dx, xs, rv1, e1, l2, ρ, h1, _, S.step s1 r1, q1, fun vs h2 ys H2 q2 s2 rv2 r2 => ?_⟩
        refine ⟨.ref a :: vs, h2, Q', fun nm pl h' => B.E nm pl ρ h', RVs.cons (by rw [RV]; exact rv1) rv2, r2, q2.1, q2.2, Cn.trans (s1.trans s2), fun nm pl h' cls dd H' hE s3 r3 hm pld => ⟨nm, pl, ρ, h', hm, S.step (s1.trans (s2.trans s3)) r3, pld, hE⟩⟩
      · exact q1.elim
    · exact q1.elim
  · subst ex
    obtain rfl : u = Value.ref a := rx
    refine getmeth_ok I1 ea c hm l ?_
    refine PySem.W.callWith_K (first := [.ref a]) (h₀ := X.base) I.ok.mod.kin hm.kp (thn (ha.run pos pins s1 σ H1 _ I1 q) fun us s2 ⟨vs, H2, I2, r, q2⟩ => ⟨I2.kIn, ?_⟩) hst hpl
    exact run_fnS (us := .ref a :: us) (vs := .ref a :: vs) (E := WE (wx X.mg X.K B)) G hr hb (passAt tk σ) I2 (.cons rfl r) q2
/-- C(e, ..): a new instance, then __init__ -/
@[simp] def dNew (C : Addr) (n : Nat) (fs : SpF) (aa : AD) : ED := fun ρ h Q E => aa ρ h (fun vs h1 => ∀ a, h1 a = none → vs.length + 1 = n ∧ fs (.ref a :: vs) (put h1 a (.ins C [])) (fun v h2 => v = .non ∧ Q (.ref a) h2) (fun nm pl h' => E nm pl ρ h')) E
theorem run_makeS {CX : CXT} {k : Nat} {f : Addr} {fd : FuncData} {ps : List Str} {sp : Sp} {E : XK} {pins : List (Addr × Obj)} {σ : L2.St} {H : Hp} {s : Shared} {Q : VK} {us : List Value} {vs : List V} (M : Mk X.K C f) (F : FnOk X.prog X.w X.K X.mg X.base CX k f fd ps sp) (hr : Room (k + 1) X.A) (hb : L2.Binds X.K fd ps [])
    (hx : PassesAt CX X σ E) (I : Inv X pins σ H s) (r : Vals vs us)
    (h : ∀ x dx, H x = none → H dx = none → dx ≠ x → sp (.ref x :: vs) (upd (upd H dx (.own x)) x (.ins C dx [])) (fun v H2 => v = .non ∧ Q (.ref x) H2) E) :
    wpAny (model X.prog X.w) X.A (call (.ref C) us) (EP X pins σ Q) X.xe s := by
  have hq := h (s.heap.objs.size + 1) s.heap.objs.size (I.hok.fresh (Nat.le_succ _)) (I.hok.fresh (Nat.le_refl _)) (Nat.ne_of_lt (Nat.lt_succ_self _))
  have I2 := Inv.made (C := C) I
  have r2 : Vals (V.ref (s.heap.objs.size + 1) :: vs) (Value.ref (s.heap.objs.size + 1) :: us) := .cons rfl r
  have hl : (Value.ref (s.heap.objs.size + 1) :: us ++ []).length = ps.length := by
    have e := r2.length
    rw [F.len _ _ _ _ hq] at e
    rw [List.append_nil]
    exact e.symm
  have b := hb _ (Value.ref (s.heap.objs.size + 1) :: us) I2.kIn hl
  rw [List.append_nil] at b
  refine wpAny_call (make_map (f := f) I.kIn M.makes M.init (beq_iff_eq.mp M.fn) (codeAny_mono (F.run _ X.stack _ _ ⟨Value.ref (s.heap.objs.size + 1) :: us, []⟩ (Value.ref (s.heap.objs.size + 1) :: us) _ _ E (hr.make C us [])
    (I2.env0.make C us []) b r2 hq) fun r s' hq' => ?_))
  cases r with
  | error e => exact hx pins _ _ e s' I2 hq'
  | ok fl =>
    cases fl with
    | ret u =>
      obtain ⟨v, H', I3, rv, ev, q3⟩ := I2.after hq'
      subst ev
      exact ⟨rv, ⟨V.ref (s.heap.objs.size + 1), H', I3, rfl, q3⟩⟩
    | next => exact False.elim hq'
    | brk => exact False.elim hq'
    | cont => exact False.elim hq'
/-- a class that can be made, with its __init__'s promise -/
def MkF (P : Program) (w : World) (K : PySem.W.Frag) (mg : Str → Option Value) (base : Heap) (A : Around) (x : Str) (C : Addr) (n : Nat) (fs : SpF) : Prop :=
  ∃ (k : Nat) (f : Addr) (fd : FuncData) (ps : List Str), FnOk P w K mg base (L2.CX P w) k f fd ps (spA K mg n fs) ∧ Room (k + 1) A ∧ Mk K C f ∧ mg x = some (.ref C) ∧ L2.Binds K fd ps []
theorem de_new {n : Nat} {fs : SpF} (F : MkF X.prog X.w X.K X.mg X.base X.A x C n fs) (tk : TakesB X B) (ha : DA X B (e :: es) aa) (hg : Gl X x := by rfl) (hdb : (x == ("__debug__" : Str)) = false := by decide)
    (he : starEach (e :: es) X.env = (false, eval e X.env) :: starEach es X.env := by rfl) (hpl : (backTo pos (starEach es X.env)).any (·.1) = false := by rfl) : DE X B (.Call (.Name x p) (e :: es) [] pos) (dNew C n fs aa) := by
  obtain ⟨k, f, fd, ps, G, hr, M, hm, hb⟩ := F
  refine ⟨fun pins s σ H Q I ⟨ρ, h, Q', S, q, Cn⟩ => ?_⟩
  refine wpAny_Call_Name_kw (ld_glob I hg hm ?_ hdb)
  refine PySem.W.callWith_K (h₀ := X.base) I.ok.mod.kin M.kp (thn (ha.run pos pins s σ H (fun vs H1 => ∀ x dx, H1 x = none → H1 dx = none → dx ≠ x → spA X.K X.mg n fs (.ref x :: vs) (upd (upd H1 dx (.own x)) x (.ins C dx [])) (fun v H2 => v = .non ∧ Q (.ref x) H2) (WE (wx X.mg X.K B) σ)) I ⟨ρ, h, _, S, q, fun vs h1 xs H1 q1 s1 rv1 r1 a dx na nd ne => ?_⟩) fun us s1 ⟨vs, H1, I1, r, q⟩ => ⟨I1.kIn, ?_⟩) he hpl
  · have q2 := q1 a (r1.nof na)
    have sa : Step h1 H1 h1 (upd H1 dx (.own a)) := Step.fresh nd
    have na' : upd H1 dx (.own a) a = none := by rw [upd_ne (Ne.symm ne)]; exact na
    have ra := r1.fresh (o := .own a) nd
    have sb : Step h1 (upd H1 dx (.own a)) (put h1 a (.ins C [])) (upd (upd H1 dx (.own a)) a (.ins C dx [])) := Step.new na'
    have rb : RH X.K (upd (upd H1 dx (.own a)) a (.ins C dx [])) (put h1 a (.ins C [])) := ra.new na' ⟨dx, [], upd_same, by rw [upd_ne ne, upd_same], by rw [put_ne ne]; exact r1.nof nd, rfl⟩
    have s12 := sa.trans sb
    refine ⟨.ref a :: vs, put h1 a (.ins C []), _, fun nm pl h' => B.E nm pl ρ h', RVs.cons (by rw [RV]) (rv1.step s12), rb, q2.1, q2.2, fun v h2 y H2 q3 s3 rv3 r3 => ?_, fun nm pl h' cls dd H' hE s3 r3 hm pld => ⟨nm, pl, ρ, h', hm, S.step (s1.trans (s12.trans s3)) r3, pld, hE⟩⟩
    obtain ⟨rfl, q3⟩ := q3
    rw [RV] at rv3
    exact ⟨rv3, Cn _ _ _ _ q3 (s1.trans (s12.trans s3)) (by rw [RV]) r3⟩
  · exact run_makeS (E := WE (wx X.mg X.K B) σ) M G hr hb (passAt tk σ) I1 r q
end
end DL
namespace DL
open PySem PySem.Spec PyProof.Rows L2
/-! ### sorted(xs, key=f), f a def of the program or a lambda -/
section
variable {X : Cx} {pins : List (Addr × Obj)} {σ : L2.St} {H : Hp} {s : Shared}
/-- a place of ours, which the abstract heap does not speak of -/
structure Own (X : Cx) (pins : List (Addr × Obj)) (b : Addr) : Prop where
  sz : X.s_0.heap.objs.size ≤ b
  L : b ≠ X.env.locals
  c : ∀ x c, X.env.cells.lookup x = some c → c ≠ b
  p : ∀ p ∈ X.pn ++ pins, p.1 ≠ b
  fs : b ∉ X.fs
theorem own_of (I : Inv X pins σ H s) {b : Addr} (hb : s.heap.objs.size ≤ b) : Own X pins b where
  sz := Nat.le_trans I.sz hb
  L := fun e => absurd (e ▸ I.lt) (Nat.not_lt.mpr hb)
  c := fun x c e z => by
    obtain ⟨v, o, ho, _⟩ := I.cell x c e
    exact absurd (z ▸ Heap.lt_size ho) (Nat.not_lt.mpr hb)
  p := fun p hp z => by
    exact absurd (z ▸ Heap.lt_size (I.pin p hp).1) (Nat.not_lt.mpr hb)
  fs := I.nofs hb
theorem Inv.ownw {b : Addr} {h' : Heap} {t' : Nat} (I : Inv X pins σ H s) (o : Own X pins b) (hn : H b = none) (hs : Heap.SameBut b s.heap h') : Inv X pins σ H { s with heap := h', toks := t' } :=
  I.turned (fun c u hc e => (hs.2 c hc).trans e) hn o.L (.inr o.sz) o.c o.p
theorem Inv.fewer {more : List (Addr × Obj)} (I : Inv X (more ++ pins) σ H s) : Inv X pins σ H s := I.pins_of fun p hp => I.pin p (List.mem_append_right _ (List.mem_append_right _ hp))
/-- the sorted list is tracked from now on -/
theorem inv_sorted {a kS : Addr} {h' : Heap} {t' : Nat} {ys : List V} {out : List Value} {c : Nat} (I : Inv X pins σ H s) (oa : Own X pins a) (ok : Own X pins kS) (na : H a = none) (nk : H kS = none) (keep : ∀ b o, b ≠ a → b ≠ kS → s.heap.get? b = some o → h'.get? b = some o)
    (ha : h'.get? a = some (seqObj "list" out.toArray c)) (hz : ys.length ≤ sizeLine) (rv : Vals ys out) : Inv X pins σ (upd H a (.lst ys)) { s with heap := h', toks := t' } := by
  have nt : ∀ b u, H b = some u → b ≠ a := fun b u e z => by rw [z, na] at e; cases e
  have ntk : ∀ b u, H b = some u → b ≠ kS := fun b u e z => by rw [z, nk] at e; cases e
  refine I.step (g' := s.gens) (d' := s.drawn) (ch := [a, kS]) (fun b hb => ?_) (fun b o _ _ hc e _ => keep b o (fun z => hc (by simp [z])) (fun z => hc (by simp [z])) e) (fun b o _ _ hc e _ => ⟨o.slots, keep b o (fun z => hc (by simp [z])) (fun z => hc (by simp [z])) e⟩)
    (fun b o hc e n => by rw [upd_ne (fun z => hc (by simp [z]))]; exact n) (fun b o hc e => ⟨o, keep b o (fun z => hc (by simp [z])) (fun z => hc (by simp [z])) e⟩)
    (fun b xs e => by rw [upd_ne (nt b _ e)]; exact e) (fun b o u e => by rw [upd_ne (nt b _ e)]; exact e) (fun b ps e => ⟨#[], by rw [upd_ne (nt b _ e), e]; simp⟩) (fun m hm => ?_) (fun b u e => ?_) I.bare
  · rcases List.mem_cons.mp hb with z | hb
    · subst z; exact ⟨.inr oa.sz, oa.L, oa.c, oa.p⟩
    · rw [List.mem_singleton.mp hb]; exact ⟨.inr ok.sz, ok.L, ok.c, ok.p⟩
  · obtain ⟨o, es, ep, ho, r⟩ := hm
    exact ⟨o, es, ep, keep _ o (Ne.symm oa.L) (Ne.symm ok.L) ho, r⟩
  · by_cases hb : b = a
    · subst hb
      rw [upd_same] at e
      cases e
      exact ⟨hz, out, c, rv, ha⟩
    · rw [upd_ne hb] at e
      refine (I.hok b u e).stay (fun d v hd q => keep d v ?_ ?_ q) (fun d q => by rw [upd_ne (nt d _ q)]; exact q) fun d xs q => by rw [upd_ne (nt d _ q)]; exact q
      · rcases hd with z | z
        · rw [z]; exact hb
        · exact nt d _ z
      · rcases hd with z | z
        · rw [z]; exact ntk b _ e
        · exact ntk d _ z
end
theorem vals_zip : ∀ {ws : List Val} {xs : List V} {its : List Value}, ws.length = xs.length → Vals xs its → PySem.W.EachIs (fun u (b : Val × V) => RelV b.2 u) its (ws.zip xs)
  | [], xs, its, hl, r => by
    have : xs = [] := List.length_eq_zero_iff.mp hl.symm
    subst this
    cases r
    exact .nil
  | w :: ws, [], its, hl, r => by simp at hl
  | w :: ws, x :: xs, its, hl, r => by
    cases r with
    | cons r1 r2 => exact .cons r1 (vals_zip (by simpa using hl) r2)
theorem vals_each : ∀ {bs : List (Val × V)} {out : List Value}, PySem.W.EachIs (fun u (b : Val × V) => RelV b.2 u) out bs → Vals (bs.map (·.2)) out
  | [], out, e => by cases e; exact .nil
  | b :: bs, out, e => by
    cases e with
    | cons e1 e2 => exact .cons e1 (vals_each e2)
theorem rvs_zip {K : PySem.W.Frag} {H : Hp} {h : Hv} : ∀ {ws : List Val} {xs : List V}, RVs K H h ws xs → ∀ b ∈ ws.zip xs, RV K H h b.1 b.2
  | [], xs, r, b, hb => by simp at hb
  | w :: ws, xs, r, b, hb => by
    rw [RVs] at r
    obtain ⟨y, ys, e, r1, r2⟩ := r
    subst e
    rw [List.zip_cons_cons] at hb
    rcases List.mem_cons.mp hb with z | z
    · rw [z]; exact r1
    · exact rvs_zip r2 b z
theorem rvs_of_all {K : PySem.W.Frag} {H : Hp} {h : Hv} : ∀ {bs : List (Val × V)}, (∀ b ∈ bs, RV K H h b.1 b.2) → RVs K H h (bs.map (·.1)) (bs.map (·.2))
  | [], _ => RVs.nil
  | b :: bs, e => RVs.cons (e b List.mem_cons_self) (rvs_of_all fun c hc => e c (List.mem_cons_of_mem _ hc))
theorem each_keys_of {K : PySem.W.Frag} {X : Cx} {pins : List (Addr × Obj)} {σ : L2.St} {H : Hp} {s : Shared} {h : Hv} (I : Inv X pins σ H s) (hK : X.K = K) (k : Val → Val) (kd : Val → PyData) : ∀ {ws : List Val} {ys : List V} {us : List Value}, (∀ w ∈ ws, dat (k w) = some (kd w)) → RVs K H h (ws.map k) ys → Vals ys us →
    PySem.W.EachIs (fun v d => ∃ as, Reads s.heap v d as) us (ws.map kd)
  | [], ys, us, _, r, v => by
    rw [List.map_nil, RVs] at r
    subst r
    cases v
    exact .nil
  | w :: ws, ys, us, hd, r, v => by
    rw [List.map_cons, RVs] at r
    obtain ⟨y, zs, e, r1, r2⟩ := r
    subst e
    cases v with
    | cons v1 v2 =>
      subst hK
      exact .cons (Dp.reads I _ _ _ (dat_rel r1 (hd w List.mem_cons_self)) v1) (each_keys_of I rfl k kd (fun w hw => hd w (List.mem_cons_of_mem _ hw)) r2 v2)
section
variable {X : Cx} {pins : List (Addr × Obj)} {σ : L2.St} {H : Hp} {s : Shared} {h : Hv}
theorem sorted_keyI {Q : VK} {l f : Addr} {ws : List Val} {xs : List V} (k : Val → Val) (kd : Val → PyData) (I : Inv X pins σ H s) (r : RH X.K H h) (hl : SqL X.K H l xs) (rs : RVs X.K H h ws xs)
    (hk : ∀ w ∈ ws, dat (k w) = some (kd w)) (hal : PySem.W.AllAlike (ws.map kd)) (hsk : PySem.W.Sortable (ws.map kd)) (hu : ∀ w ∈ ws, X.A.units + 2 + (kd w).depth < cLine)
    (turn : ∀ (more : List (Addr × Obj)) (w : Val) (x : V) (u : Value) (s' : Shared) (H' : Hp), w ∈ ws → Inv X (more ++ pins) σ H' s' → Step h H h H' → RH X.K H' h → RV X.K H' h w x → RelV x u →
      wpAny (model X.prog X.w) X.A.in1.in1 (call (.ref f) [u]) (EP X (more ++ pins) σ (fun y H2 => Step h H' h H2 ∧ RH X.K H2 h ∧ RV X.K H2 h (k w) y)) (fun _ _ => False) s')
    (q : ∀ p H' ys, Step h H h H' → RH X.K H' h → H' p = none → RVs X.K H' h (ws.mergeSort (PySem.W.dataLe false kd)) ys → Q (.ref p) (upd H' p (.lst ys))) :
    wpAny (model X.prog X.w) X.A (call (.builtin "sorted") [.ref l] [(Str.ofString "key", .ref f)]) (EP X pins σ Q) X.xe s := by
  obtain ⟨its, rv, hpl, hz⟩ := I.list hl
  have hwx : ws.length = xs.length := rs.len
  have hlen : its.length = ws.length := by rw [← rv.length]; exact hwx.symm
  have hZ : its.length ≤ sizeLine := by rw [← rv.length]; exact hz
  refine PySem.W.sorted_of_sort hpl.isList hZ (PyProof.Rows.ksk_s1 _ _) (fun _ => PyProof.Rows.ksk_l1 _ _) fun E' => ?_
  rw [PyProof.Rows.ksk_t1]
  have h0 := PySem.W.copyHeap_at s.heap its
  have I0 : Inv X pins σ H { s with heap := PySem.W.copyHeap s.heap its } := I.kept fun b u e => PySem.W.copyHeap_old e
  have oa : Own X pins (s.heap.objs.size + 1) := own_of I (Nat.le_succ _)
  have na : H (s.heap.objs.size + 1) = none := I.hok.fresh (Nat.le_succ _)
  generalize s.heap.objs.size + 1 = a at *
  generalize PySem.W.copyHeap s.heap its = h1 at *
  obtain ⟨e1, ho1⟩ : ∃ e1, (h1.update a (Obj.mapSeq fun _ => (#[] : Array Value))).get? a = some (seqObj "list" #[] e1) := ⟨_, get?_update_seq h0 fun _ => #[]⟩
  unfold PyProof.Rows.ksk_tree
  refine wpAny_bind (listItems_at h0 rfl ?_)
  refine wpAny_bind (listUpdate_at h0 rfl ?_ (by rw [List.size_toArray]; exact hZ) (Nat.zero_le _))
  refine wpAny_bind (seqEpoch_at ho1 rfl ?_)
  refine wpAny_bind (wpAny_newTuple ?_ (by show its.length ≤ _; exact hZ))
  refine wpAny_bind (wpAny_newList ?_ (Nat.zero_le _))
  refine wpAny_holding ?_
  have I1 : Inv X pins σ H { s with heap := h1.update a (Obj.mapSeq fun _ => (#[] : Array Value)) } := Inv.ownw (s := { s with heap := h1 }) (t' := s.toks) I0 oa na (Heap.SameBut.update h1 a _)
  dsimp only
  generalize h1.update a (Obj.mapSeq fun _ => (#[] : Array Value)) = h2 at *
  have I2 : Inv X pins σ H { s with heap := (h2.push (seqObj "tuple" its.toArray 0)).push (seqObj "list" #[] 0) } := I1.kept fun b u e => Heap.get?_push_of_some _ (Heap.get?_push_of_some _ e)
  have hkn : H (h2.push (seqObj "tuple" its.toArray 0)).objs.size = none := I1.hok.fresh (by show h2.objs.size ≤ _; rw [Heap.size_push]; omega)
  have hkS : ((h2.push (seqObj "tuple" its.toArray 0)).push (seqObj "list" #[] 0)).get? (h2.push (seqObj "tuple" its.toArray 0)).objs.size = some (seqObj "list" #[] 0) := Heap.get?_push_size _ rfl
  have okS : Own X pins (h2.push (seqObj "tuple" its.toArray 0)).objs.size := own_of I1 (by show h2.objs.size ≤ _; rw [Heap.size_push]; omega)
  have haS : ((h2.push (seqObj "tuple" its.toArray 0)).push (seqObj "list" #[] 0)).get? a = some (seqObj "list" #[] e1) := Heap.get?_push_of_some _ (Heap.get?_push_of_some _ ho1)
  have hka : (h2.push (seqObj "tuple" its.toArray 0)).objs.size ≠ a := fun z => by
    have := Heap.lt_size ho1
    rw [← z, Heap.size_push] at this
    exact absurd this (Nat.not_lt.mpr (Nat.le_succ _))
  generalize (h2.push (seqObj "tuple" its.toArray 0)).objs.size = kS at *
  generalize (h2.push (seqObj "tuple" its.toArray 0)).push (seqObj "list" #[] 0) = h3 at *
  unfold PyProof.Rows.ksk_rest
  refine wpAny_bind (wpAny_rule ?_)
  first
    | rw [List.forIn_toArray]
    | (rw [← Array.forIn_toList]; simp only [List.toList_toArray])
    | rw [← Array.forIn_toList]
  have pinsOk : ∀ {H' : Hp} {s' : Shared} {kA : Array Value} {e : Nat}, Inv X pins σ H' s' → s'.heap.get? kS = some (seqObj "list" kA e) → s'.heap.get? a = some (seqObj "list" #[] e1) → H' kS = none → H' a = none →
      Inv X ([(kS, seqObj "list" kA e), (a, seqObj "list" #[] e1)] ++ pins) σ H' s' := fun {H' s' kA e} J g1 g2 n1 n2 => J.pins_of fun p hp => by
    rcases List.mem_append.mp hp with hp | hp
    · rcases List.mem_cons.mp hp with z | hp
      · subst z; exact ⟨g1, n1, okS.L, okS.fs, fun v z => by cases z⟩
      · rw [List.mem_singleton.mp hp]; exact ⟨g2, n2, oa.L, oa.fs, fun v z => by cases z⟩
    · exact J.pin p (List.mem_append_right _ hp)
  refine wpAny_bind (PyProof.Rows.ksk_fold (fun i s' => ∃ H' kA e ys, Inv X pins σ H' s' ∧ s'.heap.get? kS = some (seqObj "list" kA e) ∧ s'.heap.get? a = some (seqObj "list" #[] e1) ∧ H' kS = none ∧ H' a = none ∧ Step h H h H' ∧ RH X.K H' h ∧ Vals ys kA.toList ∧ RVs X.K H' h ((ws.take i).map k) ys) its 0 _
    ⟨H, #[], 0, [], I2, hkS, haS, hkn, na, Step.refl _ _, r, .nil, by rw [List.take_zero]; exact RVs.nil⟩ ?step ?done)
  case step =>
    rintro j u s' hx ⟨H', kA, e, ys, J, g1, g2, n1, n2, st, rH, vy, ry⟩
    simp only [Nat.zero_add] at ry ⊢
    have hj : j < its.length := (List.getElem?_eq_some_iff.mp hx).1
    obtain ⟨w, hw⟩ : ∃ w, ws[j]? = some w := ⟨_, List.getElem?_eq_getElem (by omega)⟩
    obtain ⟨x, hxs, rwx⟩ := rs.get hw
    obtain ⟨u', hu', rxu⟩ := rv.get hxs
    rw [hx] at hu'
    cases hu'
    have hkz : kA.size = j := by
      have z1 : ys.length = kA.toList.length := vy.length
      have z2 : ((ws.take j).map k).length = ys.length := ry.len
      rw [List.length_map, List.length_take] at z2
      have z3 : kA.toList.length = kA.size := Array.length_toList
      rw [← z3, ← z1, ← z2]
      exact Nat.min_eq_left (by omega)
    refine wpAny_bind (wpAny_attempt (wpAny_mono (turn _ w x u s' H' (List.mem_of_getElem? hw) (pinsOk J g1 g2 n1 n2) st rH (rwx.step st) rxu) (fun v s'' he => ?_) fun _ _ hF => hF.elim))
    obtain ⟨y, H2, J2, ryv, st2, rH2, rky⟩ := he
    have p1 := J2.pin (kS, seqObj "list" kA e) (List.mem_append_right _ (List.mem_append_left _ (by simp)))
    have p2 := J2.pin (a, seqObj "list" #[] e1) (List.mem_append_right _ (List.mem_append_left _ (by simp)))
    have J3 : Inv X pins σ H2 s'' := Inv.fewer J2
    have s1 := Heap.SameBut.update s''.heap kS (Obj.mapSeq (·.push v))
    obtain ⟨c2, hc2⟩ : ∃ c2, (s''.heap.update kS (Obj.mapSeq (·.push v))).get? kS = some (seqObj "list" (kA.push v) c2) := ⟨_, get?_update_seq p1.1 (·.push v)⟩
    dsimp only
    refine wpAny_bind (listUpdate_at p1.1 rfl ?_ (by rw [hkz]; omega) (by rw [Array.size_push, hkz]; omega))
    have ek : ws.take (j + 1) = ws.take j ++ [w] := by rw [List.take_add_one, hw]; simp
    refine wpAny_pure ⟨rfl, H2, kA.push v, c2, ys ++ [y], Inv.ownw (t' := s''.toks) J3 okS p1.2.1 s1, hc2, (s1.2 a (Ne.symm hka)).trans p2.1, p1.2.1, p2.2.1, st.trans st2, rH2, ?_, ?_⟩
    · rw [Array.toList_push]
      exact Vals.append vy (.cons ryv .nil)
    · rw [ek, List.map_append]
      exact RVs.append (ry.step st2) (RVs.cons rky RVs.nil)
  case done =>
    rintro s' ⟨H', kA, e, ys, J, g1, g2, n1, n2, st, rH, vy, ry⟩
    have e3 : ws.take (0 + its.length) = ws := List.take_of_length_le (by omega)
    rw [e3] at ry
    have hk' := each_keys_of J rfl k kd hk ry vy
    have hsz : kA.size = its.length := by
      have z1 : ys.length = kA.toList.length := vy.length
      have z2 : (ws.map k).length = ys.length := ry.len
      rw [List.length_map] at z2
      have z3 : kA.toList.length = kA.size := Array.length_toList
      rw [← z3, ← z1, ← z2, hlen]
    refine wpAny_bind (listItems_at g1 rfl ?_)
    refine PySem.W.keyH_end (κ := PySem.W.dataKind s'.heap (ws.map kd)) (h₁ := PySem.W.hideAll s'.heap [kS]) (fun b o hb eb => PySem.W.of_hideAll _ eb) (PySem.W.hideAll_none _ (by simp)) g1 g2 hka (PySem.W.SortsAt.data (s := s') hk' hal hsk (fun d hd => ?_)) hsz hZ fun h' tk c kb hc => ⟨rfl, ?_⟩
    · obtain ⟨w, hw, rfl⟩ := List.mem_map.mp hd
      have := hu w hw
      show X.A.units + 1 + 1 + _ < _
      omega
    · have kz : (fun b : Val × V => kd b.1) = (fun b : Val × V => kd b.1) := rfl
      have em : (ws.zip xs).map (fun b : Val × V => kd b.1) = ws.map kd := by
        rw [show (fun b : Val × V => kd b.1) = kd ∘ Prod.fst from rfl, ← List.map_map, List.map_fst_zip (by omega)]
      have ko : PySem.W.KeyedOut false ((ws.zip xs).map fun b : Val × V => kd b.1) its (PySem.W.sortVals (PySem.W.dataKind s'.heap (ws.map kd)) false kA.toList its) := by
        rw [em]; exact ⟨s'.heap, kA.toList, hal, rfl, hk'⟩
      have ea := PySem.W.keyedOut_each (fun b : Val × V => kd b.1) ko (vals_zip hwx rv)
      have vf := vals_each ea
      have hm : ((ws.zip xs).mergeSort (PySem.W.dataLe false fun b : Val × V => kd b.1)).map (·.1) = ws.mergeSort (PySem.W.dataLe false kd) := by
        rw [List.map_mergeSort (r := PySem.W.dataLe false fun b : Val × V => kd b.1) (s := PySem.W.dataLe false kd) (f := fun b : Val × V => b.1) (fun a _ b _ => rfl), List.map_fst_zip (by omega)]
      have rf : RVs X.K H' h (ws.mergeSort (PySem.W.dataLe false kd)) (((ws.zip xs).mergeSort (PySem.W.dataLe false fun b : Val × V => kd b.1)).map (·.2)) := by
        rw [← hm]
        refine rvs_of_all fun b hb => ?_
        exact (rvs_zip rs b (List.mem_mergeSort.mp hb)).step st
      refine ⟨.ref a, _, inv_sorted (t' := tk) J oa okS n2 n1 (fun b o hb hk0 eb => kb b o hb (PySem.W.hideAll_get _ eb (by simpa using hk0))) hc ?_ vf, rfl, q a H' _ st rH n2 rf⟩
      · rw [List.length_map, List.length_mergeSort, List.length_zip]; omega
end
/-! ### a lambda of one parameter that captures nothing -/
theorem cxF {P : Program} {w : World} {outer : List Env} {H : Hp} {s s' : Shared} {e : Value} (z : L2.CX P w outer H s (fun _ _ _ => False) e s') : False := by
  obtain ⟨_, _, _, _, _, _, _, _, _, _, _, _, hE⟩ := z
  exact hE
theorem lam1_run {P : Program} {w : World} {K : PySem.W.Frag} {mg : Str → Option Value} {base : Heap} {A : Around} {outer : List Env} {s : Shared} {H : Hp} {k : Nat} {f c' : Addr} {q a : Str} {params : Arguments} {body : Expr} {scope : Scope} {pm ctv u : Value} {x : V} {Q : VK} {E : XK} {t : TE}
    (S : FnScope [a] [a] scope) (hr : Room (k + 1) A) (e0 : Env0 P w K mg base A outer s H) (hf : s.heap.get? f = some (PySem.W.kla_obj "<lambda>" q params body scope [] pm c' ctv)) (hc : s.heap.CodeRec (.ref c') q)
    (hb : bindArgs (PySem.W.kla_fn "<lambda>" q params body scope [] pm (.ref c') ctv) ⟨[u], []⟩ = pure [(a, u)]) (r : RelV x u)
    (hbody : Room k (A.deeper (envOfC q scope s.heap.objs.size f (.ref c'))) → PE (cxOf (L2.CX P w) P w K mg base [a] q scope f (.ref c') A outer s H E) body t) (ht : t [some x] H Q) :
    codeAny (model P w) A (.call (.ref f) ⟨[u], []⟩) (CR (L2.CX P w) outer P w H s Q E) s := by
  have lim : s.heap.NoLimit := e0.mod.nolimit.keeps fun b o e => (e0.bs b o e).1
  have hkind : ∀ y ∈ [a].zip [u], scope.names.lookup y.1 = some .local ∨ (scope.names.lookup y.1 = some .cell ∧ ((cellsFrom (s.heap.objs.size + 1) scope.names []).lookup y.1).isSome = true) := fun ⟨n, v⟩ hy => by
    rcases S.par n (List.of_mem_zip hy).1 with q | q
    · exact .inl q
    · exact .inr ⟨q, PySem.W.cellsFrom_some _ _ _ (.inl q)⟩
  refine PySem.W.kla_callFunE hr.depth hf rfl S.co S.gen rfl hc ?_
  rw [hb]
  refine wpAny_pure (wpAny_newFunctionEnv_cells (binds := [a].zip [u]) S.kind hkind fun env he s1 xx => ?_)
  subst he
  refine ⟨lim.keeps xx.toInCall.keep, ?_⟩
  have I : Inv (cxOf (L2.CX P w) P w K mg base [a] q scope f (.ref c') A outer s H E) [] (L2.start [a] [x]) H s1 := inv_start S hr.hd e0 rfl (.cons r .nil) xx
  refine PySem.W.kla_codeExpr (wpAny_mono ((hbody (hr.deeper _)).run [] s1 (L2.start [a] [x]) H Q I ht) (fun v s' hq => ?_) fun e s' hq => hq)
  obtain ⟨w', H', J', rv, qq⟩ := hq
  exact ⟨w', H', J'.os, J'.bare, J'.base, J'.hok, rv, qq⟩
/-- what is asked of the keys -/
structure KeysOk (h1 : Hv) (d : ED) (ws : List Val) (k : Val → Val) (kd : Val → PyData) : Prop where
  dat : ∀ w ∈ ws, dat (k w) = some (kd w)
  al : PySem.W.AllAlike (ws.map kd)
  so : PySem.W.Sortable (ws.map kd)
  dp : ∀ w ∈ ws, (kd w).depth ≤ 20
  run : ∀ w ∈ ws, ∀ Q' : PV, Q' (k w) h1 → d [some w] h1 Q' EF
/-- sorted(e, key=lambda a: body) -/
def dSortK (Ts : List (Addr × Str)) (P : Addr) (q : Str) (aa : AD) (d : ED) : ED := fun ρ h Q E => aa ρ h (fun vs h1 => match vs with
  | [v] => Tbs Ts h1 ∧ (P, q) ∈ Ts ∧ ∃ (ws : List Val) (k : Val → Val) (kd : Val → PyData), listOf v h1 = some ws ∧ KeysOk h1 d ws k kd ∧ Q (.lst (ws.mergeSort (PySem.W.dataLe false kd))) h1
  | _ => False) E
theorem de_sortK {X : Cx} {B : Bs} {Ts : List (Addr × Str)} {c P : Addr} {k : Nat} {a : Str} {e : Expr} {aa : AD} {d : ED} {params : Arguments} {body : Expr} {scope : Scope} {p lpos kpos pos : Pos} (hm : X.mg "sorted" = none) (TB : LamX.TabB X.base X.mg c P) (hcode : X.env.code = .ref c) (hr : Room (k + 3) X.A) (ha : DA X B [e] aa)
    (S : FnScope [a] [a] scope) (hnc : ∀ cells, cloFrom cells scope.names [] = [])
    (hbody : ∀ (A : Around) (outer : List Env) (s : Shared) (H : Hp) (E : XK) (f c' : Addr) (B' : Bs), Room k (A.deeper (envOfC (X.env.qual ++ "<lambda>") scope s.heap.objs.size f (.ref c'))) → TakesB (cxOf (L2.CX X.prog X.w) X.prog X.w X.K X.mg X.base [a] (X.env.qual ++ "<lambda>") scope f (.ref c') A outer s H E) B' → DE (cxOf (L2.CX X.prog X.w) X.prog X.w X.K X.mg X.base [a] (X.env.qual ++ "<lambda>") scope f (.ref c') A outer s H E) B' body d)
    (hg : Gl X "sorted" := by rfl) (hdef : defaultsOf params X.env = ([], []) := by rfl) (hbind : ∀ (q : Str) (pm cv ctv u : Value), bindArgs (PySem.W.kla_fn "<lambda>" q params body scope [] pm cv ctv) ⟨[u], []⟩ = pure [(a, u)] := by intros; rfl)
    (he : backTo pos (starEach [e] X.env) = (false, eval e X.env) :: backTo pos (starEach [] X.env) := by rfl) (hpl : (backTo pos (starEach [e] X.env)).any (·.1) = false := by rfl) :
    DE X B (.Call (.Name "sorted" p) [e] [⟨some "key", .Lambda params body scope lpos, kpos⟩] pos) (dSortK Ts P (X.env.qual ++ "<lambda>") aa d) := by
  refine ⟨fun pins s σ H Q I ⟨ρ, h, Q', S0, q, C⟩ => ?_⟩
  refine wpAny_Call_Name_kw (ld_blt I hg hm bt_sorted ?_ (by decide) (by decide))
  have hA := ha.run pos pins s σ H (fun vs H1 => ∃ l xs h1 ws, ∃ (kf : Val → Val) (kd : Val → PyData), vs = [V.ref l] ∧ ST X.K B σ H1 ρ h1 ∧ H1 l = some (.lst xs) ∧ RVs X.K H1 h1 ws xs ∧ Tbs Ts h1 ∧ (P, X.env.qual ++ "<lambda>") ∈ Ts ∧ KeysOk h1 d ws kf kd ∧ Q' (.lst (ws.mergeSort (PySem.W.dataLe false kd))) h1 ∧ Cont X.K h1 H1 Q' Q) I ⟨ρ, h, _, S0, q, fun vs h1 xs H1 q1 s1 rv1 r1 => ?_⟩
  · refine PyProof.Rows.callWith_kw (thn hA fun us s1 ⟨vs, H1, I1, r1, l, xs, h1, ws, kf, kd, ev, S1, sq, rs, tb, hin, ko, hQ, C1⟩ => ?_) he hpl (by rfl) (by rfl)
    subst ev
    obtain ⟨u, rfl, ru⟩ := vals1 r1
    obtain rfl : u = Value.ref l := ru
    show wpAny _ _ (evalAll [do let v ← eval (.Lambda params body scope lpos) X.env; standAt pos; pure v]) _ _ s1
    refine wpAny_evalAll_cons (wpAny_bind (LamX.lam_make2 I1 TB hcode hin (tb.uniq hin) (tb.tabs S1.r) hdef (fun y hy hfr => absurd hfr (S.nofree y hy)) fun f c' pm' ctv H2 s2 I2 eN T2 hf hfn hfs hco => wpAny_bind (wpAny_standAt (wpAny_pure (wpAny_evalAll_nil ?_)))))
    rw [hnc] at hf
    obtain ⟨r2, st2⟩ := tb.step S1.r eN T2
    have hsq : H2 l = some (.lst xs) := eN l _ sq nt_lst
    have fL : f ≠ X.env.locals := fun z => by
      obtain ⟨m, ⟨o', es', ep', ho', hd', _⟩, _⟩ := I2.loc
      rw [← z, hf] at ho'
      cases ho'
      cases hd'
    have fF : f ∉ X.fs := fun z => hfs (by
      rcases I2.ok.stk with e | ⟨e, _⟩
      · rw [e]; exact z
      · rw [e]; unfold frs; rw [List.filterMap_cons]; split
        · exact z
        · exact List.mem_cons_of_mem _ z)
    have I3 : Inv X ([(f, PySem.W.kla_obj "<lambda>" (X.env.qual ++ "<lambda>") params body scope [] pm' c' ctv)] ++ pins) σ H2 s2 := I2.pins_of fun p hp => by
      rcases List.mem_append.mp hp with hp | hp
      · rw [List.mem_singleton.mp hp]; exact ⟨hf, hfn, fL, fF, fun v z => by cases z⟩
      · exact I2.pin p (List.mem_append_right _ hp)
    have hco2 : h1 c' = none := by
      obtain ⟨_, _, _, zz⟩ := r2 P _ (tb.has _ hin)
      cases hx : h1 c' with
      | none => rfl
      | some ob =>
        exact absurd hco (ro_noext (r2 c' ob hx))
    refine wpAny_mono (sorted_keyI (h := h1) (Q := Q) (f := f) kf kd I3 r2 (.of hsq) (rs.step st2) ko.dat ko.al ko.so (fun w hw => ?_) (fun more w x u s' H' hw J st rH rx ru => ?_) (fun p H' ys st rH np rys => ?_)) (fun v s' ⟨y, H', J, ry, qq⟩ => ⟨y, H', Inv.fewer J, ry, qq⟩) fun e s' z => z
    · have := ko.dp w hw
      have := hr.un
      omega
    · have hcx : H' c' = some (LamX.CodeO c' (X.env.qual ++ "<lambda>")) := (st.n c' _ hco hco2 (fun ps => LamX.codeO_ne ps)).1
      have hfx := (J.pin (f, PySem.W.kla_obj "<lambda>" (X.env.qual ++ "<lambda>") params body scope [] pm' c' ctv) (List.mem_append_right _ (List.mem_append_right _ (by simp)))).1
      obtain ⟨⟨oc, vs, t, hoc, hdc, hvc⟩, _, _⟩ := J.hok c' _ hcx
      refine wpAny_call (codeAny_mono (lam1_run (k := k) (Q := fun y H2 => Step h1 H' h1 H2 ∧ RH X.K H2 h1 ∧ RV X.K H2 h1 (kf w) y) (E := fun _ _ _ => False) S hr.in1.in1 J.env0.in1.in1 hfx ⟨c', oc, vs, t, rfl, hoc, hdc, hvc⟩ (hbind _ _ _ _ _) ru (fun hr' => hbody _ _ _ _ _ f c' ⟨EF, h1, H'⟩ hr' takesF) ⟨[some w], h1, fun v h2 => v = kf w ∧ h2 = h1, ⟨⟨rfl, fun i v e => ?_⟩, rH, Step.refl _ _⟩, ko.run w hw _ ⟨rfl, rfl⟩, fun v h' y H2 ⟨ev, eh⟩ st' ry rH' => ?_⟩) fun r s2 hq => ?_)
      · match i, e with
        | 0, e => simp at e; subst e; exact ⟨x, rfl, rx⟩
        | n + 1, e => simp at e
      · subst ev
        subst eh
        exact ⟨st', rH', ry⟩
      · cases r with
        | error e => exact cxF hq
        | ok fl =>
          cases fl with
          | ret u => exact J.after hq
          | next => exact False.elim hq
          | brk => exact False.elim hq
          | cont => exact False.elim hq
    · exact (C1.trans (st2.trans st)).lst rH rys np hQ
  · split at q1
    · rename_i v
      obtain ⟨tb, hin, ws, kf, kd, hl, ko, hQ⟩ := q1
      obtain ⟨x, ex, rx⟩ := rvs1 rv1
      obtain ⟨l, ys, e1, e2, e3⟩ := listOf_rel r1 rx hl
      subst e1
      exact ⟨l, ys, h1, ws, kf, kd, ex, S0.step s1 r1, e2, e3, tb, hin, ko, hQ, C.trans s1⟩
    · exact q1.elim
end DL
namespace DL
open PySem PySem.Spec PyProof.Rows L2
/-! ### dict comprehensions, keys ints or texts -/
def dcL (ok : Hv → Prop) (t : Tg) (tt : TD) (tk tv : ED) (ρw : Sl) : List Val → List (Key × Val) → Hv → (List (Key × Val) → Hv → Prop) → Prop
  | [], kvs, h, Q => ok h ∧ Q kvs h
  | v :: vs, kvs, h, Q => ok h ∧ match bT t v ρw with
    | some ρ' => tt ρ' h (fun b h1 => if b = true then tk ρ' h1 (fun y h2 => tv ρ' h2 (fun z h3 => match keyOf y with
        | some k => kvs.length < sizeLine ∧ dcL ok t tt tk tv ρw vs (putA kvs k z) h3 Q
        | none => False) EF) EF else dcL ok t tt tk tv ρw vs kvs h1 Q) EF
    | none => False
def dDc (di : ID) (t : Tg) (tt : TD) (tk tv : ED) (vs : List Nat) : ED := fun ρ h Q E => di ρ h (fun it h1 => ∀ D, h1 D = none → dcL it.ok t tt tk tv (wipeA ρ vs) it.items [] (put h1 D .busy) (fun kvs h2 => Q (.ref D) (put h2 D (.dK kvs)))) E
theorem rd_dc {K : PySem.W.Frag} {B : Bs} {di : ID} {t : Tg} {tt : TD} {tk tv : ED} {vs : List Nat} (hsl : ∀ i ∈ slots t, i ∈ vs) :
    ∀ σ H Q, rdE K B (dDc di t tt tk tv vs) σ H Q → tDc (rdI K B di) (gT K t) (rdT K B.blk tt) (rdE K B.blk tk) (rdE K B.blk tv) vs σ H Q := by
  rintro σ H Q ⟨ρ, h, Q', S, q, C⟩
  refine ⟨ρ, h, _, S, q, fun it h1 H1 J q1 s1 r1 hJ D nD => ?_⟩
  have S1 := S.step s1 r1
  have nd : h1 D = none := r1.nof nD
  have sN : Step h1 H1 (put h1 D .busy) (upd H1 D (.dK [])) := Step.new nD
  have rN : RH K (upd H1 D (.dK [])) (put h1 D .busy) := r1.new nD ⟨_, upd_same, .inr ⟨_, rfl⟩⟩
  refine ⟨fun i m H2 => ∃ acc xs h2, i + m = it.items.length ∧ RH K H2 h2 ∧ Step h1 H1 h2 H2 ∧ h2 D = some .busy ∧ H2 D = some (.dK xs) ∧ RKs K H2 h2 acc xs ∧ dcL it.ok t tt tk tv (wipeA ρ vs) (it.items.drop i) acc h2 (fun kvs h2 => Q' (.ref D) (put h2 D (.dK kvs))),
    ⟨it.items.length, [], [], put h1 D .busy, by omega, rN, sN, put_same, upd_same, rfl, q1 D nd⟩, ?_⟩
  rintro i m H2 ⟨acc, xs, h2, em, r2, s2, hb2, hD2, ra2, q2⟩
  cases hdr : it.items.drop i with
  | nil =>
    rw [hdr] at q2
    have hi : it.items.length ≤ i := List.drop_eq_nil_iff.mp hdr
    have ei : i = it.items.length := by omega
    subst ei
    refine .inl ⟨(hJ h2 H2 s2.n r2 q2.1).2, ?_⟩
    have q3 := q2.2
    have sw : StepN h2 H2 (put h2 D (.dK acc)) H2 := fun a o e n _ => by
      have : a ≠ D := fun z => by rw [z, hb2] at n; cases n
      exact ⟨e, by rw [put_ne this]; exact n⟩
    have sf : Step h1 H1 (put h2 D (.dK acc)) H2 := ⟨fun a o e n t => by
      obtain ⟨e2, n2⟩ := s2.n a o e n t
      exact sw a o e2 n2 t, fun a o e n => by
      have ne : a ≠ D := ne_of_none e nD
      rw [put_ne ne]
      exact s2.b a o e n⟩
    refine C _ _ _ _ q3 (s1.trans sf) (by rw [RV]) fun a o q => ?_
    by_cases ha : a = D
    · subst ha
      rw [put_same] at q
      cases q
      exact ⟨xs, hD2, ra2.stepN sw⟩
    · rw [put_ne ha] at q
      exact (r2 a o q).stepN sw fun _ z => z
  | cons v ws =>
    rw [hdr] at q2
    have hi : i < it.items.length := by
      apply Nat.lt_of_not_le
      intro hh
      rw [List.drop_eq_nil_iff.mpr hh] at hdr
      cases hdr
    have hv : it.items[i]? = some v := by
      have := congrArg (·[0]?) hdr
      simpa using this
    have hdr' : it.items.drop (i + 1) = ws := by
      rw [← List.drop_drop, hdr] <;> rfl
    obtain ⟨ok2, q2⟩ := q2
    obtain ⟨go, yl⟩ := (hJ h2 H2 s2.n r2 ok2).1 i v hv
    refine .inr ⟨go, fun H3 => ∃ acc xs h3, RH K H3 h3 ∧ Step h1 H1 h3 H3 ∧ h3 D = some .busy ∧ H3 D = some (.dK xs) ∧ RKs K H3 h3 acc xs ∧ dcL it.ok t tt tk tv (wipeA ρ vs) ws acc h3 (fun kvs h2 => Q' (.ref D) (put h2 D (.dK kvs))),
      fun H3 ⟨acc, xs, h3, r3, s3, b3, d3, a3, q3⟩ => ⟨m - 1, by omega, acc, xs, h3, by omega, r3, s3, b3, d3, a3, by rw [hdr']; exact q3⟩, fun x H3 hy => ?_⟩
    obtain ⟨s3, r3, rv3⟩ := yl x H3 hy
    split at q2
    · rename_i ρ' eρ
      have sl3 : RS K H3 h2 (wipeA ρ vs) (L2.wipe σ vs) := ((S1.s.wipe vs).step s2).step s3
      refine gT_rel rv3 sl3 eρ _ fun σ' rs' hw => ⟨?_, ?_⟩
      · rw [hw vs hsl]
        exact wipe_wipe σ vs
      · refine ⟨ρ', h2, _, ⟨rs', r3, S1.b.trans (s2.trans s3)⟩, q2, fun k h4 H4 q4 s4 r4 => ?_⟩
        have s24 := s3.trans s4
        have b4 := s24.b D _ hD2 hb2
        cases k with
        | false =>
          rw [if_neg Bool.false_ne_true] at q4
          exact iteF ⟨acc, xs, h4, r4, s2.trans s24, b4.2, b4.1, ra2.step s24, q4⟩
        | true =>
          rw [if_pos rfl] at q4
          refine iteT ⟨ρ', h4, _, ⟨rs'.step s4, r4, (S1.b.trans (s2.trans s3)).trans s4⟩, q4, fun y h5 yx H5 q5 s5 rv5 r5 => ?_⟩
          refine ⟨ρ', h5, _, ⟨(rs'.step s4).step s5, r5, ((S1.b.trans (s2.trans s3)).trans s4).trans s5⟩, q5, fun z h6 zx H6 q6 s6 rv6 r6 => ?_⟩
          have s26 := s24.trans (s5.trans s6)
          have b6 := s26.b D _ hD2 hb2
          split at q6
          · rename_i k hk
            have sD : StepN h6 H6 h6 (upd H6 D (.dK (putK xs k zx))) := fun a o e n _ => by
              have : a ≠ D := fun z => by rw [z, b6.2] at n; cases n
              rw [upd_ne this]
              exact ⟨e, n⟩
            refine ⟨xs, k, keyOf_rel rv5 hk, b6.1, by rw [← ra2.len]; exact q6.1, putA acc k z, putK xs k zx, h6, ?_, ?_, b6.2, upd_same, ?_, q6.2⟩
            · intro a o q
              by_cases ha : a = D
              · subst ha
                rw [b6.2] at q
                cases q
                exact ⟨_, upd_same, .inr ⟨_, rfl⟩⟩
              · exact (r6 a o q).stepN sD fun _ z => by rw [upd_ne ha]; exact z
            · have s16 := s2.trans s26
              exact ⟨fun a o e n t => by
                obtain ⟨e2, n2⟩ := s16.n a o e n t
                rw [upd_ne (ne_of_none e nD)]
                exact ⟨e2, n2⟩, fun a o e n => by
                obtain ⟨e2, n2⟩ := s16.b a o e n
                rw [upd_ne (ne_of_none e nD)]
                exact ⟨e2, n2⟩⟩
            · exact ((ra2.step s26).put rv6).stepN sD
          · exact q6.elim
    · exact q2.elim
section
variable {X : Cx} {B : Bs} {kx vx tg iter c : Expr} {ifs : List Expr} {scope : Scope} {own : List (Str × Nat)} {pos spos : Pos} {di : ID} {t : Tg} {tt : TD} {tk tv : ED}
theorem de_dc (hc : X.calm = true) (hN : X.N.Nodup) (hi : DI X B tg iter di) (ok : BlkOk X.N X.env.scope scope own) (hsl : ∀ i ∈ slots t, i ∈ own.map (·.2))
    (hg : ∀ (s : Shared) (H : Hp) (C : Addr) (cl : List (Str × Addr)) (fp : List Addr), PG (X.blk s H scope (compEnvC scope cl C X.env) fp) tg (gT X.K t)) (ht : ∀ (s : Shared) (H : Hp) (C : Addr) (cl : List (Str × Addr)) (fp : List Addr), PTs (X.blk s H scope (compEnvC scope cl C X.env) fp) ifs (rdT X.K B.blk tt))
    (hk : ∀ (s : Shared) (H : Hp) (C : Addr) (cl : List (Str × Addr)) (fp : List Addr), DE (X.blk s H scope (compEnvC scope cl C X.env) fp) B.blk kx tk)
    (he : ∀ (s : Shared) (H : Hp) (C : Addr) (cl : List (Str × Addr)) (fp : List Addr), DE (X.blk s H scope (compEnvC scope cl C X.env) fp) B.blk vx tv) (hs : ∀ x, foldedSetIterable iter X.env x = pure x := by intro _; rfl) :
    DE X B (.DictComp kx vx [⟨tg, iter, ifs, 0⟩] scope pos) (dDc di t tt tk tv (own.map (·.2))) := PEi (pe_dc hc hN hi ok hg ht hk he hs) (rd_dc hsl)
end
/-! ### sorted(xs), xs of alike data -/
/-- what can be sorted -/
structure SortOk (ws : List Val) (kd : Val → PyData) : Prop where
  dat : ∀ w ∈ ws, dat w = some (kd w)
  al : PySem.W.AllAlike (ws.map kd)
  so : PySem.W.Sortable (ws.map kd)
  dp : ∀ w ∈ ws, (kd w).depth ≤ 20
def fSortedD : FA := fun vs h Q => ∃ (v : Val) (ws : List Val) (kd : Val → PyData), vs = [v] ∧ listOf v h = some ws ∧ SortOk ws kd ∧ Q (.lst (ws.mergeSort (PySem.W.dataLe false kd))) h
def rSortedD (K : PySem.W.Frag) : List V → Hp → VK → Prop := fun vs H Q => ∃ (a : Addr) (xs : List V) (h : Hv) (ws : List Val) (kd : Val → PyData), vs = [V.ref a] ∧ SqL K H a xs ∧ RVs K H h ws xs ∧ SortOk ws kd ∧ ∀ p ys, H p = none → RVs K H h (ws.mergeSort (PySem.W.dataLe false kd)) ys → Q (.ref p) (upd H p (.lst ys))
theorem cr_sortedD {X : Cx} (hu : X.A.units + 64 < cLine) : CallR X (.builtin "sorted") (rSortedD X.K) := by
  intro pins s σ H vs us Q I r z
  obtain ⟨a, xs, h, ws, kd, rfl, hs, rs, so, q⟩ := z
  obtain ⟨its, rv, hl, hz⟩ := I.list hs
  obtain ⟨u, rfl, ru⟩ := vals1 r
  obtain rfl : u = Value.ref a := ru
  have hwx : ws.length = xs.length := rs.len
  have em : (ws.zip xs).map (fun b : Val × V => kd b.1) = ws.map kd := by
    rw [show (fun b : Val × V => kd b.1) = kd ∘ Prod.fst from rfl, ← List.map_map, List.map_fst_zip (by omega)]
  have hk' := each_keys_of I rfl id kd so.dat (by rw [List.map_id]; exact rs) rv
  rw [← em] at hk'
  have hm : ((ws.zip xs).mergeSort (PySem.W.dataLe false fun b : Val × V => kd b.1)).map (·.1) = ws.mergeSort (PySem.W.dataLe false kd) := by
    rw [List.map_mergeSort (r := PySem.W.dataLe false fun b : Val × V => kd b.1) (s := PySem.W.dataLe false kd) (f := fun b : Val × V => b.1) (fun a _ b _ => rfl), List.map_fst_zip (by omega)]
  refine PySem.W.sorted_data (R := fun u (b : Val × V) => RelV b.2 u) (enc := fun b : Val × V => kd b.1) hl.isList (vals_zip hwx rv) (PySem.W.each_of_map _ hk') (by rw [em]; exact so.al) (by rw [em]; exact so.so) (by rw [List.length_zip]; omega) (fun b hb => ?_) (fun out hlen ea => ?_)
  · have := so.dp b.1 (List.of_mem_zip hb).1
    omega
  · have vf := vals_each ea
    obtain ⟨ep, he'⟩ := PyProof.Rows.sortedAll_at s.heap its out.toArray
    have rf : RVs X.K H h (ws.mergeSort (PySem.W.dataLe false kd)) (((ws.zip xs).mergeSort (PySem.W.dataLe false fun b : Val × V => kd b.1)).map (·.2)) := by
      rw [← hm]
      exact rvs_of_all fun b hb => rvs_zip rs b (List.mem_mergeSort.mp hb)
    have hzl : (((ws.zip xs).mergeSort (PySem.W.dataLe false fun b : Val × V => kd b.1)).map (·.2)).length ≤ sizeLine := by
      rw [List.length_map, List.length_mergeSort, List.length_zip]; omega
    exact ⟨.ref _, upd H (s.heap.objs.size + 1) (.lst _), I.laid (t' := s.toks) (fun _ _ => PyProof.Rows.sortedAll_old) (Nat.le_succ _) ⟨hzl, out, ep, vf, he'⟩, rfl, q _ _ (I.hok.fresh (Nat.le_succ _)) rf⟩
theorem cl_sortedD {K : PySem.W.Frag} : CaL K fSortedD (rSortedD K) := fun vs xs h H Q' Q r rs q c => by
  obtain ⟨v, ws, kd, rfl, hl, so, q⟩ := q
  obtain ⟨x, ex, rx⟩ := rvs1 rs
  obtain ⟨a, ys, e1, e2, e3⟩ := listOf_rel r rx hl
  subst e1
  exact ⟨a, ys, h, ws, kd, ex, .of e2, e3, so, fun p zs np rz => c.lst r rz np q⟩
/-! ### list(range(a, b)) -/
theorem rgV_ints (a b : Int) : rgV a b = ((List.range (b - a).toNat).map fun (i : Nat) => a + (i : Int)).map V.int := by
  unfold rgV; rw [List.map_map]; rfl
def rgI (a b : Int) : List Int := (List.range (b - a).toNat).map fun (i : Nat) => a + (i : Int)
def dListRange2 (aa : AD) : ED := fun ρ h Q E => aa ρ h (fun vs h1 => match vs with
  | [.int i, .int j] => -1000 ≤ i ∧ i ≤ 1000 ∧ j ≤ 1000 ∧ -1000 ≤ j ∧ Q (.lst ((rgI i j).map .int)) h1
  | _ => False) E
theorem de_listRange2 {X : Cx} {B : Bs} {a b : Expr} {da db : ED} {p p2 q pos : Pos} (hg : Gl X "list") (hm : X.mg "list" = none) (hg2 : Gl X "range") (hm2 : X.mg "range" = none) (ha : DE X B a da) (hb : DE X B b db) (hc : X.calm = true := by rfl)
    (na : starEach [a, b] X.env = (false, eval a X.env) :: starEach [b] X.env := by rfl) (nb : starEach [b] X.env = (false, eval b X.env) :: starEach [] X.env := by rfl) (hp : (backTo q (starEach [b] X.env)).any (·.1) = false := by rfl)
    (nc : starEach [.Call (.Name "range" p2) [a, b] [] q] X.env = (false, eval (.Call (.Name "range" p2) [a, b] [] q) X.env) :: starEach [] X.env := by rfl) : DE X B (.Call (.Name "list" p) [.Call (.Name "range" p2) [a, b] [] q] [] pos) (dListRange2 (aCons da (aCons db aNil))) :=
  PEi (pe_listRg hc hg hm (prg_2 hg2 hm2 ha hb na nb hp) nc) fun σ H Q ⟨ρ, h, Q', S, q, C⟩ => ⟨ρ, h, _, S, q, fun v h1 x H1 q1 s1 rv1 r1 => ⟨ρ, h1, _, S.step s1 r1, q1, fun w h2 y H2 q2 s2 rv2 r2 => by
    have q2 : (match [v, w] with
      | [.int i, .int j] => -1000 ≤ i ∧ i ≤ 1000 ∧ j ≤ 1000 ∧ -1000 ≤ j ∧ Q' (.lst ((rgI i j).map .int)) h2
      | _ => False) := q2
    split at q2
    · rename_i i j e
      cases e
      rw [RV] at rv1 rv2
      refine ⟨i, j, rv1, rv2, ⟨by omega, by omega, by omega, by omega, by omega⟩, fun l hl => ?_⟩
      rw [rgV_ints]
      exact (C.trans (s1.trans s2)).lst r2 (RVs.ofInts _) hl q2.2.2.2.2
    · exact q2.elim⟩⟩
/-! ### self.x, self.y = a, b -/
def putFs : List (Str × Val) → List (Str × Val) → List (Str × Val)
  | fl, [] => fl
  | fl, (f, v) :: r => putFs (putFA f v fl) r
def sFlds (C : Addr) (i : Nat) (fs : List Str) (aa : AD) : SD := fun ρ h D E => aa ρ h (fun vs h1 => vs.length = fs.length ∧ fs.length ≤ 5 ∧ match ρ[i]? with
  | some (some (.ref a)) => (match h1 a with
    | some (.ins C' fl) => C' = C ∧ fl.length + 5 < 1000 ∧ D.nx ρ (put h1 a (.ins C (putFs fl (fs.zip vs))))
    | _ => False)
  | _ => False) E
theorem putFA_len (f : Str) (v : Val) : ∀ fl : List (Str × Val), (putFA f v fl).length ≤ fl.length + 1
  | [] => by simp [putFA]
  | (g, x) :: r => by
    unfold putFA
    split
    · simp
    · simp; exact putFA_len f v r
/-- one field of an instance, in a row of targets -/
def gFld (K : PySem.W.Frag) (C : Addr) (f : Str) (to : TE) : TG := fun y σ H Q => to σ H fun x H1 => ∃ a dx fs, x = .ref a ∧ H1 a = some (.ins C dx fs) ∧ fs.length < 1000 ∧ Q σ (upd H1 a (.ins C dx (L2.putF f y fs)))
section
variable {X : Cx} {B : Bs} {C : Addr} {pos pos' : Pos}
theorem pg_fld {o : Expr} {f : Str} {to : TE} (c : Cls X.K C) (n : NoAttr X.K C f) (ho : PE X o to) : PG X (.Attribute o f pos) (gFld X.K C f to) := by
  refine ⟨fun pins s σ H v u Q I r h => ?_⟩
  rw [arm_assign_Attribute]
  refine wpAny_bind (wpAny_holding (thn (ho.run pins s σ H _ I h) fun ov s1 ⟨x, H1, I1, rx, a, dx, fs, ex, ea, l, q⟩ => ?_))
  subst ex
  obtain rfl : ov = Value.ref a := rx
  refine wpAny_bind (wpAny_standAt (wpAny_bind (wpAny_holding (setattr_ok I1 ea c n l r fun s3 I3 => ?_))))
  exact wpAny_release ⟨σ, _, I3, q⟩
def gsFld (K : PySem.W.Frag) (C : Addr) (i : Nat) : List Str → TGs
  | [] => gNil
  | f :: fs => gCons (gFld K C f (tVar i)) (gsFld K C i fs)
theorem put_self {h : Hv} {a : Addr} {o : Ob} (e : h a = some o) : put h a o = h := by
  funext b
  unfold put
  by_cases z : b = a
  · subst z; rw [if_pos rfl, e]
  · rw [if_neg z]
theorem flds_rel {K : PySem.W.Frag} {a : Addr} {i : Nat} {σ : L2.St} (hi : σ[i]? = some (some (.ref a))) : ∀ (fs : List Str) (vs : List Val) (xs : List V) (fl : List (Str × Val)) {h : Hv} {H : Hp}, vs.length = fs.length → RVs K H h vs xs → RH K H h → h a = some (.ins C fl) → fl.length + fs.length < 1000 →
    ∀ R : L2.St → Hp → Prop, (∀ H', Step h H (put h a (.ins C (putFs fl (fs.zip vs)))) H' → RH K H' (put h a (.ins C (putFs fl (fs.zip vs)))) → R σ H') → gsFld K C i fs xs σ H R
  | [], [], xs, fl, h, H, hl, rs, r, e, hz, R, hR => by
    rw [RVs] at rs
    subst rs
    refine ⟨rfl, hR H ?_ ?_⟩
    · show Step h H (put h a (.ins C fl)) H
      rw [put_self e]; exact Step.refl _ _
    · show RH K H (put h a (.ins C fl))
      rw [put_self e]; exact r
  | f :: fs, v :: vs, xs, fl, h, H, hl, rs, r, e, hz, R, hR => by
    rw [RVs] at rs
    obtain ⟨y, ys, rfl, r1, r2⟩ := rs
    obtain ⟨dx, zs, e1, e2, n2, rz⟩ := r a _ e
    refine ⟨y, ys, rfl, .ref a, hi, a, dx, zs, rfl, e1, ?_, ?_⟩
    · rw [← rz.len]; rw [List.length_cons] at hz; omega
    · have nb : Ob.ins C fl ≠ .busy := fun z => nomatch z
      have st : Step h H (put h a (.ins C (putFA f v fl))) (upd H a (.ins C dx (L2.putF f y zs))) := Step.write e nb
      have ne : dx ≠ a := fun z => by rw [z, e1] at e2; cases e2
      have r3 : RH K (upd H a (.ins C dx (L2.putF f y zs))) (put h a (.ins C (putFA f v fl))) := r.write e nb ⟨dx, _, upd_same, by rw [upd_ne ne]; exact e2, by rw [put_ne ne]; exact n2, (rz.putF r1).step st⟩
      refine flds_rel hi fs vs ys (putFA f v fl) (by simpa using hl) (r2.step st) r3 put_same (by have := putFA_len f v fl; rw [List.length_cons] at hz; omega) R fun H' s' r' => ?_
      rw [put_put] at s' r'
      exact hR H' (st.trans s') r'
  | [], v :: vs, xs, fl, h, H, hl, rs, r, e, hz, R, hR => by simp at hl
  | f :: fs, [], xs, fl, h, H, hl, rs, r, e, hz, R, hR => by simp at hl
theorem ds_flds {es vs : List Expr} {aa : AD} {i : Nat} {fs : List Str} {k k2 : Nat} {p1 p2 : Pos} (hc : X.calm = true) (ha : DA X B vs aa) (hg : PGs X es (gsFld X.K C i fs)) (hn : (assignEach es X.env).length = fs.length := by rfl) (hst : (assignEach es X.env).findIdx? (·.1) = none := by rfl)
    (hs : swapsWithSole [.Tuple es k p1] (.Tuple vs k2 p2) pos.line X.env = pure false := by rfl) (hw : swappedStores [.Tuple es k p1] (.Tuple vs k2 p2) X.env = pure none := by rfl) : DS X B (.Assign [.Tuple es k p1] (.Tuple vs k2 p2) pos) (sFlds C i fs aa) :=
  PSi (ps_asg (pe_tup ha) (pg_tup hc hg hn hst) hs hw) fun D σ H ⟨ρ, h, D', S, q, Cn⟩ => ⟨ρ, h, _, S, q, fun us h1 xs H1 q1 s1 rv1 r1 => by
    obtain ⟨hl, h5, q1⟩ := q1
    refine ⟨by rw [← rv1.len, hl, sizeLine_eq]; omega, fun p np => ?_⟩
    split at q1
    · rename_i a hi
      split at q1
      · rename_i C' fl hfl
        obtain ⟨rfl, hz, q1⟩ := q1
        have st : Step h1 H1 h1 (upd H1 p (.tup xs)) := Step.fresh np
        have r2 := r1.fresh (o := .tup xs) np
        have S2 := S.step (s1.trans st) r2
        obtain ⟨x, ex, rx⟩ := S2.s.2 i _ hi
        rw [RV] at rx
        subst rx
        exact ⟨p, xs, rfl, .of upd_same, by rw [← rv1.len, hl], flds_rel ex fs us xs fl hl (rv1.step st) r2 hfl (by omega) _ fun H' s' r' => Cn.nx _ _ _ _ q1 ((s1.trans st).trans s') (S2.step s' r')⟩
      · exact q1.elim
    · exact q1.elim⟩
end
/-! ### methods and makers with their levels -/
def MtR (P : Program) (w : World) (K : PySem.W.Frag) (mg : Str → Option Value) (base : Heap) (k : Nat) (C : Addr) (m : Str) (n : Nat) (fs : SpF) : Prop :=
  ∃ (f : Addr) (fd : FuncData) (ps : List Str), FnOk P w K mg base (L2.CX P w) k f fd ps (spA K mg n fs) ∧ Meth K C m f ∧ L2.Binds K fd ps []
theorem MtR.at {P : Program} {w : World} {K : PySem.W.Frag} {mg : Str → Option Value} {base : Heap} {k j : Nat} {C : Addr} {m : Str} {n : Nat} {fs : SpF} {A : Around} (F : MtR P w K mg base k C m n fs) (hr : Room j A) (h : k ≤ j := by decide) : MtF P w K mg base A C m n fs :=
  let ⟨f, fd, ps, a, b, c⟩ := F; ⟨k, f, fd, ps, a, hr.mono h, b, c⟩
def MkR (P : Program) (w : World) (K : PySem.W.Frag) (mg : Str → Option Value) (base : Heap) (k : Nat) (x : Str) (C : Addr) (n : Nat) (fs : SpF) : Prop :=
  ∃ (f : Addr) (fd : FuncData) (ps : List Str), FnOk P w K mg base (L2.CX P w) k f fd ps (spA K mg n fs) ∧ Mk K C f ∧ mg x = some (.ref C) ∧ L2.Binds K fd ps []
theorem MkR.at {P : Program} {w : World} {K : PySem.W.Frag} {mg : Str → Option Value} {base : Heap} {k j : Nat} {x : Str} {C : Addr} {n : Nat} {fs : SpF} {A : Around} (F : MkR P w K mg base k x C n fs) (hr : Room j A) (h : k + 1 ≤ j := by decide) : MkF P w K mg base A x C n fs :=
  let ⟨f, fd, ps, a, b, c, d⟩ := F; ⟨k, f, fd, ps, a, hr.mono h, b, c, d⟩
end DL
namespace DL
open PySem PySem.Spec PyProof.Rows L2
/-! ### tuple(range(n)) -/
def dTupRange (de : ED) : ED := fun ρ h Q E => de ρ h (fun v h1 => match v with
  | .int j => 0 ≤ j ∧ j ≤ 1000 ∧ Q (.tup (((List.range j.toNat).map fun (i : Nat) => (i : Int)).map .int)) h1
  | _ => False) E
theorem de_tupRange {X : Cx} {B : Bs} {a : Expr} {da : ED} {p p2 q pos : Pos} (hg : Gl X "tuple") (hm : X.mg "tuple" = none) (hg2 : Gl X "range") (hm2 : X.mg "range" = none) (ha : DE X B a da) (hc : X.calm = true := by rfl)
    (na : starEach [a] X.env = (false, eval a X.env) :: starEach [] X.env := by rfl) (nc : starEach [.Call (.Name "range" p2) [a] [] q] X.env = (false, eval (.Call (.Name "range" p2) [a] [] q) X.env) :: starEach [] X.env := by rfl) : DE X B (.Call (.Name "tuple" p) [.Call (.Name "range" p2) [a] [] q] [] pos) (dTupRange da) :=
  PEi (pe_tupRg hc hg hm (prg_1 hg2 hm2 ha na) nc) fun σ H Q ⟨ρ, h, Q', S, q, C⟩ => ⟨ρ, h, _, S, q, fun v h1 x H1 q1 s1 rv1 r1 => by
    split at q1
    · rename_i j
      rw [RV] at rv1
      refine ⟨j, rv1, ⟨by omega, by omega, by omega, by omega, by omega⟩, fun l hl => ?_⟩
      have e : rgV 0 j = ((List.range j.toNat).map fun (i : Nat) => (i : Int)).map V.int := by
        rw [rgV_ints]; simp
      rw [e]
      exact (C.trans s1).tup r1 (RVs.ofInts _) hl q1.2.2
    · exact q1.elim⟩
/-! ### dict(a list of pairs) -/
def fDictP : FA := fun vs h Q => ∃ (v : Val) (kvs : List (Key × Val)), vs = [v] ∧ listOf v h = some (kvs.map fun p => Val.tup [keyV p.1, p.2]) ∧ ∀ p, h p = none → Q (.ref p) (put h p (.dK (mergeA [] kvs)))
theorem keyV_rel {K : PySem.W.Frag} {H : Hp} {h : Hv} {k : Key} {x : V} (r : RV K H h (keyV k) x) : x = kV k := by
  cases k with
  | inl i => unfold keyV at r; rw [RV] at r; exact r
  | inr i => unfold keyV at r; rw [RV] at r; exact r
theorem pairs_rel2 {K : PySem.W.Frag} {H : Hp} {h : Hv} : ∀ {kvs : List (Key × Val)} {xs : List V}, RVs K H h (kvs.map fun p => Val.tup [keyV p.1, p.2]) xs → ∃ (ps : List Addr) (ws : List (Key × V)), xs = ps.map V.ref ∧ Paired (fun p kv => SqT K H p [kV kv.1, kv.2]) ps ws ∧ RKs K H h kvs ws
  | [], xs, r => by
    rw [List.map_nil, RVs] at r
    exact ⟨[], [], r, .nil, rfl⟩
  | (k, v) :: kvs, xs, r => by
    rw [List.map_cons, RVs] at r
    obtain ⟨y, ys, e, r1, r2⟩ := r
    obtain ⟨ps, ws, e2, p2, k2⟩ := pairs_rel2 r2
    rw [RV] at r1
    obtain ⟨a, zs, e1, _, ha, rz⟩ := r1
    obtain ⟨u, w, ez, ru, rw'⟩ := rvs2 rz
    subst ez
    have eu := keyV_rel ru
    subst eu
    exact ⟨a :: ps, (k, w) :: ws, by rw [e, e1, e2]; rfl, .cons (.of ha) p2, w, ws, rfl, rw', k2⟩
theorem cl_dictP {K : PySem.W.Frag} : CaL K fDictP (fun xs H Q => ∃ (a : Addr) (ps : List Addr) (kvs : List (Key × V)), xs = [.ref a] ∧ SqL K H a (ps.map V.ref) ∧ Paired (fun p kv => SqT K H p [kV kv.1, kv.2]) ps kvs ∧ ∀ p, H p = none → Q (.ref p) (upd H p (.dK (mergeK [] kvs)))) := fun vs xs h H Q' Q r rs q c => by
  obtain ⟨v, kvs, rfl, hl, q⟩ := q
  obtain ⟨x, ex, rx⟩ := rvs1 rs
  obtain ⟨a, ys, e1, e2, e3⟩ := listOf_rel r rx hl
  obtain ⟨ps, ws, e4, e5, e6⟩ := pairs_rel2 e3
  subst e1
  rw [e4] at e2
  refine ⟨a, ps, ws, ex, .of e2, e5, fun p np => ?_⟩
  have st : Step h H (put h p (.dK (mergeA [] kvs))) (upd H p (.dK (mergeK [] ws))) := Step.new np
  exact c _ _ _ _ (q p (r.nof np)) st (by rw [RV]) (r.new np ⟨_, upd_same, (merge_rel e6 (show RKs K H h ([] : List (Key × Val)) [] from rfl)).step st⟩)
/-! ### d.get(k) -/
@[simp] def dDGet1 (dd dk : ED) : ED := fun ρ h Q E => dd ρ h (fun v h1 => (dgetA v (.int 0) h1).isSome = true ∧ dk ρ h1 (fun k h2 => match dgetA v k h2 with
  | some o => Q (o.getD .non) h2
  | none => False) E) E
/-! ### comprehensions with two clauses -/
def lcL2 (ok : Hv → Prop) (t : Tg) (tt : TD) (di1 : ID) (t1 : Tg) (tt1 : TD) (te : ED) (vs1 : List Nat) (ρw : Sl) : List Val → List Val → Hv → (List Val → Hv → Prop) → Prop
  | [], acc, h, Q => ok h ∧ Q acc h
  | v :: vs, acc, h, Q => ok h ∧ match bT t v ρw with
    | some ρ' => tt ρ' h (fun b h1 => if b = true then di1 ρ' h1 (fun it h2 => lcL it.ok t1 tt1 te (wipeA ρ' vs1) it.items acc h2 (fun acc' h3 => lcL2 ok t tt di1 t1 tt1 te vs1 ρw vs acc' h3 Q)) EF else lcL2 ok t tt di1 t1 tt1 te vs1 ρw vs acc h1 Q) EF
    | none => False
def dLc2 (di : ID) (t : Tg) (tt : TD) (di1 : ID) (t1 : Tg) (tt1 : TD) (te : ED) (vs vs1 : List Nat) : ED := fun ρ h Q E => di ρ h (fun it h1 => ∀ D, h1 D = none → lcL2 it.ok t tt di1 t1 tt1 te vs1 (wipeA ρ vs) it.items [] (put h1 D .busy) (fun acc h2 => Q (.lst acc) (drop h2 D))) E
theorem rd_lc2 {K : PySem.W.Frag} {B : Bs} {di di1 : ID} {t t1 : Tg} {tt tt1 : TD} {te : ED} {vs vs1 : List Nat} (hsl : ∀ i ∈ slots t, i ∈ vs) (hsl1 : ∀ i ∈ slots t1, i ∈ vs1) :
    ∀ σ H Q, rdE K B (dLc2 di t tt di1 t1 tt1 te vs vs1) σ H Q → tLc2 (rdI K B di) (gT K t) (rdT K B.blk tt) (rdI K B.blk di1) (gT K t1) (rdT K B.blk tt1) (rdE K B.blk te) vs vs1 σ H Q := by
  rintro σ H Q ⟨ρ, h, Q', S, q, C⟩
  refine ⟨ρ, h, _, S, q, fun it h1 H1 J q1 s1 r1 hJ D nD => ?_⟩
  have S1 := S.step s1 r1
  have nd : h1 D = none := r1.nof nD
  have sN : Step h1 H1 (put h1 D .busy) (upd H1 D (.lst [])) := Step.new nD
  have rN : RH K (upd H1 D (.lst [])) (put h1 D .busy) := r1.new nD ⟨_, upd_same, .inl ⟨_, rfl⟩⟩
  refine ⟨fun i m H2 => ∃ acc xs h2, i + m = it.items.length ∧ RH K H2 h2 ∧ Step h1 H1 h2 H2 ∧ h2 D = some .busy ∧ H2 D = some (.lst xs) ∧ RVs K H2 h2 acc xs ∧ lcL2 it.ok t tt di1 t1 tt1 te vs1 (wipeA ρ vs) (it.items.drop i) acc h2 (fun acc h2 => Q' (.lst acc) (drop h2 D)),
    ⟨it.items.length, [], [], put h1 D .busy, by omega, rN, sN, put_same, upd_same, RVs.nil, q1 D nd⟩, ?_⟩
  rintro i m H2 ⟨acc, xs, h2, em, r2, s2, hb2, hD2, ra2, q2⟩
  cases hdr : it.items.drop i with
  | nil =>
    rw [hdr] at q2
    have hi : it.items.length ≤ i := List.drop_eq_nil_iff.mp hdr
    have ei : i = it.items.length := by omega
    subst ei
    refine .inl ⟨(hJ h2 H2 s2.n r2 q2.1).2, ?_⟩
    have q3 := q2.2
    have sf : Step h1 H1 (drop h2 D) H2 := ⟨fun a o e n t => by
      obtain ⟨e2, n2⟩ := s2.n a o e n t
      exact less_drop.stepN a o e2 n2 t, fun a o e n => by
      have ne : a ≠ D := ne_of_none e nD
      rw [drop_ne ne]
      exact s2.b a o e n⟩
    refine C _ _ _ _ q3 (s1.trans sf) ?_ (r2.less less_drop)
    rw [RV]
    exact ⟨D, xs, rfl, drop_same, hD2, ra2.stepN less_drop.stepN⟩
  | cons v ws =>
    rw [hdr] at q2
    have hi : i < it.items.length := by
      apply Nat.lt_of_not_le
      intro hh
      rw [List.drop_eq_nil_iff.mpr hh] at hdr
      cases hdr
    have hv : it.items[i]? = some v := by
      have := congrArg (·[0]?) hdr
      simpa using this
    have hdr' : it.items.drop (i + 1) = ws := by
      rw [← List.drop_drop, hdr] <;> rfl
    obtain ⟨ok2, q2⟩ := q2
    obtain ⟨go, yl⟩ := (hJ h2 H2 s2.n r2 ok2).1 i v hv
    refine .inr ⟨go, fun H3 => ∃ acc xs h3, RH K H3 h3 ∧ Step h1 H1 h3 H3 ∧ h3 D = some .busy ∧ H3 D = some (.lst xs) ∧ RVs K H3 h3 acc xs ∧ lcL2 it.ok t tt di1 t1 tt1 te vs1 (wipeA ρ vs) ws acc h3 (fun acc h2 => Q' (.lst acc) (drop h2 D)),
      fun H3 ⟨acc, xs, h3, r3, s3, b3, d3, a3, q3⟩ => ⟨m - 1, by omega, acc, xs, h3, by omega, r3, s3, b3, d3, a3, by rw [hdr']; exact q3⟩, fun x H3 hy => ?_⟩
    obtain ⟨s3, r3, rv3⟩ := yl x H3 hy
    split at q2
    · rename_i ρ' eρ
      have sl3 : RS K H3 h2 (wipeA ρ vs) (L2.wipe σ vs) := ((S1.s.wipe vs).step s2).step s3
      refine gT_rel rv3 sl3 eρ _ fun σ' rs' hw => ⟨?_, ?_⟩
      · rw [hw vs hsl]
        exact wipe_wipe σ vs
      · refine ⟨ρ', h2, _, ⟨rs', r3, S1.b.trans (s2.trans s3)⟩, q2, fun k h4 H4 q4 s4 r4 => ?_⟩
        have s24 := s3.trans s4
        have b4 := s24.b D _ hD2 hb2
        cases k with
        | false =>
          rw [if_neg Bool.false_ne_true] at q4
          exact iteF ⟨acc, xs, h4, r4, s2.trans s24, b4.2, b4.1, ra2.step s24, q4⟩
        | true =>
          rw [if_pos rfl] at q4
          refine iteT ⟨ρ', h4, _, ⟨rs'.step s4, r4, (S1.b.trans (s2.trans s3)).trans s4⟩, q4, fun it1 h5 H5 J1 q5 s5 r5 hJ1 => ?_⟩
          have s25 := s24.trans s5
          have b5 := s25.b D _ hD2 hb2
          have S5 : RS K H5 h5 ρ' σ' := (rs'.step s4).step s5
          refine ⟨fun j k H6 => ∃ acc xs h6, j + k = it1.items.length ∧ RH K H6 h6 ∧ StepN h5 H5 h6 H6 ∧ Step h1 H1 h6 H6 ∧ h6 D = some .busy ∧ H6 D = some (.lst xs) ∧ RVs K H6 h6 acc xs ∧ lcL it1.ok t1 tt1 te (wipeA ρ' vs1) (it1.items.drop j) acc h6 (fun acc' h3 => lcL2 it.ok t tt di1 t1 tt1 te vs1 (wipeA ρ vs) ws acc' h3 (fun acc h2 => Q' (.lst acc) (drop h2 D))),
            ⟨it1.items.length, acc, xs, h5, by omega, r5, (Step.refl h5 H5).n, s2.trans s25, b5.2, b5.1, ra2.step s25, q5⟩, ?_⟩
          rintro j k H6 ⟨acc, xs, h6, ek, r6, s56, s6, hb6, hD6, ra6, q6⟩
          cases hdr1 : it1.items.drop j with
          | nil =>
            rw [hdr1] at q6
            have hj : it1.items.length ≤ j := List.drop_eq_nil_iff.mp hdr1
            have ej : j = it1.items.length := by omega
            subst ej
            exact .inl ⟨(hJ1 h6 H6 s56 r6 q6.1).2, acc, xs, h6, r6, s6, hb6, hD6, ra6, q6.2⟩
          | cons v1 ws1 =>
            rw [hdr1] at q6
            have hj : j < it1.items.length := by
              apply Nat.lt_of_not_le
              intro hh
              rw [List.drop_eq_nil_iff.mpr hh] at hdr1
              cases hdr1
            have hv1 : it1.items[j]? = some v1 := by
              have := congrArg (·[0]?) hdr1
              simpa using this
            have hdr1' : it1.items.drop (j + 1) = ws1 := by
              rw [← List.drop_drop, hdr1] <;> rfl
            obtain ⟨ok6, q6⟩ := q6
            obtain ⟨go1, yl1⟩ := (hJ1 h6 H6 s56 r6 ok6).1 j v1 hv1
            refine .inr ⟨go1, fun H7 => ∃ acc xs h7, RH K H7 h7 ∧ StepN h5 H5 h7 H7 ∧ Step h1 H1 h7 H7 ∧ h7 D = some .busy ∧ H7 D = some (.lst xs) ∧ RVs K H7 h7 acc xs ∧ lcL it1.ok t1 tt1 te (wipeA ρ' vs1) ws1 acc h7 (fun acc' h3 => lcL2 it.ok t tt di1 t1 tt1 te vs1 (wipeA ρ vs) ws acc' h3 (fun acc h2 => Q' (.lst acc) (drop h2 D))),
              fun H7 ⟨acc, xs, h7, r7, s57, s7, b7, d7, a7, q7⟩ => ⟨k - 1, by omega, acc, xs, h7, by omega, r7, s57, s7, b7, d7, a7, by rw [hdr1']; exact q7⟩, fun x1 H7 hy1 => ?_⟩
            obtain ⟨s7, r7, rv7⟩ := yl1 x1 H7 hy1
            split at q6
            · rename_i ρ2 eρ2
              have sl7 : RS K H7 h6 (wipeA ρ' vs1) (L2.wipe σ' vs1) := ((S5.wipe vs1).stepN s56).step s7
              refine gT_rel rv7 sl7 eρ2 _ fun σ2 rs2 hw2 => ⟨?_, ?_⟩
              · rw [hw2 vs1 hsl1]
                exact wipe_wipe σ' vs1
              · have bB : Step B.h0 B.H0 h6 H7 := (S1.b.trans s6).trans s7
                refine ⟨ρ2, h6, _, ⟨rs2, r7, bB⟩, q6, fun k1 h8 H8 q8 s8 r8 => ?_⟩
                have s68 := s7.trans s8
                have b8 := s68.b D _ hD6 hb6
                cases k1 with
                | false =>
                  rw [if_neg Bool.false_ne_true] at q8
                  exact iteF ⟨acc, xs, h8, r8, s56.trans s68.n, s6.trans s68, b8.2, b8.1, ra6.step s68, q8⟩
                | true =>
                  rw [if_pos rfl] at q8
                  refine iteT ⟨ρ2, h8, _, ⟨rs2.step s8, r8, bB.trans s8⟩, q8, fun y h9 yx H9 q9 s9 rv9 r9 => ?_⟩
                  have s69 := s68.trans s9
                  have b9 := s69.b D _ hD6 hb6
                  have sD : StepN h9 H9 h9 (upd H9 D (.lst (xs ++ [yx]))) := fun a o e n _ => by
                    have : a ≠ D := fun z => by rw [z, b9.2] at n; cases n
                    rw [upd_ne this]
                    exact ⟨e, n⟩
                  refine ⟨xs, b9.1, by rw [← ra6.len]; exact q9.1, acc ++ [y], xs ++ [yx], h9, ?_, ?_, ?_, b9.2, upd_same, ?_, q9.2⟩
                  · intro a o q
                    by_cases ha : a = D
                    · subst ha
                      rw [b9.2] at q
                      cases q
                      exact ⟨_, upd_same, .inl ⟨_, rfl⟩⟩
                    · exact (r9 a o q).stepN sD fun _ z => by rw [upd_ne ha]; exact z
                  · exact (s56.trans s69.n).trans sD
                  · have s19 := s6.trans s69
                    exact ⟨fun a o e n t => by
                      obtain ⟨e2, n2⟩ := s19.n a o e n t
                      rw [upd_ne (ne_of_none e nD)]
                      exact ⟨e2, n2⟩, fun a o e n => by
                      obtain ⟨e2, n2⟩ := s19.b a o e n
                      rw [upd_ne (ne_of_none e nD)]
                      exact ⟨e2, n2⟩⟩
                  · exact ((ra6.step s69).append (RVs.cons rv9 RVs.nil)).stepN sD
            · exact q6.elim
    · exact q2.elim
section
variable {X : Cx} {B : Bs} {elt tg iter tg1 iter1 : Expr} {ifs ifs1 : List Expr} {scope : Scope} {own : List (Str × Nat)} {vs1 : List Nat} {pos spos : Pos} {di di1 : ID} {t t1 : Tg} {tt tt1 : TD} {te : ED}
theorem de_lc2 (hc : X.calm = true) (hN : X.N.Nodup) (hi : DI X B tg iter di) (ok : BlkOk X.N X.env.scope scope own) (hv : ∀ i ∈ vs1, i ∈ own.map (·.2)) (hsl : ∀ i ∈ slots t, i ∈ own.map (·.2)) (hsl1 : ∀ i ∈ slots t1, i ∈ vs1)
    (hg : ∀ (s : Shared) (H : Hp) (C : Addr) (cl : List (Str × Addr)) (fp : List Addr), PG (X.blk s H scope (compEnvC scope cl C X.env) fp) tg (gT X.K t)) (ht : ∀ (s : Shared) (H : Hp) (C : Addr) (cl : List (Str × Addr)) (fp : List Addr), PTs (X.blk s H scope (compEnvC scope cl C X.env) fp) ifs (rdT X.K B.blk tt))
    (hi1 : ∀ (s : Shared) (H : Hp) (C : Addr) (cl : List (Str × Addr)) (fp : List Addr), DI (X.blk s H scope (compEnvC scope cl C X.env) fp) B.blk tg1 iter1 di1)
    (hg1 : ∀ (s : Shared) (H : Hp) (C : Addr) (cl : List (Str × Addr)) (fp : List Addr), PG (X.blk s H scope (compEnvC scope cl C X.env) fp) tg1 (gT X.K t1)) (ht1 : ∀ (s : Shared) (H : Hp) (C : Addr) (cl : List (Str × Addr)) (fp : List Addr), PTs (X.blk s H scope (compEnvC scope cl C X.env) fp) ifs1 (rdT X.K B.blk tt1))
    (he : ∀ (s : Shared) (H : Hp) (C : Addr) (cl : List (Str × Addr)) (fp : List Addr), DE (X.blk s H scope (compEnvC scope cl C X.env) fp) B.blk elt te) (hs : ∀ x, foldedSetIterable iter X.env x = pure x := by intro _; rfl) (hs1 : ∀ env x, foldedSetIterable iter1 env x = pure x := by intro _ _; rfl) :
    DE X B (.ListComp elt [⟨tg, iter, ifs, 0⟩, ⟨tg1, iter1, ifs1, 0⟩] scope pos) (dLc2 di t tt di1 t1 tt1 te (own.map (·.2)) vs1) := PEi (pe_lc2 hc hN hi ok hv hg ht hi1 hg1 ht1 he hs hs1) (rd_lc2 hsl hsl1)
variable {o e : Expr} {dd de : ED} {apos cpos : Pos}
theorem de_dget1 (hu : X.A.units + 1 < cLine) (ho : DE X B o dd) (he : DE X B e de) (m : M1 X o "get" apos e cpos) : DE X B (.Call (.Attribute o "get" apos) [e] [] cpos) (dDGet1 dd de) :=
  PEi (pe_dget1 hu ho he m) fun σ H Q ⟨ρ, h, Q', S, q, C⟩ => ⟨ρ, h, _, S, q, fun v h1 x H1 q1 s1 rv1 r1 => by
    obtain ⟨q0, q1⟩ := q1
    obtain ⟨o', e0⟩ := Option.isSome_iff_exists.mp q0
    obtain ⟨a, z, ex, _, isd, _⟩ := dget_rel r1 rv1 (rv_int (b := 0)) e0
    refine ⟨a, ex, isd, ρ, h1, _, S.step s1 r1, q1, fun k h2 y H2 q2 s2 rv2 r2 => ?_⟩
    have C3 := C.trans (s1.trans s2)
    split at q2
    · rename_i u eu
      obtain ⟨a', z, ex', g, _, z1 | ⟨w, zz, e1, e2, rv⟩⟩ := dget_rel r2 (rv1.step s2) rv2 eu
      · rw [ex] at ex'
        cases ex'
        refine ⟨_, g, ?_⟩
        rw [z1.2]
        rw [z1.1] at q2
        exact C3.val r2 rv_non q2
      · rw [ex] at ex'
        cases ex'
        refine ⟨_, g, ?_⟩
        rw [e2]
        rw [e1] at q2
        exact C3.val r2 rv q2
    · exact q2.elim⟩
end
/-! ### x in xs, of data -/
def fInD : F2 := fun v w h Q => ∃ d ds, datH v h = some d ∧ datH w h = some (.list ds) ∧ SeqAt.shaped d = true ∧ SeqAt.shaped (.list ds) = true ∧ Q (.bl (ds.any fun z => PyData.eqv z d)) h
def fNotInD : F2 := fun v w h Q => ∃ d ds, datH v h = some d ∧ datH w h = some (.list ds) ∧ SeqAt.shaped d = true ∧ SeqAt.shaped (.list ds) = true ∧ Q (.bl (!ds.any fun z => PyData.eqv z d)) h
theorem ol_inD {K : PySem.W.Frag} : OpL K fInD (rInD K) := fun v w x y h H Q' Q r rv rw' q c => by
  obtain ⟨d, ds, e1, e2, s1, s2, q⟩ := q
  exact ⟨d, ds, datH_rel r rv e1, datH_rel r rw' e2, s1, s2, c.val r rv_bl q⟩
theorem ol_notInD {K : PySem.W.Frag} : OpL K fNotInD (rNotInD K) := fun v w x y h H Q' Q r rv rw' q c => by
  obtain ⟨d, ds, e1, e2, s1, s2, q⟩ := q
  exact ⟨d, ds, datH_rel r rv e1, datH_rel r rw' e2, s1, s2, c.val r rv_bl q⟩
theorem u65 {k : Nat} {A : Around} (r : Room k A) : A.units + 65 < cLine := by have := r.un; omega
end DL
namespace DL
open PySem PySem.Spec PyProof.Rows L2
/-! ## sets of raw things, as bits -/
def setN (n : Nat) : List Nat := (List.range 8).filter fun i => n.testBit i
def setI (n : Nat) : List Int := (setN n).map fun (i : Nat) => (i : Int)
def encS (n : Nat) : Val := .tup ((setI n).map .int)
def sub (p n : Nat) : Bool := p &&& n == p
theorem sub_iff {p n : Nat} : sub p n = true ↔ ∀ i, p.testBit i = true → n.testBit i = true := by
  unfold sub
  rw [beq_iff_eq]
  constructor
  · intro h i hi
    rw [← h, Nat.testBit_and, Bool.and_eq_true] at hi
    exact hi.2
  · intro h
    apply Nat.eq_of_testBit_eq
    intro i
    rw [Nat.testBit_and]
    cases e : p.testBit i with
    | false => rfl
    | true => rw [h i e]; rfl
theorem sub_refl (n : Nat) : sub n n = true := sub_iff.mpr fun _ h => h
theorem sub_trans {a b c : Nat} (h : sub a b = true) (h' : sub b c = true) : sub a c = true := sub_iff.mpr fun i hi => sub_iff.mp h' i (sub_iff.mp h i hi)
theorem sub_le {p n : Nat} (h : sub p n = true) : p ≤ n := by
  unfold sub at h
  rw [beq_iff_eq] at h
  rw [← h]
  exact Nat.and_le_right
theorem sub_antisymm {a b : Nat} (h : sub a b = true) (h' : sub b a = true) : a = b := Nat.le_antisymm (sub_le h) (sub_le h')
def partsN (n : Nat) : List Nat := ((List.range (n + 1)).filter fun p => p != 0 && sub p n).reverse
theorem mem_parts {n p : Nat} : p ∈ partsN n ↔ p ≠ 0 ∧ sub p n = true := by
  unfold partsN
  rw [List.mem_reverse, List.mem_filter, List.mem_range, Bool.and_eq_true, bne_iff_ne]
  constructor
  · exact fun h => h.2
  · exact fun h => ⟨Nat.lt_succ_of_le (sub_le h.2), h⟩
/-- the next part, as the program counts -/
def nextP (n p : Nat) : Nat := (p - 1) &&& n
def goParts (n : Nat) : Nat → Nat → List Nat
  | 0, _ => []
  | k + 1, p => if p = 0 then [] else p :: goParts n k (nextP n p)
set_option maxHeartbeats 0 in
theorem goParts_all : ((List.range 256).all fun n => goParts n 256 n == partsN n) = true := by decide +kernel
theorem goParts_eq {n : Nat} (h : n < 256) : goParts n 256 n = partsN n := by
  have := List.all_eq_true.mp goParts_all n (List.mem_range.mpr h)
  exact beq_iff_eq.mp this
/-- the least bit -/
def lowN (n : Nat) : Nat := n &&& (256 - n)
theorem low_all : ((List.range 256).all fun n => Builtin.bitAnd (n : Int) (-(n : Int)) == ((lowN n : Nat) : Int)) = true := by decide +kernel
theorem low_eq {n : Nat} (h : n < 256) : Builtin.bitAnd (n : Int) (-(n : Int)) = ((lowN n : Nat) : Int) := beq_iff_eq.mp (List.all_eq_true.mp low_all n (List.mem_range.mpr h))
theorem band (a b : Nat) : Builtin.bitAnd (a : Int) (b : Int) = ((a &&& b : Nat) : Int) := by
  rw [bitAnd_pp (Int.natCast_nonneg a) (Int.natCast_nonneg b)]
  simp
theorem bxor_sub {n p : Nat} (h : sub p n = true) : Builtin.bitXor (n : Int) (p : Int) = ((n - p : Nat) : Int) := by
  have l := sub_le h
  unfold sub at h
  rw [beq_iff_eq] at h
  rw [bitXor_and, band, Nat.and_comm, h]
  omega
set_option maxHeartbeats 0 in
theorem minus_all : ((List.range 256).all fun n => (partsN n).all fun p => (n ^^^ p == n - p) && (p + (n - p) == n)) = true := by decide +kernel
theorem minus_xor {n p : Nat} (hn : n < 256) (h : sub p n = true) : n - p = n ^^^ p := by
  by_cases hp : p = 0
  · subst hp; simp
  · have := List.all_eq_true.mp (List.all_eq_true.mp minus_all n (List.mem_range.mpr hn)) p (mem_parts.mpr ⟨hp, h⟩)
    rw [Bool.and_eq_true, beq_iff_eq] at this
    exact this.1.symm
theorem rest_bit {n p : Nat} (hn : n < 256) (h : sub p n = true) (i : Nat) : (n - p).testBit i = (n.testBit i && !p.testBit i) := by
  rw [minus_xor hn h, Nat.testBit_xor]
  have := sub_iff.mp h i
  cases hp : p.testBit i with
  | false => simp
  | true => rw [this hp]; rfl
theorem rest_sub {n p : Nat} (hn : n < 256) (h : sub p n = true) : sub (n - p) n = true := sub_iff.mpr fun i hi => by
  rw [rest_bit hn h, Bool.and_eq_true] at hi
  exact hi.1
theorem rest_zero {n p : Nat} (h : sub p n = true) : n - p = 0 ↔ p = n := by
  have := sub_le h
  omega
theorem lt_of_sub {n p : Nat} (hn : n < 256) (h : sub p n = true) : p < 256 := Nat.lt_of_le_of_lt (sub_le h) hn
theorem bit_lt {n i : Nat} (hn : n < 256) (h : n.testBit i = true) : i < 8 := by
  apply Nat.lt_of_not_le
  intro hi
  have : n < 2 ^ i := Nat.lt_of_lt_of_le hn (Nat.pow_le_pow_right (by decide) hi : 2 ^ 8 ≤ 2 ^ i)
  rw [Nat.testBit_lt_two_pow this] at h
  cases h
theorem mem_setN {n i : Nat} (hn : n < 256) : i ∈ setN n ↔ n.testBit i = true := by
  unfold setN
  rw [List.mem_filter, List.mem_range]
  exact ⟨fun h => h.2, fun h => ⟨bit_lt hn h, h⟩⟩
theorem setN_inj {a b : Nat} (ha : a < 256) (hb : b < 256) (h : setN a = setN b) : a = b := by
  apply Nat.eq_of_testBit_eq
  intro i
  have h1 := mem_setN (i := i) ha
  have h2 := mem_setN (i := i) hb
  rw [h] at h1
  cases e : b.testBit i with
  | true => exact h1.mp (h2.mpr e)
  | false =>
    cases e2 : a.testBit i with
    | false => rfl
    | true => rw [h2.mp (h1.mpr e2)] at e; cases e
theorem setN_up (n : Nat) : (setN n).Pairwise (· < ·) := List.pairwise_lt_range.filter _
theorem setI_inj {a b : Nat} (ha : a < 256) (hb : b < 256) (h : setI a = setI b) : a = b := by
  refine setN_inj ha hb ?_
  unfold setI at h
  have inj : ∀ l m : List Nat, l.map (fun (i : Nat) => (i : Int)) = m.map (fun (i : Nat) => (i : Int)) → l = m := by
    intro l
    induction l with
    | nil => intro m h; cases m with
      | nil => rfl
      | cons => simp at h
    | cons x l ih => intro m h; cases m with
      | nil => simp at h
      | cons y m =>
        simp at h
        rw [show x = y by omega, ih m h.2]
  exact inj _ _ h
theorem setI_len (n : Nat) : (setI n).length ≤ 8 := by
  unfold setI setN
  rw [List.length_map]
  exact Nat.le_trans (List.length_filter_le _ _) (by simp)
theorem setI_up (n : Nat) : (setI n).Pairwise (· < ·) := by
  unfold setI
  rw [List.pairwise_map]
  exact (setN_up n).imp fun h => by omega
def bitsL (ns : List Int) : Nat := (ns.map fun n => 2 ^ n.toNat).sum
theorem bits_all : ((List.range 256).all fun n => bitsL (setI n) == n) = true := by decide +kernel
theorem bits_set {n : Nat} (h : n < 256) : bitsL (setI n) = n := beq_iff_eq.mp (List.all_eq_true.mp bits_all n (List.mem_range.mpr h))
/-- the worth of a set -/
def wt (hp : Heap') (n : Nat) : Int := ((setI n).map (rawW hp)).sum
/-- of the raw things of a heap -/
def inH (hp : Heap') (n : Nat) : Prop := n < 2 ^ hp.length
theorem inH_lt {hp : Heap'} (h8 : hp.length ≤ 8) {n : Nat} (h : inH hp n) : n < 256 := Nat.lt_of_lt_of_le h (Nat.pow_le_pow_right (by decide) h8 : 2 ^ hp.length ≤ 2 ^ 8)
theorem inH_rg {hp : Heap'} {n : Nat} (h : inH hp n) : ∀ i ∈ setI n, 0 ≤ i ∧ i < (hp.length : Int) := fun i hi => by
  unfold setI at hi
  obtain ⟨j, hj, rfl⟩ := List.mem_map.mp hi
  unfold setN at hj
  have := (List.mem_filter.mp hj).2
  have : j < hp.length := by
    apply Nat.lt_of_not_le
    intro hl
    rw [Nat.testBit_lt_two_pow (Nat.lt_of_lt_of_le h (Nat.pow_le_pow_right (by decide) hl))] at this
    cases this
  omega
theorem inH_sub {hp : Heap'} {p n : Nat} (h : inH hp n) (s : sub p n = true) : inH hp p := Nat.lt_of_le_of_lt (sub_le s) h
/-! ## partings -/
/-- parted in sets of P, the one with the least thing ahead -/
inductive Jnd (P : Nat → Prop) : Nat → Prop
  | one {n : Nat} : n ≠ 0 → P n → Jnd P n
  | more {n p : Nat} : sub p n = true → p ≠ 0 → p ≠ n → lowN n &&& p ≠ 0 → P p → Jnd P (n - p) → Jnd P n
theorem Jnd.mono {P P' : Nat → Prop} {n : Nat} (j : Jnd P n) (h : ∀ p, P p → P' p) : Jnd P' n := by
  induction j with
  | one n0 hp => exact .one n0 (h _ hp)
  | more s p0 pn l hp _ ih => exact .more s p0 pn l (h _ hp) ih
theorem Jnd.monoS {P P' : Nat → Prop} {n : Nat} (hn : n < 256) (j : Jnd P n) (h : ∀ p, sub p n = true → P p → P' p) : Jnd P' n := by
  induction j with
  | one n0 hp => exact .one n0 (h _ (sub_refl _) hp)
  | more s p0 pn l hp _ ih => exact .more s p0 pn l (h _ s hp) (ih (lt_of_sub hn (rest_sub hn s)) fun q hq => h q (sub_trans hq (rest_sub hn s)))
theorem Jnd.pos {P : Nat → Prop} {n : Nat} (j : Jnd P n) : n ≠ 0 := by
  cases j with
  | one n0 _ => exact n0
  | more s p0 pn _ _ _ => have := sub_le s; omega
/-- the last step of a parting -/
theorem jnd_iff {P : Nat → Prop} {n : Nat} (n0 : n ≠ 0) (hl : lowN n &&& n ≠ 0) : Jnd P n ↔ ∃ p, p ≠ 0 ∧ sub p n = true ∧ lowN n &&& p ≠ 0 ∧ (n - p = 0 ∨ Jnd P (n - p)) ∧ P p := by
  constructor
  · intro j
    cases j with
    | one n0 hp => exact ⟨n, n0, sub_refl n, hl, .inl (Nat.sub_self n), hp⟩
    | more s p0 pn l hp j => exact ⟨_, p0, s, l, .inr j, hp⟩
  · rintro ⟨p, p0, s, l, z | j, hp⟩
    · have := (rest_zero s).mp z
      subst this
      exact .one n0 hp
    · refine .more s p0 (fun e => ?_) l hp j
      subst e
      exact j.pos (Nat.sub_self p)
theorem low_self_all : ((List.range 256).all fun n => n == 0 || lowN n &&& n != 0) = true := by decide +kernel
theorem low_self {n : Nat} (hn : n < 256) (n0 : n ≠ 0) : lowN n &&& n ≠ 0 := by
  have := List.all_eq_true.mp low_self_all n (List.mem_range.mpr hn)
  simp [n0] at this
  exact this
/-! ## what can count -/
def Tk (b : Book) (C : Str → Nat → Prop) (z : Str) (p : Nat) : Prop := ∃ t ∈ takesL b z, C t p
/-- closed: raw things, and what works of closed sets make -/
structure Clo (b : Book) (hp : Heap') (C : Str → Nat → Prop) : Prop where
  raw : ∀ (i : Nat) (w : Int) (z : Str), hp[i]? = some (w, some z) → C z (2 ^ i)
  made : ∀ z ∈ b.names, ∀ n, inH hp n → ∀ p, sub p n = true → Jnd (Tk b C z) p → enough b z (wt hp p) (wt hp n) = true → C z n
def Can (b : Book) (hp : Heap') (z : Str) (n : Nat) : Prop := ∀ C, Clo b hp C → C z n
theorem can_clo (b : Book) (hp : Heap') : Clo b hp (Can b hp) := by
  refine ⟨fun i w z h C c => c.raw i w z h, fun z hz n hn p s j e C c => c.made z hz n hn p s (j.mono fun q ⟨t, ht, h⟩ => ⟨t, ht, h C c⟩) e⟩
theorem can_least {b : Book} {hp : Heap'} {C : Str → Nat → Prop} (c : Clo b hp C) {z : Str} {n : Nat} (h : Can b hp z n) : C z n := h C c
end DL
namespace DL
open PySem PySem.Spec PyProof.Rows L2
theorem mem_takes {b : Book} {z t : Str} : t ∈ takesL b z ↔ t = z ∨ (z, t) ∈ b.pacts := by
  unfold takesL
  rw [(sortZ_perm _).mem_iff, List.mem_cons, List.mem_map]
  constructor
  · rintro (h | ⟨p, hp, rfl⟩)
    · exact .inl h
    · rw [List.mem_filter, decide_eq_true_eq] at hp
      rw [← hp.2]
      exact .inr hp.1
  · rintro (h | h)
    · exact .inl h
    · exact .inr ⟨(z, t), List.mem_filter.mpr ⟨h, by simp⟩, rfl⟩
theorem takes_names {b : Book} (w : WFB b) {z t : Str} (hz : z ∈ b.names) (h : t ∈ takesL b z) : t ∈ b.names := by
  rcases mem_takes.mp h with e | h
  · rw [e]; exact hz
  · exact (w.pc _ h).2.1
/-- what is joined at m: by what is good and joined so far -/
def JC (b : Book) (g j : Str → List Nat) (z : Str) (m : Nat) : Prop := ∃ p ∈ partsN m, lowN m &&& p ≠ 0 ∧ (m - p = 0 ∨ m - p ∈ j z) ∧ ∃ t ∈ takesL b z, p ∈ g t
/-- what can be made at m -/
def CM (b : Book) (hp : Heap') (j : Str → List Nat) (z : Str) (m : Nat) : Prop := ∃ p ∈ partsN m, p ∈ j z ∧ enough b z (wt hp p) (wt hp m) = true
structure TInv (b : Book) (hp : Heap') (D : Nat → Prop) (gs js : Str → List Nat) : Prop where
  g : ∀ z ∈ b.names, ∀ n, n ∈ gs z ↔ D n ∧ Can b hp z n
  j : ∀ z ∈ b.names, ∀ n, n ∈ js z ↔ D n ∧ Jnd (Tk b (Can b hp) z) n
/-- while m is filled -/
structure MInv (b : Book) (hp : Heap') (D : Nat → Prop) (m : Nat) (gs js : Str → List Nat) : Prop where
  g : ∀ z ∈ b.names, ∀ n, n ≠ m → (n ∈ gs z ↔ D n ∧ Can b hp z n)
  j : ∀ z ∈ b.names, ∀ n, n ≠ m → (n ∈ js z ↔ D n ∧ Jnd (Tk b (Can b hp) z) n)
  gm : ∀ z ∈ b.names, m ∈ gs z → Can b hp z m
theorem TInv.mid {b : Book} {hp : Heap'} {D : Nat → Prop} {g j : Str → List Nat} (t : TInv b hp D g j) {m : Nat} (hm : ¬ D m) : MInv b hp D m g j :=
  ⟨fun z hz n _ => t.g z hz n, fun z hz n _ => t.j z hz n, fun z hz h => ((t.g z hz m).mp h).2⟩
structure FillOk (b : Book) (hp : Heap') (D : Nat → Prop) (m : Nat) : Prop where
  w : WFB b
  ho : HpOk b hp
  m0 : m ≠ 0
  mH : inH hp m
  nd : ¬ D m
  low : ∀ p, p ≠ 0 → p ≠ m → sub p m = true → D p
theorem FillOk.lt {b : Book} {hp : Heap'} {D : Nat → Prop} {m : Nat} (f : FillOk b hp D m) : m < 256 := inH_lt f.ho.n8 f.mH
/-- what is joined is parted so -/
theorem jc_sound {b : Book} {hp : Heap'} {D : Nat → Prop} {m : Nat} {g j : Str → List Nat} (f : FillOk b hp D m) (i : MInv b hp D m g j) {z : Str} (hz : z ∈ b.names) (h : JC b g j z m) : Jnd (Tk b (Can b hp) z) m := by
  obtain ⟨p, hp', l, r, t, ht, hg⟩ := h
  obtain ⟨p0, s⟩ := mem_parts.mp hp'
  have htn := takes_names f.w hz ht
  refine (jnd_iff f.m0 (low_self f.lt f.m0)).mpr ⟨p, p0, s, l, ?_, t, ht, ?_⟩
  · rcases r with r | r
    · exact .inl r
    · have := sub_le s
      exact .inr ((i.j z hz _ (by omega)).mp r).2
  · by_cases e : p = m
    · subst e; exact i.gm t htn hg
    · exact ((i.g t htn p e).mp hg).2
theorem cm_sound {b : Book} {hp : Heap'} {D : Nat → Prop} {m : Nat} {g j : Str → List Nat} (f : FillOk b hp D m) (i : MInv b hp D m g j) (u : ∀ z ∈ b.names, m ∈ j z → JC b g j z m) {z : Str} (hz : z ∈ b.names) (h : CM b hp j z m) : Can b hp z m := by
  obtain ⟨p, hp', hj, e⟩ := h
  obtain ⟨p0, s⟩ := mem_parts.mp hp'
  refine (can_clo b hp).made z hz m f.mH p s ?_ e
  by_cases e : p = m
  · subst e; exact jc_sound f i hz (u z hz hj)
  · exact ((i.j z hz p e).mp hj).2
/-- the end of a filling -/
theorem fill_end {b : Book} {hp : Heap'} {D : Nat → Prop} {m : Nat} {g j : Str → List Nat} (f : FillOk b hp D m) (i : MInv b hp D m g j) (u : ∀ z ∈ b.names, (m ∈ j z ↔ JC b g j z m)) (c : ∀ z ∈ b.names, m ∈ g z ∨ ¬ CM b hp j z m)
    (raw : ∀ (k : Nat) (w : Int) (z : Str), hp[k]? = some (w, some z) → m = 2 ^ k → m ∈ g z) : TInv b hp (fun n => D n ∨ n = m) g j := by
  have hlt := f.lt
  have fr : ∀ {k : Nat} {w : Int} {z : Str}, hp[k]? = some (w, some z) → z ∈ b.names := fun {k w z} h => f.ho.fr _ (List.mem_of_getElem? h) z rfl
  -- what is good is as Can, below m
  have comp : ∀ z ∈ b.names, Can b hp z m → m ∈ g z := by
    intro z hz hc
    have cl : Clo b hp (fun z n => z ∈ b.names ∧ (if n = m then m ∈ g z else Can b hp z n)) := by
      refine ⟨fun k w z h => ⟨fr h, ?_⟩, fun z hz n hn p s jn e => ⟨hz, ?_⟩⟩
      · split
        · rename_i e; exact raw k w z h e.symm
        · exact (can_clo b hp).raw k w z h
      · have down : ∀ q, Tk b (fun z n => z ∈ b.names ∧ (if n = m then m ∈ g z else Can b hp z n)) z q → Tk b (Can b hp) z q := by
          rintro q ⟨t, ht, htn, h⟩
          refine ⟨t, ht, ?_⟩
          split at h
          · rename_i eq; subst eq; exact i.gm t htn h
          · exact h
        split
        · rename_i en
          subst en
          rcases c z hz with h | h
          · exact h
          · exfalso
            apply h
            refine ⟨p, mem_parts.mpr ⟨jn.pos, s⟩, ?_, e⟩
            by_cases ep : p = n
            · subst ep
              refine (u z hz).mpr ?_
              obtain ⟨q, q0, sq, lq, r, t, ht, htn, hq⟩ := (jnd_iff f.m0 (low_self hlt f.m0)).mp jn
              refine ⟨q, mem_parts.mpr ⟨q0, sq⟩, lq, ?_, t, ht, ?_⟩
              · rcases r with r | r
                · exact .inl r
                · have l1 := sub_le sq
                  refine .inr ((i.j z hz _ (by omega)).mpr ⟨f.low _ r.pos (by omega) (rest_sub hlt sq), r.mono down⟩)
              · split at hq
                · rename_i eq; rw [eq]; exact hq
                · rename_i nq; exact (i.g t htn q nq).mpr ⟨f.low q q0 nq sq, hq⟩
            · exact (i.j z hz p ep).mpr ⟨f.low p jn.pos ep s, jn.mono down⟩
        · exact (can_clo b hp).made z hz n hn p s (jn.mono down) e
    have := can_least cl hc
    rw [if_pos rfl] at this
    exact this.2
  refine ⟨fun z hz n => ?_, fun z hz n => ?_⟩
  · by_cases e : n = m
    · subst e
      exact ⟨fun h => ⟨.inr rfl, i.gm z hz h⟩, fun h => comp z hz h.2⟩
    · rw [i.g z hz n e]
      exact ⟨fun h => ⟨.inl h.1, h.2⟩, fun h => ⟨h.1.resolve_right e, h.2⟩⟩
  · by_cases e : n = m
    · subst e
      refine ⟨fun h => ⟨.inr rfl, jc_sound f i hz ((u z hz).mp h)⟩, fun h => (u z hz).mpr ?_⟩
      obtain ⟨q, q0, sq, lq, r, t, ht, hq⟩ := (jnd_iff f.m0 (low_self hlt f.m0)).mp h.2
      have htn := takes_names f.w hz ht
      refine ⟨q, mem_parts.mpr ⟨q0, sq⟩, lq, ?_, t, ht, ?_⟩
      · rcases r with r | r
        · exact .inl r
        · have l1 := sub_le sq
          exact .inr ((i.j z hz _ (by omega)).mpr ⟨f.low _ r.pos (by omega) (rest_sub hlt sq), r⟩)
      · by_cases eq : q = n
        · rw [eq]; rw [eq] at hq; exact comp t htn hq
        · exact (i.g t htn q eq).mpr ⟨f.low q q0 eq sq, hq⟩
    · rw [i.j z hz n e]
      exact ⟨fun h => ⟨.inl h.1, h.2⟩, fun h => ⟨h.1.resolve_right e, h.2⟩⟩
end DL
namespace DL
open PySem PySem.Spec PyProof.Rows L2
/-! ### the end -/
def spLawD (K : PySem.W.Frag) : Sp := fun vs H Q E => ∃ (a : Addr) (ns : List Int), vs = [.ref a] ∧ SqL K H a (ns.map V.int) ∧ ns.length ≤ 63 ∧ ∀ H', Q (.bl true) H'
theorem ok_end {P : Program} {w : World} {K : PySem.W.Frag} {mg : Str → Option Value} {base : Heap} {CX : CXT} {k : Nat} {f : Addr} {fd : FuncData} {ps : List Str} {S : SpF} (F : FnOk P w K mg base CX k f fd ps (spA K mg 1 S))
    (hS : ∀ ns : List Int, ns.length ≤ 63 → S [.scr ns] (fun _ => none) (fun v _ => v = .bl true) (fun _ _ _ => False)) : FnOk P w K mg base CX k f fd ps (spLawD K) := by
  refine F.imp ?_
  rintro vs H Q E ⟨a, ns, rfl, sq, hl, q⟩
  refine ⟨[.scr ns], fun _ => none, _, _, ?_, ?_, rfl, hS ns hl, ?_, fun _ _ _ _ _ _ z => z.elim⟩
  · rw [RVs]
    refine ⟨.ref a, [], rfl, ?_, rfl⟩
    rw [RV]
    refine ⟨a, rfl, ?_⟩
    rcases sq with z | z
    · exact .inl ⟨rfl, z⟩
    · exact .inr z
  · intro a o e; cases e
  · rintro v h' x H' rfl _ rv _
    rw [RV] at rv
    rw [rv]; exact q H'
theorem walkD {l : PySem.W.OpenLaw} {k : Nat} {q : Program} {loose : List Str} {XP : (Str → Option Value) → Heap → Prop} {YP : World → Heap → Prop} {d : DefRec} {K : Params → PySem.W.Frag} (hn : l.most = some 63) (hdf : d.params.defaults = []) (hr : Room k callerA)
    (hY : ∀ (w : World) (h : Heap), YP w h → (K w.params).In h)
    (F : ∀ (w : World) (mg : Str → Option Value) (fa : Addr) (h : Heap), (K w.params).In h → h.Ns mainGlobals mg → mg d.name = some (.ref fa) →
      ∃ fd : FuncData, (∀ (s : Shared) (u : Value), BindsTo s fd ⟨[u], []⟩ [("script", u)]) ∧ ∀ base : Heap, (K w.params).In base → base.Ns mainGlobals mg → FnOk l.prog w (K w.params) mg base (L2.CX l.prog w) k fa fd ["script"] (spLawD (K w.params))) :
    PySem.W.WalkO q loose XP YP l.row.toRowW d [] (fun f vs => PySem.call f vs) :=
  L2.walk_of (n := 63) (k := k) (x := "script") (CX := fun w => L2.CX l.prog w) (sp := fun w => spLawD (K w.params)) hn (by decide) hdf hr hY F (fun _ _ a ns hl _ hS => ⟨a, ns, rfl, hS, hl, fun _ => rfl⟩) fun _ _ _ _ _ z => by
    obtain ⟨_, _, _, _, _, _, _, _, _, _, _, _, hE⟩ := z
    exact hE
/-- a promise that nobody can ask for -/
theorem fn_no {P : Program} {w : World} {K : PySem.W.Frag} {mg : Str → Option Value} {base : Heap} {CX : CXT} {k : Nat} {f : Addr} {fd : FuncData} {ps : List Str} {n : Nat} {S : SpF} (h : ∀ as h Q E, S as h Q E → False) : FnOk P w K mg base CX k f fd ps (spA K mg n S) :=
  ⟨fun vs H Q E ⟨_, _, _, _, _, _, _, z, _⟩ => (h _ _ _ _ z).elim, fun _ _ _ _ _ _ _ _ _ _ _ _ _ ⟨_, _, _, _, _, _, _, z, _⟩ => (h _ _ _ _ z).elim⟩
end DL
namespace DL
open PySem PySem.Spec PyProof.Rows L2
/-! ### the end of a law that makes lambdas -/
def S_lawN (NS : List Str) (G : Gx) : SpF := fun as h Q _ => ∃ ns, as = [.scr ns] ∧ ns.length ≤ 63 ∧ G.ns = NS ∧ Tbs G.Ts h ∧ ∀ h', Q (.bl true) h'
def spLawT (K : PySem.W.Frag) (Ts : List Addr) : Sp := fun vs H Q E => ∃ (a : Addr) (ns : List Int), vs = [.ref a] ∧ SqL K H a (ns.map V.int) ∧ ns.length ≤ 63 ∧ (∀ T ∈ Ts, H T = some (.tbl #[])) ∧ ∀ H', Q (.bl true) H'
def tabH (Ts : List (Addr × Str)) : Hv := fun b => (Ts.lookup b).map Ob.tab
theorem tabH_ok : ∀ {Ts : List (Addr × Str)}, (Ts.map (·.1)).Nodup → Tbs Ts (tabH Ts)
  | [], _ => ⟨fun _ h => absurd h (by simp), fun b q h => by simp [tabH] at h⟩
  | (a, q0) :: Ts, nd => by
    rw [List.map_cons, List.nodup_cons] at nd
    have ih := tabH_ok nd.2
    refine ⟨fun p hp => ?_, fun b q hb => ?_⟩
    · unfold tabH
      rw [List.lookup_cons]
      rcases List.mem_cons.mp hp with z | z
      · subst z; simp
      · have ne : (p.1 == a) = false := by
          rw [beq_eq_false_iff_ne]; intro e; refine nd.1 ?_; rw [← e]; exact List.mem_map_of_mem (f := (·.1)) z
        rw [ne]
        exact ih.has p z
    · unfold tabH at hb
      rw [List.lookup_cons] at hb
      cases e : b == a with
      | true =>
        rw [e] at hb
        have := beq_iff_eq.mp e
        subst this
        cases hb
        exact List.mem_cons_self
      | false =>
        rw [e] at hb
        exact List.mem_cons_of_mem _ (ih.all b q hb)
theorem ok_endT {P : Program} {w : World} {K : PySem.W.Frag} {mg : Str → Option Value} {base : Heap} {CX : CXT} {k : Nat} {f : Addr} {G : Gx} {NS : List Str} {fd : FuncData} {ps : List Str} (hns : G.ns = NS) (nd : (G.Ts.map (·.1)).Nodup) (F : FnOk P w K mg base CX k f fd ps (spA K mg 1 (S_lawN NS G))) : FnOk P w K mg base CX k f fd ps (spLawT K (G.Ts.map (·.1))) := by
  refine F.imp ?_
  generalize hTs : G.Ts = Ts at *
  rintro vs H Q E ⟨a, ns, rfl, sq, hl, hT, q⟩
  have tb := tabH_ok nd
  refine ⟨[.scr ns], tabH Ts, fun v _ => v = .bl true, fun _ _ _ => False, ?_, ?_, rfl, ⟨ns, rfl, hl, hns, by rw [hTs]; exact tb, fun _ => rfl⟩, ?_, fun _ _ _ _ _ _ z => z.elim⟩
  · rw [RVs]
    refine ⟨.ref a, [], rfl, ?_, rfl⟩
    rw [RV]
    refine ⟨a, rfl, ?_⟩
    rcases sq with z | z
    · refine .inl ⟨?_, z⟩
      cases e : tabH Ts a with
      | none => rfl
      | some o =>
        have : ∃ q, o = .tab q := by
          unfold tabH at e
          cases e2 : Ts.lookup a with
          | none => rw [e2] at e; cases e
          | some q => rw [e2] at e; cases e; exact ⟨q, rfl⟩
        obtain ⟨q0, rfl⟩ := this
        have hm := tb.all a q0 e
        have := hT a (List.mem_map_of_mem (f := (·.1)) hm)
        rcases z with z | ⟨o, z⟩ <;> rw [this] at z <;> cases z
    · exact .inr z
  · intro b o e
    have : ∃ q, o = .tab q := by
      unfold tabH at e
      cases e2 : Ts.lookup b with
      | none => rw [e2] at e; cases e
      | some q => rw [e2] at e; cases e; exact ⟨q, rfl⟩
    obtain ⟨q0, rfl⟩ := this
    have hm := tb.all b q0 e
    exact ⟨#[], hT b (List.mem_map_of_mem (f := (·.1)) hm), True.intro, fun pos cv hc => by
      have z : codeAmong pos [] = some cv := hc
      simp [codeAmong] at z⟩
  · rintro v h' x H' rfl _ rv _
    rw [RV] at rv
    rw [rv]; exact q H'
/-- a def by its body's denotation, its code object known -/
theorem fn_mkC {P : Program} {w : World} {K : PySem.W.Frag} {mg : Str → Option Value} {base : Heap} {x qual : Str} {st : Stmt} {f : Addr} {fd : FuncData} {N ps : List Str} {k : Nat} {fs : SpF} {den : SD} (F : Fun K x qual st f fd) (S : FnScope N ps (defScope st))
    (hd : ∀ (cdv : Value) (A : Around) (outer : List Env) (s : Shared) (H : Hp) (E : XK) (B : Bs), fd.code = cdv → Room k (A.deeper (envOfC qual (defScope st) s.heap.objs.size f cdv)) → TakesB (cxOf (L2.CX P w) P w K mg base N qual (defScope st) f cdv A outer s H E) B →
      DSs (cxOf (L2.CX P w) P w K mg base N qual (defScope st) f cdv A outer s H E) B (defBody st) den)
    (hs : ∀ as h Q E, as.length = ps.length → fs as h Q E → den (startA N as) h ⟨fun _ h' => ∃ h2, Lss h' h2 ∧ Q .non h2, fun v h' => ∃ v2 h2, Conv v h' v2 h2 ∧ Q v2 h2, fun _ _ => False, fun _ _ => False⟩ (fun nm pl _ h' => ∃ h2, Lss h' h2 ∧ E nm pl h2)) :
    FnOk P w K mg base (L2.CX P w) (k + 1) f fd ps (spA K mg ps.length fs) := by
  obtain ⟨oc, od, kV, doc, pm, an, cdv0, ct, osl, efd, lk, hcd⟩ := F.ex
  have hcode : fd.code = cdv0 := by rw [efd]
  rw [efd] at lk ⊢
  refine fn_of lk hcd S (fun vs H Q E h => ?_) (fun A outer s H vs Q E hr h => ?_)
  · obtain ⟨as, h, Q', E', rs, _, e, _⟩ := h
    rw [← rs.len]; exact e
  · obtain ⟨as, h, Q', E', rs, r, e, q, C, CX⟩ := h
    refine ⟨_, hd cdv0 A outer s H E ⟨fun nm pl _ h' => ∃ h2, Lss h' h2 ∧ E' nm pl h2, h, H⟩ hcode hr ?_, startA N as, h, _, ⟨rs.getS N, r, Step.refl _ _⟩, hs as h Q' E' e q, ?_⟩
    · have tk : Takes (cxOf (L2.CX P w) P w K mg base N qual (defScope st) f cdv0 A outer s H E) (fun cls d _ H => E cls d H) := takes_of rfl rfl rfl rfl
      refine tk.imp fun cls d σ H1 hw => ?_
      obtain ⟨nm, pl, ρ, h1, hm, S1, pld, h2, l2, hE⟩ := hw
      exact CX nm pl h2 cls d H1 hE (S1.b.trans l2.step) (S1.r.less l2.l) hm (pld.step l2.step)
    · refine ⟨fun ρ1 h1 σ1 H1 q1 s1 S1 => ?_, fun v h1 x H1 q1 s1 rv1 r1 => ?_, fun _ _ _ _ z => z.elim, fun _ _ _ _ z => z.elim⟩
      · obtain ⟨h2, l2, q2⟩ := q1
        exact C _ _ _ _ q2 (s1.trans l2.step) rv_non (S1.r.less l2.l)
      · obtain ⟨v2, h2, c2, q2⟩ := q1
        exact C _ _ _ _ q2 (s1.trans c2.1.step) (c2.2 K H1 x r1 rv1) (r1.less c2.1.l)
/-- a def of the head, no default -/
theorem fun_of {K : PySem.W.Frag} {x qual : Str} {st : Stmt} {f : Addr} {fd : FuncData} (F : FunD K x qual (defArgs st) (defBody st) (defScope st) [] [] f fd) : Fun K x qual st f fd := by
  obtain ⟨oc, od, dV, kV, doc, pm, an, cdv, ct, osl, e, lk, hcd, hd, _⟩ := F.ex
  have : dV = .none := hd.elim (fun z => z.2) fun z => absurd rfl z.1
  subst this
  exact ⟨⟨oc, od, kV, doc, pm, an, cdv, ct, osl, e, lk, hcd⟩, F.kp⟩
/-- a class's facts, by one Bool -/
def clsN : List Str := ["NotOf", "NoLand", "NoPath", "TooMany", "NoClaims", "NoThing", "NoWorth", "BadBook", "NoBack", "NoText"]
def excCB (K : PySem.W.Frag) (D : Addr) : Bool :=
  decide (PySem.W.findIn K (.ref D) "__getattribute__" = some (some (.builtin "BaseException.__getattribute__"))) && (decide (PySem.W.findIn K (.ref D) "__getattr__" = some none) && (decide (PySem.W.subIn K (.ref D) (.type "BaseException") = some true) && (PySem.W.hasDictIn K D &&
  (decide (PySem.W.findIn K (.ref D) "__class__" = some (some (.builtin "object.__class__"))) && (decide (PySem.W.specialIn K (.builtin "object.__class__") "__get__" = some (some (.builtin "getset_descriptor.__get__"))) && (decide (PySem.W.takesIn K (.builtin "object.__class__") = some true) && decide (PySem.W.mroIn K D (.type "object") = some true)))))))
theorem excCB_ok {K : PySem.W.Frag} {D : Addr} (h : excCB K D = true) : ExcC K D := by
  unfold excCB at h
  simp only [Bool.and_eq_true, decide_eq_true_eq] at h
  obtain ⟨a, b, c, d, e, f, g, i⟩ := h
  exact ⟨a, b, c, d, e, f, g, i⟩
def excRB (K : PySem.W.Frag) (x : Str) : Bool := PySem.W.excIn K (He.ga K x) He.veBase "ValueError.__new__" && (PySem.W.keepIn K (.ref (He.ga K x)) && (decide (PySem.W.subIn K (.ref (He.ga K x)) (.type "BaseException") = some true) && decide (PySem.W.typeIn K (.ref (He.ga K x)) = some (.type "type"))))
def exB (rs : List Str) (K : PySem.W.Frag) : Bool :=
  (("CountError" : Str) :: clsN).all (fun x => He.eqO (PySem.W.nsIn K mainGlobals x) (some (some (.ref (He.ga K x))))) &&
  rs.all fun x => excCB K (He.ga K x) && (decide (PySem.W.exmOne K (.ref (He.ga K x)) (.ref (He.ga K "CountError")) = some true) && (clsN.all (fun y => decide (PySem.W.kitOne K (.ref (He.ga K x)) (.ref (He.ga K y)) = some (decide (x = y)))) &&
    (decide (PySem.W.kitOne K (.ref (He.ga K x)) (.type "ValueError") = some true) && excRB K x)))
theorem exB_ok {rs : List Str} {K : PySem.W.Frag} {h : Heap} {mg : Str → Option Value} (X : K.In h) (G : h.Ns mainGlobals mg) (e : exB rs K = true) (hs : ∀ x ∈ rs, x ∈ (["NoLand", "NoPath", "TooMany", "NoClaims", "NoThing", "NoWorth", "BadBook", "NoBack", "NoText"] : List Str)) :
    HCls K mg (He.ga K) rs ∧ ∀ x ∈ rs, XcR K mg x := by
  unfold exB at e
  simp only [Bool.and_eq_true, List.all_eq_true, decide_eq_true_eq] at e
  obtain ⟨e1, e2⟩ := e
  have gm : ∀ x ∈ ("CountError" : Str) :: clsN, mg x = some (.ref (He.ga K x)) := fun x hx => PySem.W.mg_of X G (He.eqO_ok (e1 x hx))
  refine ⟨⟨gm, fun x hx => excCB_ok (e2 x hx).1, fun x hx => (e2 x hx).2.1, fun x hx y hy => (e2 x hx).2.2.1 y hy, fun x hx => (e2 x hx).2.2.2.1, hs⟩, fun x hx => ?_⟩
  have r := (e2 x hx).2.2.2.2
  unfold excRB at r
  simp only [Bool.and_eq_true, decide_eq_true_eq] at r
  exact ⟨He.ga K x, gm x (List.mem_cons_of_mem _ (List.mem_cons_of_mem _ (hs x hx))), r.1, r.2.1, r.2.2.1, r.2.2.2⟩
/-- the tables are apart -/
def exT (rs : List Str) (tf : List He.Defn) (K : PySem.W.Frag) : Bool := exB rs K && decide ((tf.map fun p => (He.cT K p).2).Nodup)
theorem exT_ok {rs : List Str} {tf : List He.Defn} {K : PySem.W.Frag} (h : exT rs tf K = true) : exB rs K = true ∧ (tf.map fun p => (He.cT K p).2).Nodup := by
  unfold exT at h
  rw [Bool.and_eq_true, decide_eq_true_eq] at h
  exact h
def exN (tf : List He.Defn) (K : PySem.W.Frag) : Bool := decide ((tf.map fun p => (He.cT K p).2).Nodup)
theorem exN_ok {tf : List He.Defn} {K : PySem.W.Frag} (h : exN tf K = true) : (tf.map fun p => (He.cT K p).2).Nodup := of_decide_eq_true h
/-- the walk's end -/
theorem walkT {l : PySem.W.OpenLaw} {k : Nat} {q : Program} {loose : List Str} {XP : (Str → Option Value) → Heap → Prop} {d : DefRec} {fa : List He.Fa} {fn : List He.DefD} {tf : List He.Defn} {ex : PySem.W.Frag → Bool} (hn : l.most = some 63) (hdf : d.params.defaults = []) (hnm : d.name = "law") (hr : Room k callerA)
    (F : ∀ (w : World) (K : PySem.W.Frag) (mg : Str → Option Value) (f : Addr) (h : Heap), K.In h → h.Ns mainGlobals mg → mg "law" = some (.ref f) → He.SaysX fa fn [] tf ex w h K →
      ∃ fd : FuncData, (∀ (s : Shared) (u : Value), BindsTo s fd ⟨[u], []⟩ [("script", u)]) ∧ ∀ base : Heap, K.In base → base.Ns mainGlobals mg → (∀ p ∈ tf, LamX.TabB base mg (He.cT K p).1 (He.cT K p).2) → FnOk l.prog w K mg base (L2.CX l.prog w) k f fd ["script"] (spLawT K (tf.map fun p => (He.cT K p).2))) :
    PySem.W.WalkO q loose XP (He.hookX 4 fa fn [] tf ex).says l.row.toRowW d [] (fun f vs => PySem.call f vs) := by
  refine LamX.walk_ofTsE (l := l) (n := 63) (k := k) (x := "script") (CX := fun w => L2.CX l.prog w) hn (by decide) hdf hr (fun w mg f h Y G hmg0 => ?_) (fun _ _ _ _ _ z => ?_)
  · obtain ⟨K, KX, c⟩ := Y
    have hmg : mg "law" = some (.ref f) := by rw [← hnm]; exact hmg0
    obtain ⟨fd, hb, hF⟩ := F w K mg f h KX G hmg c
    refine ⟨K, KX, fd, tf.map (He.cT K), spLawT K (tf.map fun p => (He.cT K p).2), fun p hp => ?_, fun p hp => ?_, fun p hp => ?_, hb, fun H a ns hl _ hT hS => ⟨a, ns, rfl, hS, hl, fun T hT' => ?_, fun _ => rfl⟩, fun base KB GB TB => hF base KB GB fun p hp => TB _ (List.mem_map_of_mem hp)⟩
    · obtain ⟨z, hz, rfl⟩ := List.mem_map.mp hp; exact c.empty _ hz
    · obtain ⟨z, hz, rfl⟩ := List.mem_map.mp hp; exact c.out _ hz
    · obtain ⟨z, hz, rfl⟩ := List.mem_map.mp hp; exact PySem.W.codeHd_of_K KX (c.hd _ hz)
    · obtain ⟨z, hz, rfl⟩ := List.mem_map.mp hT'; exact hT _ (List.mem_map_of_mem hz)
  · obtain ⟨_, _, _, _, _, _, _, _, _, _, _, _, hE⟩ := z
    exact hE
theorem code_law {K : PySem.W.Frag} {x qual : Str} {st : Stmt} {fd : FuncData} {cdv : Value} {p : Str × Option Str} (F : Fun K x qual st (He.fAd K p) fd) (e : fd.code = cdv) : cdv = .ref (He.cT K p).1 := by
  obtain ⟨oc, od, kV, doc, pm, an, cdv0, ct, osl, efd, lk, hcd⟩ := F.ex
  obtain ⟨c, ec⟩ := He.codeIn_ref hcd
  have hc : fd.code = .ref c := by rw [efd]; exact ec
  rw [← e, hc]
  exact congrArg Value.ref (He.codeOf_eq lk hc).symm
end DL
namespace DL
open PySem PySem.Spec PyProof.Rows L2
def den__law_heard (K : PySem.W.Frag) (cs : Str → Addr) : SD := (sSeq (sIf (dTest (dBin fIsN (dVar 1) (dC .non))) (sRet (dTup (aCons (dC (.str "told")) (aCons (dVar 2) aNil)))) sNext) (sSeq (sIf (dTruth (dCB (fIsK K) (aCons (dVar 1) (aCons (dC (.ref (cs "NotOf"))) aNil)))) sDead sNext) (sSeq (sSet 4 (dDisp [((dC (.str "no land")), (dCB (fIsK K) (aCons (dVar 1) (aCons (dC (.ref (cs "NoLand"))) aNil)))), ((dC (.str "no path")), (dCB (fIsK K) (aCons (dVar 1) (aCons (dC (.ref (cs "NoPath"))) aNil))))])) (sSeq (sExpr (dBM "dict" fUpd (dVar 4) (aCons (dDisp [((dC (.str "too many")), (dCB (fIsK K) (aCons (dVar 1) (aCons (dC (.ref (cs "TooMany"))) aNil)))), ((dC (.str "no claims")), (dCB (fIsK K) (aCons (dVar 1) (aCons (dC (.ref (cs "NoClaims"))) aNil))))]) aNil))) (sSeq (sExpr (dBM "dict" fUpd (dVar 4) (aCons (dDisp [((dC (.str "no thing")), (dCB (fIsK K) (aCons (dVar 1) (aCons (dC (.ref (cs "NoThing"))) aNil)))), ((dC (.str "no worth")), (dCB (fIsK K) (aCons (dVar 1) (aCons (dC (.ref (cs "NoWorth"))) aNil))))]) aNil))) (sSeq (sExpr (dBM "dict" fUpd (dVar 4) (aCons (dDisp [((dC (.str "no book")), (dCB (fIsK K) (aCons (dVar 1) (aCons (dC (.ref (cs "BadBook"))) aNil)))), ((dC (.str "no back")), (dCB (fIsK K) (aCons (dVar 1) (aCons (dC (.ref (cs "NoBack"))) aNil))))]) aNil))) (sSeq (sDPut (dVar 4) (dC (.str "no text")) (dCB (fIsK K) (aCons (dVar 1) (aCons (dC (.ref (cs "NoText"))) aNil)))) (sSeq (sSet 5 (dLc (dKeys (dVar 4)) (.nm 6) (dTruth (dDGet (dVar 4) (dVar 6))) (dVar 6) [6])) (sRet (dIfE (dAnd (dTest (dBin fEq (dCB fLen (aCons (dVar 5) aNil)) (dC (.int 1)))) (dTruth (dCB (fIsK K) (aCons (dVar 1) (aCons (dC (.ty "ValueError")) aNil))))) (dTup (aCons (dBin fIx (dVar 5) (dC (.int 0))) aNil)) (dTup (aCons (dC (.str "is wrong")) aNil))))))))))))
end DL
namespace DL
open PySem PySem.Spec PyProof.Rows L2
theorem bt_ValueError : bootBuiltins "ValueError" = some (.type "ValueError") := by decide +kernel
theorem lc_keys {i : Nat} {t : Tg} {tt : TD} {te : ED} {vs : List Nat} {ρ : Sl} {h : Hv} {Q : PV} {E : PX} {d : Addr} {kvs : List (Key × Val)} (e : ρ[i]? = some (some (.ref d))) (hd : h d = some (.dK kvs))
    (q : ∀ o xs, dLc (dKeys (dVar i)) t tt te vs ρ (put h d (.dF o xs kvs)) Q E) : dLc (dKeys (dVar i)) t tt te vs ρ h Q E := by
  unfold dLc dKeys dVar at q ⊢
  simp only [e, put_same, hd] at q ⊢
  exact q
/-- isinstance of the caught one -/
theorem is_k {K : PySem.W.Frag} {cs : Str → Addr} {D a : Addr} {h : Hv} {Q : PV} {cv : Val} {v : Value} {b : Bool} (ha : h a = some (.exc D)) (C : ExcC K D) (e : cvOf cv = some v) (k : PySem.W.kitOne K (.ref D) v = some b) (q : Q (.bl b) h) : fIsK K [.ref a, cv] h Q := by
  unfold fIsK
  simp only [ha]
  exact ⟨C, b, v, e, k, q⟩
theorem disp2 {K : PySem.W.Frag} {cs : Str → Addr} {D a : Addr} {h : Hv} {Q : PV} {E : PX} {ρ : Sl} {x z y1 y2 : Str} {b1 b2 : Bool} (e : ρ[1]? = some (some (.ref a))) (hA : h a = some (.exc D)) (C : ExcC K D) (hx : (Sum.inr x : Key) ≠ Sum.inr z)
    (k1 : PySem.W.kitOne K (.ref D) (.ref (cs y1)) = some b1) (k2 : PySem.W.kitOne K (.ref D) (.ref (cs y2)) = some b2) (q : ∀ p, h p = none → Q (.ref p) (put h p (.dK [(.inr x, .bl b1), (.inr z, .bl b2)]))) :
    dDisp [((dC (.str x)), (dCB (fIsK K) (aCons (dVar 1) (aCons (dC (.ref (cs y1))) aNil)))), ((dC (.str z)), (dCB (fIsK K) (aCons (dVar 1) (aCons (dC (.ref (cs y2))) aNil))))] ρ h Q E := by
  simp only [dDisp]
  intro p hp
  have pa : a ≠ p := fun z => by rw [z, hp] at hA; cases hA
  have hA1 : put h p .busy a = some (.exc D) := by rw [put_ne pa]; exact hA
  simp only [dPairs, sSet, sFor, sIf, sRet, sExpr, sPar, sAsg, sSeq, sNext, sAug, dIt, dTup, dLst, dLstH, dCB, dCall, dCallK, dBin, dUn, dTest, dChain, dIfE, aCons, aNil, dVar, dC, dTruth, dNot, dAnd, dOr, vAnd, vOr, vNot, dBM, dSl, dRev, oSome, oNone, e]
  refine is_k (cs := cs) hA1 C rfl k1 ?_
  refine is_k (cs := cs) hA1 C rfl k2 ?_
  have em : mergeA [] [((Sum.inr x : Key), Val.bl b1), (Sum.inr z, .bl b2)] = [(Sum.inr x, .bl b1), (Sum.inr z, .bl b2)] := by
    simp only [mergeA, List.foldl_cons, List.foldl_nil, putA, List.any_nil, List.nil_append, List.any_cons, List.any_nil, Bool.or_false, Bool.false_eq_true, if_false]
    rw [if_neg (by simpa using hx)]
    rfl
  simp only [kvsOf, keyOf]
  rw [em, put_put]
  exact ⟨(show 2 ≤ 15 by decide), q p hp⟩
theorem upd2 {K : PySem.W.Frag} {cs : Str → Addr} {D a d : Addr} {h : Hv} {Q : PV} {E : PX} {ρ : Sl} {x z y1 y2 : Str} {b1 b2 : Bool} {kvs : List (Key × Val)} (e : ρ[1]? = some (some (.ref a))) (e4 : ρ[4]? = some (some (.ref d))) (hA : h a = some (.exc D)) (hd : h d = some (.dK kvs)) (C : ExcC K D) (hx : (Sum.inr x : Key) ≠ Sum.inr z) (hl : kvs.length ≤ 20)
    (k1 : PySem.W.kitOne K (.ref D) (.ref (cs y1)) = some b1) (k2 : PySem.W.kitOne K (.ref D) (.ref (cs y2)) = some b2)
    (q : ∀ p, h p = none → Q .non (put (put h p (.dK [(.inr x, .bl b1), (.inr z, .bl b2)])) d (.dK (mergeA kvs [(.inr x, .bl b1), (.inr z, .bl b2)])))) :
    dBM "dict" fUpd (dVar 4) (aCons (dDisp [((dC (.str x)), (dCB (fIsK K) (aCons (dVar 1) (aCons (dC (.ref (cs y1))) aNil)))), ((dC (.str z)), (dCB (fIsK K) (aCons (dVar 1) (aCons (dC (.ref (cs y2))) aNil))))]) aNil) ρ h Q E := by
  unfold dBM
  simp only [dVar, e4]
  refine ⟨by unfold tyA; simp only [hd], ?_⟩
  simp only [aCons, aNil]
  refine disp2 e hA C hx k1 k2 fun p hp => ?_
  have pd : d ≠ p := fun z => by rw [z, hp] at hd; cases hd
  unfold fUpd
  simp only [put_same, put_ne pd, hd]
  refine ⟨pd, ?_, q p hp⟩
  show kvs.length + 2 ≤ sizeLine
  rw [sizeLine_eq]; omega
def kv9 (b1 b2 b3 b4 b5 b6 b7 b8 b9 : Bool) : List (Key × Val) := [(.inr "no land", .bl b1), (.inr "no path", .bl b2), (.inr "too many", .bl b3), (.inr "no claims", .bl b4), (.inr "no thing", .bl b5), (.inr "no worth", .bl b6), (.inr "no book", .bl b7), (.inr "no back", .bl b8), (.inr "no text", .bl b9)]
def pv9 (kvs : List (Key × Val)) : Val → Bool := fun v => match v with
  | .str z => (match valA kvs (.inr z) with
    | some (.bl b) => b
    | _ => false)
  | _ => false
theorem kv9_all (b1 b2 b3 b4 b5 b6 b7 b8 b9 : Bool) : ∀ v ∈ (kv9 b1 b2 b3 b4 b5 b6 b7 b8 b9).map fun p => keyV p.1, ∃ z b, v = .str z ∧ valA (kv9 b1 b2 b3 b4 b5 b6 b7 b8 b9) (.inr z) = some (.bl b) := by
  intro v hv
  simp only [kv9, List.map_cons, List.map_nil, List.mem_cons, List.not_mem_nil, or_false, keyV] at hv
  rcases hv with e | e | e | e | e | e | e | e | e
  · exact ⟨_, b1, e, rfl⟩
  · exact ⟨_, b2, e, rfl⟩
  · exact ⟨_, b3, e, rfl⟩
  · exact ⟨_, b4, e, rfl⟩
  · exact ⟨_, b5, e, rfl⟩
  · exact ⟨_, b6, e, rfl⟩
  · exact ⟨_, b7, e, rfl⟩
  · exact ⟨_, b8, e, rfl⟩
  · exact ⟨_, b9, e, rfl⟩
theorem tail_exc {K : PySem.W.Frag} {cs : Str → Addr} {D a : Addr} {h : Hv} {Dd : AE} {E : PX} {w : Str} {b1 b2 b3 b4 b5 b6 b7 b8 b9 : Bool} (C : ExcC K D) (ha : h a = none)
    (k0 : PySem.W.kitOne K (.ref D) (.ref (cs "NotOf")) = some false) (k1 : PySem.W.kitOne K (.ref D) (.ref (cs "NoLand")) = some b1) (k2 : PySem.W.kitOne K (.ref D) (.ref (cs "NoPath")) = some b2) (k3 : PySem.W.kitOne K (.ref D) (.ref (cs "TooMany")) = some b3)
    (k4 : PySem.W.kitOne K (.ref D) (.ref (cs "NoClaims")) = some b4) (k5 : PySem.W.kitOne K (.ref D) (.ref (cs "NoThing")) = some b5) (k6 : PySem.W.kitOne K (.ref D) (.ref (cs "NoWorth")) = some b6) (k7 : PySem.W.kitOne K (.ref D) (.ref (cs "BadBook")) = some b7)
    (k8 : PySem.W.kitOne K (.ref D) (.ref (cs "NoBack")) = some b8) (k9 : PySem.W.kitOne K (.ref D) (.ref (cs "NoText")) = some b9) (kv : PySem.W.kitOne K (.ref D) (.type "ValueError") = some true)
    (hw : ((((kv9 b1 b2 b3 b4 b5 b6 b7 b8 b9).map fun p => keyV p.1).filter (pv9 (kv9 b1 b2 b3 b4 b5 b6 b7 b8 b9))).map id) = [.str w]) (q : ∀ h2, Lss h2 h → Dd.rt (.tup [.str w]) h2) :
    den__law_heard K cs [none, some (.ref a), none, none, none, none, none] (put h a (.exc D)) Dd E := by
  have hA : put h a (.exc D) a = some (.exc D) := put_same
  have l0 : Lss (put h a (.exc D)) h := Lss.put ha (fun z => nomatch z)
  generalize put h a (.exc D) = h0 at hA l0 ⊢
  unfold den__law_heard
  refine seq_o fun K1 hK => ?_
  simp only [sSet, sFor, sIf, sRet, sExpr, sPar, sAsg, sSeq, sNext, sAug, dIt, dTup, dLst, dLstH, dCB, dCall, dCallK, dBin, dUn, dTest, dChain, dIfE, aCons, aNil, dVar, dC, dTruth, dNot, dAnd, dOr, vAnd, vOr, vNot, dBM, dSl, dRev, oSome, oNone]
  simp only [List.getElem?_cons_succ, List.getElem?_cons_zero, fIsN, Bool.false_eq_true, if_false]
  subst hK
  refine seq_o fun K1 hK => ?_
  simp only [sSet, sFor, sIf, sRet, sExpr, sPar, sAsg, sSeq, sNext, sAug, dIt, dTup, dLst, dLstH, dCB, dCall, dCallK, dBin, dUn, dTest, dChain, dIfE, aCons, aNil, dVar, dC, dTruth, dNot, dAnd, dOr, vAnd, vOr, vNot, dBM, dSl, dRev, oSome, oNone]
  simp only [List.getElem?_cons_succ, List.getElem?_cons_zero]
  refine is_k (cs := cs) hA C rfl k0 ?_
  simp only [truA, Bool.false_eq_true, if_false]
  subst hK
  refine seq_o fun K1 hK => ?_
  simp only [sSet]
  refine disp2 (by rfl) hA C (by decide +kernel) k1 k2 fun p hp => ?_
  have pa : a ≠ p := fun z => by rw [z, hp] at hA; cases hA
  subst hK
  have hA1 : put h0 p (.dK [(.inr "no land", .bl b1), (.inr "no path", .bl b2)]) a = some (.exc D) := by rw [put_ne pa]; exact hA
  have hd1 : put h0 p (.dK [(.inr "no land", .bl b1), (.inr "no path", .bl b2)]) p = some (.dK [(.inr "no land", .bl b1), (.inr "no path", .bl b2)]) := put_same
  have l1 : Lss (put h0 p (.dK [(.inr "no land", .bl b1), (.inr "no path", .bl b2)])) h := (Lss.put (o := .dK _) hp (fun z => nomatch z)).trans l0
  have hp' : h p = none := by
    rcases l0.l p with z | z
    · exact z
    · rw [z]; exact hp
  -- what is known of the dict's place, from now on
  have step : ∀ {h1 h2 : Hv} {kvs kvs' : List (Key × Val)} {o : Ob} {p2 : Addr}, o ≠ .busy → h1 a = some (.exc D) → h1 p = some (.dK kvs) → Lss h1 h → h1 p2 = none → h2 = put (put h1 p2 o) p (.dK kvs') → h2 a = some (.exc D) ∧ h2 p = some (.dK kvs') ∧ Lss h2 h := by
    intro h1 h2 kvs kvs' o p2 no e1 e2 l e3 eh
    have n1 : a ≠ p2 := fun z => by rw [z, e3] at e1; cases e1
    subst eh
    refine ⟨by rw [put_ne pa, put_ne n1]; exact e1, put_same, ⟨fun b => ?_, fun b hb => ?_⟩⟩
    · by_cases hb : b = p
      · subst hb; exact .inl hp'
      · rw [put_ne hb]
        exact ((Lss.put e3 no).trans l).l b
    · by_cases hb2 : b = p
      · subst hb2; rw [put_same] at hb; cases hb
      · rw [put_ne hb2] at hb
        exact ((Lss.put e3 no).trans l).b b hb
  generalize put h0 p (.dK [(.inr "no land", .bl b1), (.inr "no path", .bl b2)]) = h1 at hA1 hd1 l1 ⊢
  refine seq_o fun K1 hK => ?_
  simp only [sExpr]
  refine upd2 (d := p) (by rfl) (by rfl) hA1 hd1 C (by decide +kernel) (show 2 ≤ 20 by decide) k3 k4 fun p2 hp2 => ?_
  subst hK
  have em : mergeA [((Sum.inr "no land" : Key), Val.bl b1), (.inr "no path", .bl b2)] [(.inr "too many", .bl b3), (.inr "no claims", .bl b4)] = [(.inr "no land", .bl b1), (.inr "no path", .bl b2), (.inr "too many", .bl b3), (.inr "no claims", .bl b4)] := rfl
  rw [em]
  generalize hh : put (put h1 p2 _) p _ = h2
  obtain ⟨hA2, hd2, l2⟩ := step (o := .dK _) (fun z => nomatch z) hA1 hd1 l1 hp2 hh.symm
  refine seq_o fun K1 hK => ?_
  simp only [sExpr]
  refine upd2 (d := p) (by rfl) (by rfl) hA2 hd2 C (by decide +kernel) (show 4 ≤ 20 by decide) k5 k6 fun p3 hp3 => ?_
  subst hK
  have em : mergeA [((Sum.inr "no land" : Key), Val.bl b1), (.inr "no path", .bl b2), (.inr "too many", .bl b3), (.inr "no claims", .bl b4)] [(.inr "no thing", .bl b5), (.inr "no worth", .bl b6)] = [(.inr "no land", .bl b1), (.inr "no path", .bl b2), (.inr "too many", .bl b3), (.inr "no claims", .bl b4), (.inr "no thing", .bl b5), (.inr "no worth", .bl b6)] := rfl
  rw [em]
  generalize hh : put (put h2 p3 _) p _ = h3
  obtain ⟨hA3, hd3, l3⟩ := step (o := .dK _) (fun z => nomatch z) hA2 hd2 l2 hp3 hh.symm
  refine seq_o fun K1 hK => ?_
  simp only [sExpr]
  refine upd2 (d := p) (by rfl) (by rfl) hA3 hd3 C (by decide +kernel) (show 6 ≤ 20 by decide) k7 k8 fun p4 hp4 => ?_
  subst hK
  have em : mergeA [((Sum.inr "no land" : Key), Val.bl b1), (.inr "no path", .bl b2), (.inr "too many", .bl b3), (.inr "no claims", .bl b4), (.inr "no thing", .bl b5), (.inr "no worth", .bl b6)] [(.inr "no book", .bl b7), (.inr "no back", .bl b8)] = [(.inr "no land", .bl b1), (.inr "no path", .bl b2), (.inr "too many", .bl b3), (.inr "no claims", .bl b4), (.inr "no thing", .bl b5), (.inr "no worth", .bl b6), (.inr "no book", .bl b7), (.inr "no back", .bl b8)] := rfl
  rw [em]
  generalize hh : put (put h3 p4 _) p _ = h4
  obtain ⟨hA4, hd4, l4⟩ := step (o := .dK _) (fun z => nomatch z) hA3 hd3 l3 hp4 hh.symm
  refine seq_o fun K1 hK => ?_
  simp only [sSet, sFor, sIf, sRet, sExpr, sPar, sAsg, sSeq, sNext, sAug, dIt, dTup, dLst, dLstH, dCB, dCall, dCallK, dBin, dUn, dTest, dChain, dIfE, aCons, aNil, dVar, dC, dTruth, dNot, dAnd, dOr, vAnd, vOr, vNot, dBM, dSl, dRev, oSome, oNone, sDPut, List.getElem?_set_ne, List.getElem?_cons_succ, List.getElem?_cons_zero, List.set_cons_succ, List.set_cons_zero]
  refine is_k (cs := cs) hA4 C rfl k9 ?_
  have ep : dputA (.ref p) (.str "no text") (.bl b9) h4 = some (put h4 p (.dK (kv9 b1 b2 b3 b4 b5 b6 b7 b8 b9))) := by
    unfold dputA
    simp only [hd4, keyOf]
    have h8 : 8 < sizeLine := by rw [sizeLine_eq]; omega
    exact if_pos h8
  rw [ep]
  have hA5 : put h4 p (.dK (kv9 b1 b2 b3 b4 b5 b6 b7 b8 b9)) a = some (.exc D) := by rw [put_ne pa]; exact hA4
  have hd5 : put h4 p (.dK (kv9 b1 b2 b3 b4 b5 b6 b7 b8 b9)) p = some (.dK (kv9 b1 b2 b3 b4 b5 b6 b7 b8 b9)) := put_same
  have wr : ∀ {h1 : Hv} {o o2 : Ob}, h1 p = some o2 → o2 ≠ .busy → o ≠ .busy → Lss h1 h → Lss (put h1 p o) h := fun {h1 o o2} e n2 n l => ⟨fun b => by
      by_cases hb : b = p
      · subst hb; exact .inl hp'
      · rw [put_ne hb]; exact l.l b, fun b hb => by
      by_cases hb2 : b = p
      · subst hb2; rw [put_same] at hb; exact absurd (Option.some.inj hb) n
      · rw [put_ne hb2] at hb; exact l.b b hb⟩
  have l5 : Lss (put h4 p (.dK (kv9 b1 b2 b3 b4 b5 b6 b7 b8 b9))) h := wr hd4 (fun z => nomatch z) (fun z => nomatch z) l4
  generalize put h4 p (.dK (kv9 b1 b2 b3 b4 b5 b6 b7 b8 b9)) = h5 at hA5 hd5 l5 ⊢
  dsimp only
  subst hK
  refine seq_o fun K1 hK => ?_
  simp only [sSet]
  refine lc_keys (d := p) (by rfl) hd5 fun o xs => ?_
  have hA6 : put h5 p (.dF o xs (kv9 b1 b2 b3 b4 b5 b6 b7 b8 b9)) a = some (.exc D) := by rw [put_ne pa]; exact hA5
  have hd6 : put h5 p (.dF o xs (kv9 b1 b2 b3 b4 b5 b6 b7 b8 b9)) p = some (.dF o xs (kv9 b1 b2 b3 b4 b5 b6 b7 b8 b9)) := put_same
  have l6 : Lss (put h5 p (.dF o xs (kv9 b1 b2 b3 b4 b5 b6 b7 b8 b9))) h := wr hd5 (fun z => nomatch z) (fun z => nomatch z) l5
  generalize put h5 p (.dF o xs (kv9 b1 b2 b3 b4 b5 b6 b7 b8 b9)) = h6 at hA6 hd6 l6 ⊢
  refine lc_filt (items := (kv9 b1 b2 b3 b4 b5 b6 b7 b8 b9).map fun p => keyV p.1) (ok := fun h2 => h2 p = some (.dF o xs (kv9 b1 b2 b3 b4 b5 b6 b7 b8 b9))) (pv9 (kv9 b1 b2 b3 b4 b5 b6 b7 b8 b9)) id (fun R hR => ?_) (fun h' sb => sb p _ hd6) (show 9 ≤ sizeLine by rw [sizeLine_eq]; omega) (fun v hv => ?_) ?_
  · unfold dKeys
    simp only [dVar, List.getElem?_cons_succ, List.getElem?_cons_zero, List.set_cons_succ, List.set_cons_zero, hd6]
    exact hR
  · obtain ⟨z, b, rfl, ez⟩ := kv9_all b1 b2 b3 b4 b5 b6 b7 b8 b9 v hv
    refine ⟨_, rfl, fun h' Q' sb q' => ?_, fun _ h' Q' sb q' => q'⟩
    have e6 := sb p _ hd6
    have pb : pv9 (kv9 b1 b2 b3 b4 b5 b6 b7 b8 b9) (.str z) = b := by unfold pv9; simp only [ez]
    rw [pb] at q'
    show dTruth (dDGet (dVar 4) (dVar 6)) [none, some (.ref a), none, none, some (.ref p), none, some (.str z)] h' Q' EF
    simp only [dTruth, dDGet, dVar, List.getElem?_cons_succ, List.getElem?_cons_zero, dgetA, e6, keyOf, ez, truA]
    exact q'
  · rw [hw]
    subst hK
    simp only [sSet, sFor, sIf, sRet, sExpr, sPar, sAsg, sSeq, sNext, sAug, dIt, dTup, dLst, dLstH, dCB, dCall, dCallK, dBin, dUn, dTest, dChain, dIfE, aCons, aNil, dVar, dC, dTruth, dNot, dAnd, dOr, vAnd, vOr, vNot, dBM, dSl, dRev, oSome, oNone, List.getElem?_cons_succ, List.getElem?_cons_zero, List.set_cons_succ, List.set_cons_zero]
    simp
    refine is_k (cs := cs) hA6 C rfl kv ?_
    simp
    rw [atI_zero]
    exact ⟨by rw [sizeLine_eq]; omega, q h6 l6⟩
theorem tail_ok {K : PySem.W.Frag} {mg : Str → Option Value} {cs : Str → Addr} {rs : List Str} (C : HCls K mg cs rs) : HTail K cs rs (den__law_heard K cs) := by
  refine ⟨fun v h D E q => ?_, fun nm a h D E hin ha q => ?_⟩
  · unfold den__law_heard
    refine seq_o fun K1 hK => ?_
    simp only [sSet, sFor, sIf, sRet, sExpr, sPar, sAsg, sSeq, sNext, sAug, dIt, dTup, dLst, dLstH, dCB, dCall, dCallK, dBin, dUn, dTest, dChain, dIfE, aCons, aNil, dVar, dC, dTruth, dNot, dAnd, dOr, vAnd, vOr, vNot, dBM, dSl, dRev, oSome, oNone]
    simp
    exact ⟨by rw [sizeLine_eq]; omega, q⟩
  · have k : ∀ y ∈ (["NotOf", "NoLand", "NoPath", "TooMany", "NoClaims", "NoThing", "NoWorth", "BadBook", "NoBack", "NoText"] : List Str), PySem.W.kitOne K (.ref (cs nm)) (.ref (cs y)) = some (decide (nm = y)) := C.kt nm hin
    have m := C.sub nm hin
    have go : ∀ w, decide (nm = "NotOf") = false → heardW nm = w → ((((kv9 (decide (nm = "NoLand")) (decide (nm = "NoPath")) (decide (nm = "TooMany")) (decide (nm = "NoClaims")) (decide (nm = "NoThing")) (decide (nm = "NoWorth")) (decide (nm = "BadBook")) (decide (nm = "NoBack")) (decide (nm = "NoText"))).map fun p => keyV p.1).filter (pv9 (kv9 (decide (nm = "NoLand")) (decide (nm = "NoPath")) (decide (nm = "TooMany")) (decide (nm = "NoClaims")) (decide (nm = "NoThing")) (decide (nm = "NoWorth")) (decide (nm = "BadBook")) (decide (nm = "NoBack")) (decide (nm = "NoText"))))).map id) = [.str w] →
        den__law_heard K cs [none, some (.ref a), none, none, none, none, none] (put h a (.exc (cs nm))) D E := fun w h0 hw h1 => by
      rw [hw] at q
      exact tail_exc (C.ec nm hin) ha (by rw [k _ (by decide +kernel), h0]) (k _ (by decide +kernel)) (k _ (by decide +kernel)) (k _ (by decide +kernel)) (k _ (by decide +kernel)) (k _ (by decide +kernel)) (k _ (by decide +kernel)) (k _ (by decide +kernel)) (k _ (by decide +kernel)) (k _ (by decide +kernel)) (C.ve nm hin) h1 q
    simp only [List.mem_cons, List.not_mem_nil, or_false] at m
    rcases m with e | e | e | e | e | e | e | e | e <;> subst e <;> exact go _ (by decide +kernel) rfl rfl
end DL
namespace DL
open PySem PySem.Spec PyProof.Rows L2
/-- no land's name -/
def odd (b : Book) (v : Val) : Prop := flatA v = true ∧ inA v (b.names.map .str) = false
def S_look_land : SpF := fun as h Q E => ∃ (b : Book) (v : Val), as = [encB b, v] ∧ b.lands.length ≤ 4 ∧ ((∃ z, v = .str z ∧ z ∈ b.names ∧ Q .non h) ∨ (odd b v ∧ E "NoLand" none h))
def S_taken_by : SpF := fun as h Q E => ∃ (b : Book) (v : Val), as = [encB b, v] ∧ b.lands.length ≤ 4 ∧ b.pacts.length ≤ 16 ∧ ((∃ z, v = .str z ∧ z ∈ b.names ∧ Q (.tup ((takesL b z).map .str)) h) ∨ (odd b v ∧ E "NoLand" none h))
def S_has_share : SpF := fun as h Q E => ∃ (b : Book) (v : Val) (c w : Int), as = [encB b, v, .int c, .int w] ∧ WFB b ∧ ((∃ z, v = .str z ∧ z ∈ b.names ∧ Q (.bl (enough b z c w)) h) ∨ (odd b v ∧ E "NoLand" none h))
end DL
namespace DL
open PySem PySem.Spec PyProof.Rows L2
/-! ## tables -/
noncomputable def dec (p : Prop) : Bool := @decide p (Classical.propDecidable p)
theorem dec_iff {p : Prop} : dec p = true ↔ p := by unfold dec; exact @decide_eq_true_iff p (Classical.propDecidable p)
def S_bits_of : SpF := fun as h Q _ => ∃ (v : Val) (ns : List Int), as = [v] ∧ v = .tup (ns.map .int) ∧ (∀ n ∈ ns, 0 ≤ n ∧ n ≤ 1000) ∧ ns.length ≤ 1000 ∧ Q (.int ((bitsL ns : Nat) : Int)) h
def S_set_of : SpF := fun as h Q _ => ∃ n : Nat, as = [.int (n : Int)] ∧ Q (encS n) h
def S_parts_of : SpF := fun as h Q _ => ∃ n : Nat, as = [.int (n : Int)] ∧ n < 256 ∧ Q (.lst ((partsN n).map fun (p : Nat) => .int (p : Int))) h
def encD (xs : List Nat) : List (Key × Val) := xs.map fun n => (.inl ((n : Nat) : Int), .bl true)
/-- where a table's dicts stand -/
structure Ad where
  tk : Addr
  gd : Addr
  jd : Addr
  ga : Str → Addr
  ja : Str → Addr
def tabF (b : Book) (hp : Heap') (A : Ad) : List (Str × Val) :=
  [("book", encB b), ("heap", encH hp), ("names", .lst (b.names.map .str)), ("taken", .ref A.tk), ("good", .ref A.gd), ("joined", .ref A.jd), ("whole", .int ((2 ^ hp.length : Nat) - 1 : Int)), ("weights", .lst ((List.range (2 ^ hp.length)).map fun n => .int (wt hp n)))]
def takD (b : Book) : List (Key × Val) := b.names.map fun z => (.inr z, .tup ((takesL b z).map .str))
def refD (b : Book) (f : Str → Addr) : List (Key × Val) := b.names.map fun z => (.inr z, .ref (f z))
structure Small (xs : List Nat) : Prop where
  nd : xs.Nodup
  lt : ∀ n ∈ xs, n < 256
structure TabAt (G : Gx) (h : Hv) (a : Addr) (b : Book) (hp : Heap') (gs js : Str → List Nat) (A : Ad) : Prop where
  ins : h a = some (.ins (G.C "Table") (tabF b hp A))
  tk : h A.tk = some (.dK (takD b))
  gd : h A.gd = some (.dK (refD b A.ga))
  jd : h A.jd = some (.dK (refD b A.ja))
  ga : ∀ z ∈ b.names, h (A.ga z) = some (.dK (encD (gs z)))
  ja : ∀ z ∈ b.names, h (A.ja z) = some (.dK (encD (js z)))
  ng : ∀ z ∈ b.names, ∀ y ∈ b.names, z ≠ y → A.ga z ≠ A.ga y
  nj : ∀ z ∈ b.names, ∀ y ∈ b.names, z ≠ y → A.ja z ≠ A.ja y
  gj : ∀ z ∈ b.names, ∀ y ∈ b.names, A.ga z ≠ A.ja y
  ngt : ∀ z ∈ b.names, A.ga z ≠ A.tk ∧ A.ga z ≠ A.gd ∧ A.ga z ≠ A.jd
  njt : ∀ z ∈ b.names, A.ja z ≠ A.tk ∧ A.ja z ≠ A.gd ∧ A.ja z ≠ A.jd
  sg : ∀ z ∈ b.names, Small (gs z)
  sj : ∀ z ∈ b.names, Small (js z)
/-- nothing but the inner dicts has changed -/
def OffT (b : Book) (A : Ad) (h h' : Hv) : Prop := (∀ c, (∀ z ∈ b.names, c ≠ A.ga z ∧ c ≠ A.ja z) → h' c = h c)
def S_Table_join (G : Gx) : SpF := fun as h Q _ => ∃ (a : Addr) (b : Book) (hp : Heap') (gs js : Str → List Nat) (A : Ad) (z : Str) (m : Nat), as = [.ref a, .str z, .int (m : Int)] ∧ TabAt G h a b hp gs js A ∧ WFB b ∧ z ∈ b.names ∧ m ≠ 0 ∧ m < 256 ∧
  ∀ h' js', TabAt G h' a b hp gs js' A → OffT b A h h' → (∀ y, y ≠ z → js' y = js y) → (∀ n, n ∈ js' z ↔ n ∈ js z ∨ (n = m ∧ JC b gs js z m)) → Q .non h'
def S_Table_can_be_made (G : Gx) : SpF := fun as h Q _ => ∃ (a : Addr) (b : Book) (hp : Heap') (gs js : Str → List Nat) (A : Ad) (z : Str) (m : Nat), as = [.ref a, .str z, .int (m : Int)] ∧ TabAt G h a b hp gs js A ∧ WFB b ∧ hp.length ≤ 8 ∧ z ∈ b.names ∧ inH hp m ∧
  ∀ r : Bool, (r = true ↔ CM b hp js z m) → Q (.bl r) h
def S_Table_fill (G : Gx) : SpF := fun as h Q _ => ∃ (a : Addr) (b : Book) (hp : Heap') (gs js : Str → List Nat) (A : Ad) (D : Nat → Prop) (m : Nat), as = [.ref a, .int (m : Int)] ∧ TabAt G h a b hp gs js A ∧ TInv b hp D gs js ∧ FillOk b hp D m ∧
  ∀ h' gs' js', TabAt G h' a b hp gs' js' A → OffT b A h h' → TInv b hp (fun n => D n ∨ n = m) gs' js' → Q .non h'
def S_Table___init__ (G : Gx) : SpF := fun as h Q _ => ∃ (a : Addr) (b : Book) (hp : Heap') (h0 : Hv), as = [.ref a, encB b, encH hp] ∧ WFB b ∧ HpOk b hp ∧ h0 a = none ∧ h = put h0 a (.ins (G.C "Table") []) ∧ Tbs G.Ts h0 ∧ ("Table.__init__" : Str) ∈ G.ns ∧
  ∀ h' A gs js, TabAt G h' a b hp gs js A → TInv b hp (fun n => n ≠ 0 ∧ inH hp n) gs js → Lss h' h0 → (∀ z ∈ b.names, h0 (A.ga z) = none ∧ h0 (A.ja z) = none) → Q .non h'
/-- all sets that can count as of a land -/
noncomputable def canL (b : Book) (hp : Heap') (z : Str) : List Nat := (List.range (2 ^ hp.length)).filter fun n => dec (n ≠ 0 ∧ Can b hp z n)
theorem mem_canL {b : Book} {hp : Heap'} {z : Str} {n : Nat} : n ∈ canL b hp z ↔ inH hp n ∧ n ≠ 0 ∧ Can b hp z n := by
  unfold canL inH
  rw [List.mem_filter, List.mem_range, dec_iff]
def leSet (a b : Nat) : Bool := !decide (setI b < setI a)
def sortS (xs : List Nat) : List Nat := xs.mergeSort leSet
noncomputable def tabV (b : Book) (hp : Heap') : Val := .tup (b.names.map fun z => .tup ((sortS (canL b hp z)).map encS))
def TabPre (G : Gx) (h : Hv) (b : Book) (hp : Heap') : Prop := WFB b ∧ HpOk b hp ∧ Tbs G.Ts h ∧ ("Table.__init__" : Str) ∈ G.ns
noncomputable def S_can_count (G : Gx) : SpF := fun as h Q E => ∃ (b : Book) (hp : Heap') (v : Val) (n : Nat), as = [encB b, encH hp, encS n, v] ∧ TabPre G h b hp ∧ n ≠ 0 ∧ inH hp n ∧ ((∃ z, v = .str z ∧ z ∈ b.names ∧ Q (.bl (dec (Can b hp z n))) h) ∨ (odd b v ∧ E "NoLand" none h))
noncomputable def S_all_lands (G : Gx) : SpF := fun as h Q _ => ∃ (b : Book) (hp : Heap'), as = [encB b, encH hp] ∧ TabPre G h b hp ∧ 1 ≤ hp.length ∧ Q (.tup ((b.names.filter fun z => dec (Can b hp z (2 ^ hp.length - 1))).map .str)) h
noncomputable def S_table_of (G : Gx) : SpF := fun as h Q _ => ∃ (b : Book) (hp : Heap'), as = [encB b, encH hp] ∧ TabPre G h b hp ∧ Q (tabV b hp) h
end DL
namespace DL
open PySem PySem.Spec PyProof.Rows L2
set_option maxHeartbeats 0 in
theorem pop_lt_all : ((List.range 256).all fun n => (partsN n).all fun p => p == n || decide ((setI p).length < (setI n).length)) = true := by decide +kernel
theorem pop_lt {p n : Nat} (hn : n < 256) (p0 : p ≠ 0) (h : sub p n = true) (ne : p ≠ n) : (setI p).length < (setI n).length := by
  have := List.all_eq_true.mp (List.all_eq_true.mp pop_lt_all n (List.mem_range.mpr hn)) p (mem_parts.mpr ⟨p0, h⟩)
  rw [Bool.or_eq_true, beq_iff_eq, decide_eq_true_eq] at this
  exact this.resolve_left ne
/-! picking by places -/
def pickL (n s : Nat) : List Int := (setI s).map fun i => (setI n).getD i.toNat 0
def pick (n s : Nat) : Nat := bitsL (pickL n s)
set_option maxHeartbeats 0 in
theorem pick_all : ((List.range 64).all fun n => ((List.range' 1 (2 ^ (setI n).length - 1)).all fun s => setI (pick n s) == pickL n s && (pick n s != 0 && sub (pick n s) n)) && (partsN n).all fun p => (List.range' 1 (2 ^ (setI n).length - 1)).any fun s => pick n s == p) = true := by decide +kernel
theorem pick_ok {n s : Nat} (hn : n < 64) (s0 : s ≠ 0) (hs : s < 2 ^ (setI n).length) : setI (pick n s) = pickL n s ∧ pick n s ≠ 0 ∧ sub (pick n s) n = true := by
  have := List.all_eq_true.mp pick_all n (List.mem_range.mpr hn)
  rw [Bool.and_eq_true] at this
  have := List.all_eq_true.mp this.1 s (List.mem_range'_1.mpr (by omega))
  rw [Bool.and_eq_true, Bool.and_eq_true, beq_iff_eq, bne_iff_ne] at this
  exact this
theorem pick_sur {n p : Nat} (hn : n < 64) (p0 : p ≠ 0) (hp : sub p n = true) : ∃ s, s ≠ 0 ∧ s < 2 ^ (setI n).length ∧ pick n s = p := by
  have := List.all_eq_true.mp pick_all n (List.mem_range.mpr hn)
  rw [Bool.and_eq_true] at this
  have := List.all_eq_true.mp this.2 p (mem_parts.mpr ⟨p0, hp⟩)
  obtain ⟨s, hs, e⟩ := List.any_eq_true.mp this
  have := List.mem_range'_1.mp hs
  exact ⟨s, by omega, by omega, beq_iff_eq.mp e⟩
set_option maxHeartbeats 0 in
theorem head_all : ((List.range 256).all fun n => (partsN n).all fun p => ((setI p).head? == (setI n).head?) == (lowN n &&& p != 0) && (setI (n - p) == (setI n).filter fun i => !(setI p).contains i)) = true := by decide +kernel
theorem head_low {n p : Nat} (hn : n < 256) (p0 : p ≠ 0) (h : sub p n = true) : ((setI p).head? = (setI n).head? ↔ lowN n &&& p ≠ 0) ∧ setI (n - p) = (setI n).filter fun i => !(setI p).contains i := by
  have := List.all_eq_true.mp (List.all_eq_true.mp head_all n (List.mem_range.mpr hn)) p (mem_parts.mpr ⟨p0, h⟩)
  rw [Bool.and_eq_true, beq_iff_eq, beq_iff_eq] at this
  refine ⟨?_, this.2⟩
  rw [← beq_iff_eq, this.1, bne_iff_ne]
theorem sub_mem {n p : Nat} (hn : n < 256) (hp : p < 256) : sub p n = true ↔ ∀ i ∈ setI p, i ∈ setI n := by
  rw [sub_iff]
  unfold setI
  constructor
  · intro h i hi
    obtain ⟨j, hj, rfl⟩ := List.mem_map.mp hi
    exact List.mem_map.mpr ⟨j, (mem_setN hn).mpr (h j ((mem_setN hp).mp hj)), rfl⟩
  · intro h i hi
    have := h i (List.mem_map.mpr ⟨i, (mem_setN hp).mpr hi, rfl⟩)
    obtain ⟨j, hj, e⟩ := List.mem_map.mp this
    have : j = i := by omega
    subst this
    exact (mem_setN hn).mp hj
theorem dbl_all : ((List.range 8).all fun i => (List.range (2 ^ i)).all fun j => setI (2 ^ i + j) == setI j ++ [(i : Int)]) = true := by decide +kernel
theorem set_dbl {i j : Nat} (hi : i < 8) (hj : j < 2 ^ i) : setI (2 ^ i + j) = setI j ++ [(i : Int)] := beq_iff_eq.mp (List.all_eq_true.mp (List.all_eq_true.mp dbl_all i (List.mem_range.mpr hi)) j (List.mem_range.mpr hj))
end DL
namespace DL
open PySem PySem.Spec PyProof.Rows L2
theorem Jnd.monoZ {P P' : Nat → Prop} {n : Nat} (hn : n < 256) (j : Jnd P n) (h : ∀ p, p ≠ 0 → sub p n = true → P p → P' p) : Jnd P' n := by
  induction j with
  | one n0 hp => exact .one n0 (h _ n0 (sub_refl _) hp)
  | more s p0 pn l hp _ ih => exact .more s p0 pn l (h _ p0 s hp) (ih (lt_of_sub hn (rest_sub hn s)) fun q q0 hq => h q q0 (sub_trans hq (rest_sub hn s)))
/-- all sets of so many, lesser ones ahead -/
def ltK (a b : Nat) : Bool := decide ((setI a).length < (setI b).length) || (decide ((setI a).length = (setI b).length) && decide (setI a < setI b))
def leK (a b : Nat) : Bool := !ltK b a
def setsL (k : Nat) : List Nat := (List.range' 1 (2 ^ k - 1)).mergeSort leK
theorem mem_setsL {k n : Nat} : n ∈ setsL k ↔ n ≠ 0 ∧ n < 2 ^ k := by
  unfold setsL
  rw [List.mem_mergeSort, List.mem_range'_1]
  have : 1 ≤ 2 ^ k := Nat.one_le_two_pow
  omega
theorem setsL_nodup (k : Nat) : (setsL k).Nodup := (List.mergeSort_perm _ _).nodup_iff.mpr List.nodup_range'
theorem leK_len {a b : Nat} (h : leK a b = true) : (setI a).length ≤ (setI b).length := by
  unfold leK ltK at h
  simp only [Bool.not_eq_true', Bool.or_eq_false_iff, decide_eq_false_iff_not] at h
  omega
theorem leK_tot (a b : Nat) : (leK a b || leK b a) = true := by
  unfold leK ltK
  by_cases h1 : (setI a).length < (setI b).length
  · have : ¬ (setI b).length < (setI a).length := by omega
    have : ¬ (setI b).length = (setI a).length := by omega
    simp [*]
  · by_cases h2 : (setI b).length < (setI a).length
    · have : ¬ (setI a).length = (setI b).length := by omega
      simp [*]
    · by_cases h3 : setI b < setI a
      · have : ¬ setI a < setI b := fun h' => List.lt_irrefl _ (List.lt_trans h3 h')
        simp [*]
      · simp [*]
theorem leK_tr {a b c : Nat} (h : leK a b = true) (h' : leK b c = true) : leK a c = true := by
  unfold leK ltK at *
  simp only [Bool.not_eq_true', Bool.or_eq_false_iff, decide_eq_false_iff_not, Bool.and_eq_false_iff] at *
  refine ⟨by omega, ?_⟩
  by_cases e : (setI c).length = (setI a).length
  · right
    have h1 := h.2.resolve_left (by omega)
    have h2 := h'.2.resolve_left (by omega)
    exact List.not_lt.mpr (List.le_trans (List.not_lt.mp h1) (List.not_lt.mp h2))
  · left; exact e
theorem setsL_up (k : Nat) : (setsL k).Pairwise fun a b => (setI a).length ≤ (setI b).length :=
  (List.pairwise_mergeSort (le := leK) (fun a b c h h' => leK_tr h h') leK_tot _).imp fun h => leK_len h
/-! what a law makes -/
def CMade (b : Book) (hp : Heap') (fs : Str → List Nat) (z : Str) (m : Nat) : Prop := ∃ p, sub p m = true ∧ Jnd (Tk b (fun t q => q ∈ fs t) z) p ∧ enough b z (wt hp p) (wt hp m) = true
def rawS (hp : Heap') (z : Str) (n : Nat) : Prop := ∃ (i : Nat) (w : Int), hp[i]? = some (w, some z) ∧ n = 2 ^ i
theorem raw_can {b : Book} {hp : Heap'} {z : Str} {n : Nat} (h : rawS hp z n) : Can b hp z n := by
  obtain ⟨i, w, h, rfl⟩ := h
  exact (can_clo b hp).raw i w z h
structure LInv (b : Book) (hp : Heap') (D : Nat → Prop) (fs : Str → List Nat) : Prop where
  f : ∀ z ∈ b.names, ∀ n, n ∈ fs z ↔ (D n ∧ Can b hp z n) ∨ rawS hp z n
structure LMid (b : Book) (hp : Heap') (D : Nat → Prop) (m : Nat) (fs : Str → List Nat) : Prop where
  f : ∀ z ∈ b.names, ∀ n, n ≠ m → (n ∈ fs z ↔ (D n ∧ Can b hp z n) ∨ rawS hp z n)
  mc : ∀ z ∈ b.names, m ∈ fs z → Can b hp z m
  r : ∀ z ∈ b.names, rawS hp z m → m ∈ fs z
theorem LInv.mid {b : Book} {hp : Heap'} {D : Nat → Prop} {fs : Str → List Nat} (i : LInv b hp D fs) (m : Nat) : LMid b hp D m fs :=
  ⟨fun z hz n _ => i.f z hz n, fun z hz h => ((i.f z hz m).mp h).elim (fun h => h.2) raw_can, fun z hz h => (i.f z hz m).mpr (.inr h)⟩
theorem lmid_can {b : Book} {hp : Heap'} {D : Nat → Prop} {m : Nat} {fs : Str → List Nat} (i : LMid b hp D m fs) {z : Str} (hz : z ∈ b.names) {n : Nat} (h : n ∈ fs z) : Can b hp z n := by
  by_cases e : n = m
  · subst e; exact i.mc z hz h
  · exact ((i.f z hz n e).mp h).elim (fun h => h.2) raw_can
theorem cmade_sound {b : Book} {hp : Heap'} {D : Nat → Prop} {m : Nat} {fs : Str → List Nat} (f : FillOk b hp D m) (i : LMid b hp D m fs) {z : Str} (hz : z ∈ b.names) (h : CMade b hp fs z m) : Can b hp z m := by
  obtain ⟨p, s, j, e⟩ := h
  exact (can_clo b hp).made z hz m f.mH p s (j.mono fun q ⟨t, ht, hq⟩ => ⟨t, ht, lmid_can i (takes_names f.w hz ht) hq⟩) e
theorem law_end {b : Book} {hp : Heap'} {D : Nat → Prop} {m : Nat} {fs : Str → List Nat} (f : FillOk b hp D m) (i : LMid b hp D m fs) (c : ∀ z ∈ b.names, m ∈ fs z ∨ ¬ CMade b hp fs z m) : LInv b hp (fun n => D n ∨ n = m) fs := by
  have hlt := f.lt
  have fr : ∀ {k : Nat} {w : Int} {z : Str}, hp[k]? = some (w, some z) → z ∈ b.names := fun {k w z} h => f.ho.fr _ (List.mem_of_getElem? h) z rfl
  have comp : ∀ z ∈ b.names, Can b hp z m → m ∈ fs z := by
    intro z hz hc
    have cl : Clo b hp (fun z n => z ∈ b.names ∧ (if n = m then m ∈ fs z else Can b hp z n)) := by
      refine ⟨fun k w z h => ⟨fr h, ?_⟩, fun z hz n hn p s jn e => ⟨hz, ?_⟩⟩
      · split
        · rename_i e; exact i.r z (fr h) ⟨k, w, h, e.symm⟩
        · exact (can_clo b hp).raw k w z h
      · have down : ∀ q, Tk b (fun z n => z ∈ b.names ∧ (if n = m then m ∈ fs z else Can b hp z n)) z q → Tk b (Can b hp) z q := by
          rintro q ⟨t, ht, htn, h⟩
          refine ⟨t, ht, ?_⟩
          split at h
          · rename_i eq; subst eq; exact i.mc t htn h
          · exact h
        split
        · rename_i en
          subst en
          rcases c z hz with h | h
          · exact h
          · exfalso
            apply h
            refine ⟨p, s, jn.monoZ (lt_of_sub hlt s) ?_, e⟩
            rintro q q0 sq ⟨t, ht, htn, hq⟩
            refine ⟨t, ht, ?_⟩
            split at hq
            · rename_i eq; rw [eq]; exact hq
            · rename_i nq; exact (i.f t htn q nq).mpr (.inl ⟨f.low q q0 nq (sub_trans sq s), hq⟩)
        · exact (can_clo b hp).made z hz n hn p s (jn.mono down) e
    have := can_least cl hc
    rw [if_pos rfl] at this
    exact this.2
  refine ⟨fun z hz n => ?_⟩
  by_cases e : n = m
  · subst e
    exact ⟨fun h => .inl ⟨.inr rfl, i.mc z hz h⟩, fun h => h.elim (fun h => comp z hz h.2) fun h => i.r z hz h⟩
  · rw [i.f z hz n e]
    exact ⟨fun h => h.imp (fun h => ⟨.inl h.1, h.2⟩) id, fun h => h.imp (fun h => ⟨h.1.resolve_right e, h.2⟩) id⟩
/-- nothing of h0 is gone, nothing new is being filled -/
structure Grw (G : Gx) (h0 h : Hv) : Prop where
  sub : Sub h0 h
  bz : ∀ c, h c = some .busy → h0 c = some .busy
  tb : Tbs G.Ts h
theorem Grw.lss {G : Gx} {h0 h : Hv} (g : Grw G h0 h) : Lss h h0 := ⟨fun c => by
  cases e : h0 c with
  | none => exact .inl rfl
  | some o => exact .inr (g.sub c o e).symm, g.bz⟩
theorem Grw.new {G : Gx} {h0 h : Hv} {p : Addr} {o : Ob} (g : Grw G h0 h) (e : h p = none) (nb : o ≠ .busy) (nt : ∀ q, o ≠ .tab q) : Grw G h0 (put h p o) :=
  ⟨g.sub.trans (Sub.put e), fun c hc => by
    by_cases z : c = p
    · subst z; rw [put_same] at hc; exact absurd (Option.some.inj hc) nb
    · rw [put_ne z] at hc; exact g.bz c hc, g.tb.put e nt⟩
theorem Grw.write {G : Gx} {h0 h : Hv} {p : Addr} {o u : Ob} (g : Grw G h0 h) (e0 : h0 p = none) (e : h p = some u) (nu : ∀ q, u ≠ .tab q) (nb : o ≠ .busy) (nt : ∀ q, o ≠ .tab q) : Grw G h0 (put h p o) :=
  ⟨fun c w hc => by rw [put_ne (fun z => by rw [z, e0] at hc; cases hc)]; exact g.sub c w hc, fun c hc => by
    by_cases z : c = p
    · subst z; rw [put_same] at hc; exact absurd (Option.some.inj hc) nb
    · rw [put_ne z] at hc; exact g.bz c hc, g.tb.write e nu nt⟩
end DL
namespace DL
open PySem PySem.Spec PyProof.Rows L2
def S__law_sets (G : Gx) : SpF := fun as h Q _ => ∃ k : Nat, as = [.int (k : Int)] ∧ k ≤ 8 ∧ Tbs G.Ts h ∧ ("_law_sets" : Str) ∈ G.ns ∧ Q (.lst ((setsL k).map encS)) h
noncomputable def SR__law_parted (d : Nat) : SpF := fun as h Q _ => ∃ (n : Nat) (xs : List Nat), as = [encS n, .lst (xs.map encS)] ∧ n < 256 ∧ (∀ x ∈ xs, x ≠ 0 ∧ x < 256) ∧ xs.length ≤ 5000 ∧ (setI n).length < d ∧ Q (.bl (dec (n = 0 ∨ Jnd (fun p => p ∈ xs) n))) h
noncomputable def S__law_parted : SpF := SR__law_parted 24
theorem no__law_parted : ∀ as h Q E, SR__law_parted 0 as h Q E → False := fun _ _ _ _ ⟨_, _, _, _, _, _, z, _⟩ => Nat.not_lt_zero _ z
/-- a dict that is read -/
def DV (h : Hv) (d : Addr) (kvs : List (Key × Val)) : Prop := h d = some (.dK kvs) ∨ ∃ o xs, h d = some (.dF o xs kvs)
/-- the sets that a law has found, by lands -/
structure FndAt (h : Hv) (d : Addr) (la : Str → Addr) (b : Book) (fs : Str → List Nat) : Prop where
  d : DV h d (refD b la)
  l : ∀ z ∈ b.names, h (la z) = some (.lst ((fs z).map encS))
  nl : ∀ z ∈ b.names, ∀ y ∈ b.names, z ≠ y → la z ≠ la y
  s : ∀ z ∈ b.names, Small (fs z)
  z : ∀ z ∈ b.names, ∀ n ∈ fs z, n ≠ 0
noncomputable def S__law_is_made (G : Gx) : SpF := fun as h Q _ => ∃ (b : Book) (hp : Heap') (d : Addr) (la : Str → Addr) (fs : Str → List Nat) (m : Nat) (z : Str), as = [encB b, encH hp, .ref d, encS m, .str z] ∧ WFB b ∧ hp.length ≤ 6 ∧ FndAt h d la b fs ∧ m ≠ 0 ∧ inH hp m ∧ z ∈ b.names ∧ Tbs G.Ts h ∧ ("_law_sets" : Str) ∈ G.ns ∧ Q (.bl (dec (CMade b hp fs z m))) h
def S__law_table (G : Gx) : SpF := fun as h Q _ => ∃ (b : Book) (hp : Heap'), as = [encB b, encH hp] ∧ WFB b ∧ HpOk b hp ∧ hp.length ≤ 6 ∧ Tbs G.Ts h ∧ ("_law_sets" : Str) ∈ G.ns ∧
  ∀ h' d la fs, FndAt h' d la b fs → LInv b hp (fun n => n ≠ 0 ∧ inH hp n) fs → Grw G h h' → h d = none → (∀ z ∈ b.names, h (la z) = none ∧ la z ≠ d) → Q (.ref d) h'
end DL
namespace DL
open PySem PySem.Spec PyProof.Rows L2
def den__law_sets (G : Gx) : SD := (sSeq (sSet 1 (dLst (aCons (dTup aNil) aNil))) (sSeq (sFor (dRange1 (aCons (dVar 0) aNil)) (.nm 2) (sSet 1 (dBin fAdd (dVar 1) (dLc (dIt (dVar 1)) (.nm 3) tTrue (dBin fAdd (dVar 3) (dTup (aCons (dVar 2) aNil))) [3])))) (sRet (dSortK G.Ts (G.T "_law_sets") (lamQ "_law_sets") (aCons (dSl fSl (dVar 1) (oSome (dC (.int 1))) oNone) aNil) (dTup (aCons (dCB fLen (aCons (dVar 0) aNil)) (aCons (dVar 0) aNil)))))))
def den__law_parted (R : SpF) : SD := (sSeq (sIf (dTest (dBin fEq (dVar 0) (dTup aNil))) (sRet (dC (.bl true))) sNext) (sSeq (sFor (dIt (dVar 1)) (.nm 2) (sIf (dAnd (dTest (dBin fEq (dBin fIx (dVar 2) (dC (.int 0))) (dBin fIx (dVar 0) (dC (.int 0))))) (dTest (dBin fEq (dLc (dIt (dVar 2)) (.nm 3) (dTest (dBin fNotIn (dVar 3) (dVar 0))) (dVar 3) [3]) (dLst aNil)))) (sIf (dTruth (dCall 2 R (aCons (dCB fTuple (aCons (dLc (dIt (dVar 0)) (.nm 3) (dTest (dBin fNotIn (dVar 3) (dVar 2))) (dVar 3) [3]) aNil)) (aCons (dVar 1) aNil)))) (sRet (dC (.bl true))) sNext) sNext)) (sRet (dC (.bl false)))))
def den__law_is_made (G : Gx) : SD := (sSeq (sSet 5 (dLst aNil)) (sSeq (sFor (dIt (dCall 2 S__law_takes (aCons (dVar 0) (aCons (dVar 4) aNil)))) (.nm 6) (sSet 5 (dBin fAdd (dVar 5) (dDGet (dVar 2) (dVar 6))))) (sSeq (sSet 7 (dCB fSum (aCons (dLc (dIt (dVar 3)) (.nm 11) tTrue (dBin fIx (dBin fIx (dVar 1) (dVar 11)) (dC (.int 0))) [11]) aNil))) (sSeq (sFor (dIt (dCall 1 (S__law_sets G) (aCons (dCB fLen (aCons (dVar 3) aNil)) aNil))) (.nm 8) (sSeq (sSet 9 (dCB fTuple (aCons (dLc (dIt (dVar 8)) (.nm 11) tTrue (dBin fIx (dVar 3) (dVar 11)) [11]) aNil))) (sSeq (sSet 10 (dCB fSum (aCons (dLc (dIt (dVar 9)) (.nm 11) tTrue (dBin fIx (dBin fIx (dVar 1) (dVar 11)) (dC (.int 0))) [11]) aNil))) (sIf (dAnd (dTruth (dCall 4 S__law_has_share (aCons (dVar 0) (aCons (dVar 4) (aCons (dVar 10) (aCons (dVar 7) aNil)))))) (dTruth (dCall 2 S__law_parted (aCons (dVar 9) (aCons (dVar 5) aNil))))) (sRet (dC (.bl true))) sNext)))) (sRet (dC (.bl false)))))))
def den__law_table (G : Gx) : SD := (sSeq (sSet 3 (dCB fDictP (aCons (dLc (dIt (dBin fIx (dVar 0) (dC (.int 0)))) (.nm 2) tTrue (dTup (aCons (dBin fIx (dVar 2) (dC (.int 0))) (aCons (dLstH aNil) aNil))) [2]) aNil))) (sSeq (sFor (dEnum (aCons (dVar 1) aNil)) (.tp [(.nm 4), (.nm 5)]) (sIf (dTest (dBin fNotN (dBin fIx (dVar 5) (dC (.int 1))) (dC .non))) (sExpr (dBM "list" fAppend (dDGet (dVar 3) (dBin fIx (dVar 5) (dC (.int 1)))) (aCons (dTup (aCons (dVar 4) aNil)) aNil))) sNext)) (sSeq (sFor (dIt (dCall 1 (S__law_sets G) (aCons (dCB fLen (aCons (dVar 1) aNil)) aNil))) (.nm 6) (sSeq (sSet 7 (dC (.bl true))) (sWhile (dTruth (dVar 7)) (sSeq (sSet 7 (dC (.bl false))) (sFor (dKeys (dVar 3)) (.nm 2) (sIf (dAnd (dTest (dBin fNotInD (dVar 6) (dDGet (dVar 3) (dVar 2)))) (dTruth (dCall 5 (S__law_is_made G) (aCons (dVar 0) (aCons (dVar 1) (aCons (dVar 3) (aCons (dVar 6) (aCons (dVar 2) aNil)))))))) (sSeq (sExpr (dBM "list" fAppend (dDGet (dVar 3) (dVar 2)) (aCons (dVar 6) aNil))) (sSet 7 (dC (.bl true)))) sNext)))))) (sRet (dVar 3)))))
end DL
namespace DL
open PySem PySem.Spec PyProof.Rows L2
def den_bits_of : SD := (sRet (dCB fSum (aCons (dLc (dIt (dVar 0)) (.nm 1) tTrue (dBin fShl (dC (.int 1)) (dVar 1)) [1]) aNil)))
def den_set_of : SD := (sRet (dCB fTuple (aCons (dLc (dRange1 (aCons (dC (.int 8)) aNil)) (.nm 1) (dTruth (dBin fBand (dBin fShr (dVar 0) (dVar 1)) (dC (.int 1)))) (dVar 1) [1]) aNil)))
def den_parts_of : SD := (sSeq (sPar [1, 2] (aCons (dLstH aNil) (aCons (dVar 0) aNil))) (sSeq (sWhile (dTruth (dVar 2)) (sSeq (sExpr (dBM "list" fAppend (dVar 1) (aCons (dVar 2) aNil))) (sSet 2 (dBin fBand (dBin fSub (dVar 2) (dC (.int 1))) (dVar 0))))) (sRet (dVar 1))))
def den_Table___init__ (G : Gx) : SD := (sSeq (sFlds (G.C "Table") 0 ["book", "heap"] (aCons (dVar 1) (aCons (dVar 2) aNil))) (sSeq (sFldA (G.C "Table") "names" (dVar 0) (dCall 1 S_names_of (aCons (dVar 1) aNil))) (sSeq (sFldA (G.C "Table") "taken" (dVar 0) (dDc (dIt (dFld (G.C "Table") "names" (dVar 0))) (.nm 4) tTrue (dVar 4) (dCall 2 S_takes (aCons (dVar 1) (aCons (dVar 4) aNil))) [4])) (sSeq (sFldA (G.C "Table") "good" (dVar 0) (dDc (dIt (dFld (G.C "Table") "names" (dVar 0))) (.nm 4) tTrue (dVar 4) dNewK [4])) (sSeq (sFldA (G.C "Table") "joined" (dVar 0) (dDc (dIt (dFld (G.C "Table") "names" (dVar 0))) (.nm 4) tTrue (dVar 4) dNewK [4])) (sSeq (sFldA (G.C "Table") "whole" (dVar 0) (dBin fSub (dBin fShl (dC (.int 1)) (dCB fLen (aCons (dVar 2) aNil))) (dC (.int 1)))) (sSeq (sFldA (G.C "Table") "weights" (dVar 0) (dLc (dRange1 (aCons (dBin fAdd (dFld (G.C "Table") "whole" (dVar 0)) (dC (.int 1))) aNil)) (.nm 3) tTrue (dCall 2 S_worth_of (aCons (dVar 2) (aCons (dCall 1 S_set_of (aCons (dVar 3) aNil)) aNil))) [3])) (sFor (dIt (dSortK G.Ts (G.T "Table.__init__") (lamQ "Table.__init__") (aCons (dListRange2 (aCons (dC (.int 1)) (aCons (dBin fAdd (dFld (G.C "Table") "whole" (dVar 0)) (dC (.int 1))) aNil))) aNil) (dCB fLen (aCons (dCall 1 S_set_of (aCons (dVar 0) aNil)) aNil)))) (.nm 3) (sExpr (dMeth (G.C "Table") "fill" 2 (S_Table_fill G) (dVar 0) (aCons (dVar 3) aNil)))))))))))
def den_Table_fill (G : Gx) : SD := (sSeq (sPar [2, 3] (aCons (dCall 1 S_set_of (aCons (dVar 1) aNil)) (aCons (dC (.bl true)) aNil))) (sSeq (sIf (dAnd (dTest (dBin fEq (dCB fLen (aCons (dVar 2) aNil)) (dC (.int 1)))) (dTest (dBin fNotN (dBin fIx (dBin fIx (dFld (G.C "Table") "heap" (dVar 0)) (dBin fIx (dVar 2) (dC (.int 0)))) (dC (.int 1))) (dC .non)))) (sDPut (dDGet (dFld (G.C "Table") "good" (dVar 0)) (dBin fIx (dBin fIx (dFld (G.C "Table") "heap" (dVar 0)) (dBin fIx (dVar 2) (dC (.int 0)))) (dC (.int 1)))) (dVar 1) (dC (.bl true))) sNext) (sSeq (sFor (dIt (dFld (G.C "Table") "names" (dVar 0))) (.nm 4) (sExpr (dMeth (G.C "Table") "join" 3 (S_Table_join G) (dVar 0) (aCons (dVar 4) (aCons (dVar 1) aNil))))) (sWhile (dTruth (dVar 3)) (sSeq (sSet 3 (dC (.bl false))) (sFor (dIt (dFld (G.C "Table") "names" (dVar 0))) (.nm 4) (sIf (dAnd (dTest (dDNotIn (dVar 1) (dDGet (dFld (G.C "Table") "good" (dVar 0)) (dVar 4)))) (dTruth (dMeth (G.C "Table") "can_be_made" 3 (S_Table_can_be_made G) (dVar 0) (aCons (dVar 4) (aCons (dVar 1) aNil))))) (sSeq (sDPut (dDGet (dFld (G.C "Table") "good" (dVar 0)) (dVar 4)) (dVar 1) (dC (.bl true))) (sSeq (sSet 3 (dC (.bl true))) (sFor (dIt (dFld (G.C "Table") "names" (dVar 0))) (.nm 5) (sExpr (dMeth (G.C "Table") "join" 3 (S_Table_join G) (dVar 0) (aCons (dVar 5) (aCons (dVar 1) aNil))))))) sNext)))))))
def den_Table_join (G : Gx) : SD := (sSeq (sSet 3 (dBin fBand (dVar 2) (dUn fNeg (dVar 2)))) (sFor (dIt (dCall 1 S_parts_of (aCons (dVar 2) aNil))) (.nm 4) (sSeq (sSet 5 (dBin fBxor (dVar 2) (dVar 4))) (sIf (dAnd (dTruth (dBin fBand (dVar 4) (dVar 3))) (dOr (dNot (dTruth (dVar 5))) (dTest (dDIn (dVar 5) (dDGet (dFld (G.C "Table") "joined" (dVar 0)) (dVar 1)))))) (sIf (dTruth (dCB fAny (aCons (dLc (dIt (dDGet (dFld (G.C "Table") "taken" (dVar 0)) (dVar 1))) (.nm 6) tTrue (dDIn (dVar 4) (dDGet (dFld (G.C "Table") "good" (dVar 0)) (dVar 6))) [6]) aNil))) (sSeq (sDPut (dDGet (dFld (G.C "Table") "joined" (dVar 0)) (dVar 1)) (dVar 2) (dC (.bl true))) sRetN) sNext) sNext))))
def den_Table_can_be_made (G : Gx) : SD := (sSeq (sSet 3 (dBin fIx (dFld (G.C "Table") "weights" (dVar 0)) (dVar 2))) (sSeq (sFor (dIt (dCall 1 S_parts_of (aCons (dVar 2) aNil))) (.nm 4) (sIf (dAnd (dTest (dDIn (dVar 4) (dDGet (dFld (G.C "Table") "joined" (dVar 0)) (dVar 1)))) (dTruth (dCall 4 S_is_enough (aCons (dFld (G.C "Table") "book" (dVar 0)) (aCons (dVar 1) (aCons (dBin fIx (dFld (G.C "Table") "weights" (dVar 0)) (dVar 4)) (aCons (dVar 3) aNil))))))) (sRet (dC (.bl true))) sNext)) (sRet (dC (.bl false)))))
def den_can_count (G : Gx) : SD := (sSeq (sExpr (dCall 2 S_look_land (aCons (dVar 0) (aCons (dVar 3) aNil)))) (sRet (dDIn (dCall 1 S_bits_of (aCons (dVar 2) aNil)) (dDGet (dFld (G.C "Table") "good" (dNew (G.C "Table") 3 (S_Table___init__ G) (aCons (dVar 0) (aCons (dVar 1) aNil)))) (dVar 3)))))
def den_all_lands (G : Gx) : SD := (sSeq (sSet 2 (dNew (G.C "Table") 3 (S_Table___init__ G) (aCons (dVar 0) (aCons (dVar 1) aNil)))) (sRet (dCB fTuple (aCons (dLc (dIt (dFld (G.C "Table") "names" (dVar 2))) (.nm 3) (dTest (dDIn (dFld (G.C "Table") "whole" (dVar 2)) (dDGet (dFld (G.C "Table") "good" (dVar 2)) (dVar 3)))) (dVar 3) [3]) aNil))))
def den_table_of (G : Gx) : SD := (sSeq (sSet 2 (dNew (G.C "Table") 3 (S_Table___init__ G) (aCons (dVar 0) (aCons (dVar 1) aNil)))) (sRet (dCB fTuple (aCons (dLc (dIt (dFld (G.C "Table") "names" (dVar 2))) (.nm 3) tTrue (dCB fTuple (aCons (dCB fSortedD (aCons (dLc (dKeys (dDGet (dFld (G.C "Table") "good" (dVar 2)) (dVar 3))) (.nm 4) tTrue (dCall 1 S_set_of (aCons (dVar 4) aNil)) [4]) aNil)) aNil)) [3]) aNil))))
end DL
namespace DL
open PySem PySem.Spec PyProof.Rows L2
def den_look_land : SD := (sIf (dOr (dNot (dTruth (dCB fIsi (aCons (dVar 1) (aCons (dC (.ty "str")) aNil))))) (dTest (dBin fNotIn (dVar 1) (dCall 1 S_names_of (aCons (dVar 0) aNil))))) (sRaise "NoLand") sNext)
def den_taken_by : SD := (sSeq (sExpr (dCall 2 S_look_land (aCons (dVar 0) (aCons (dVar 1) aNil)))) (sRet (dCall 2 S_takes (aCons (dVar 0) (aCons (dVar 1) aNil)))))
def den_has_share : SD := (sSeq (sExpr (dCall 2 S_look_land (aCons (dVar 0) (aCons (dVar 1) aNil)))) (sRet (dCall 4 S_is_enough (aCons (dVar 0) (aCons (dVar 1) (aCons (dVar 2) (aCons (dVar 3) aNil)))))))
end DL
namespace DL
open PySem PySem.Spec PyProof.Rows L2
theorem flats_str {ns : List Str} : (ns.map Val.str).all flatA = true := by
  rw [List.all_map, List.all_eq_true]; intro x _; rfl
theorem bo_look_land (N : List Str) (hN : N.length = 2) : ∀ as h Q E, as.length = 2 → S_look_land as h Q E → den_look_land (startA N as) h (endsR Q) (RX E) := by
  rintro as h Q E - ⟨b, v, rfl, hl, q⟩
  unfold den_look_land
  simp only [startA, hN]
  simp only [sSet, sFor, sIf, sRet, sExpr, sPar, sAsg, sSeq, sNext, sAug, dIt, dTup, dLst, dLstH, dCB, dCall, dCallK, dBin, dUn, dTest, dChain, dIfE, aCons, aNil, dVar, dC, dTruth, dNot, dAnd, dOr, vAnd, vOr, vNot, dBM, dSl, dRev, oSome, oNone]
  rcases q with ⟨z, rfl, hz, q⟩ | ⟨⟨f, i⟩, q⟩
  · have e : inA (.str z) (b.names.map .str) = true := by rw [inA_str]; exact decide_eq_true hz
    simp [isT, tyN]
    refine ⟨b, rfl, hl, ?_⟩
    simp [flats_str, e]
    exact ⟨h, Lss.refl h, q⟩
  · have q : RX E "NoLand" none [some (encB b), some v] h := ⟨h, Lss.refl h, q⟩
    cases v <;> first | (cases f; done) | skip
    · simp [isT, tyN]; exact q
    · simp [isT, tyN]; exact q
    · simp [isT, tyN]; exact q
    · simp [isT, tyN]
      refine ⟨b, rfl, hl, ?_⟩
      simp [flats_str, i]
      exact q
theorem bo_taken_by (N : List Str) (hN : N.length = 2) : ∀ as h Q E, as.length = 2 → S_taken_by as h Q E → den_taken_by (startA N as) h (endsR Q) (RX E) := by
  rintro as h Q E - ⟨b, v, rfl, hl, pl, q⟩
  unfold den_taken_by
  simp only [startA, hN]
  refine seq_o fun K hK => ?_
  simp only [sSet, sFor, sIf, sRet, sExpr, sPar, sAsg, sSeq, sNext, sAug, dIt, dTup, dLst, dLstH, dCB, dCall, dCallK, dBin, dUn, dTest, dChain, dIfE, aCons, aNil, dVar, dC, dTruth, dNot, dAnd, dOr, vAnd, vOr, vNot, dBM, dSl, dRev, oSome, oNone]
  simp
  refine ⟨b, v, rfl, hl, ?_⟩
  rcases q with ⟨z, rfl, hz, q⟩ | ⟨o, q⟩
  · refine .inl ⟨z, rfl, hz, ?_⟩
    subst hK
    simp only [sSet, sFor, sIf, sRet, sExpr, sPar, sAsg, sSeq, sNext, sAug, dIt, dTup, dLst, dLstH, dCB, dCall, dCallK, dBin, dUn, dTest, dChain, dIfE, aCons, aNil, dVar, dC, dTruth, dNot, dAnd, dOr, vAnd, vOr, vNot, dBM, dSl, dRev, oSome, oNone]
    simp
    exact ⟨b, z, rfl, pl, RT.same q⟩
  · exact .inr ⟨o, h, Lss.refl h, q⟩
theorem bo_has_share (N : List Str) (hN : N.length = 4) : ∀ as h Q E, as.length = 4 → S_has_share as h Q E → den_has_share (startA N as) h (endsR Q) (RX E) := by
  rintro as h Q E - ⟨b, v, c, w, rfl, wf, q⟩
  unfold den_has_share
  simp only [startA, hN]
  refine seq_o fun K hK => ?_
  simp only [sSet, sFor, sIf, sRet, sExpr, sPar, sAsg, sSeq, sNext, sAug, dIt, dTup, dLst, dLstH, dCB, dCall, dCallK, dBin, dUn, dTest, dChain, dIfE, aCons, aNil, dVar, dC, dTruth, dNot, dAnd, dOr, vAnd, vOr, vNot, dBM, dSl, dRev, oSome, oNone]
  simp
  refine ⟨b, v, rfl, wf.n4, ?_⟩
  rcases q with ⟨z, rfl, hz, q⟩ | ⟨o, q⟩
  · refine .inl ⟨z, rfl, hz, ?_⟩
    subst hK
    simp only [sSet, sFor, sIf, sRet, sExpr, sPar, sAsg, sSeq, sNext, sAug, dIt, dTup, dLst, dLstH, dCB, dCall, dCallK, dBin, dUn, dTest, dChain, dIfE, aCons, aNil, dVar, dC, dTruth, dNot, dAnd, dOr, vAnd, vOr, vNot, dBM, dSl, dRev, oSome, oNone]
    simp
    exact ⟨b, z, c, w, rfl, wf, hz, RT.same q⟩
  · exact .inr ⟨o, h, Lss.refl h, q⟩
theorem Tbs.only {Ts : List (Addr × Str)} {t r : Addr} {h h' : Hv} (x : Tbs Ts h) (nt : ∀ q, h t ≠ some (.tab q)) (nr : ∀ q, h r ≠ some (.tab q)) (T' : Town t r h') (on : Only t r h h') : Tbs Ts h' := by
  obtain ⟨c', _, e1'⟩ := T'.tc
  obtain ⟨rs', e2', _⟩ := T'.rc
  refine ⟨fun p hp => ?_, fun b q' e => ?_⟩
  · have := x.has p hp
    rw [on p.1 (fun z => nt p.2 (by rw [← z]; exact this)) (fun z => nr p.2 (by rw [← z]; exact this))]; exact this
  · refine x.all b q' ?_
    rw [← on b (fun z => by rw [z, e1'] at e; cases e) (fun z => by rw [z, e2'] at e; cases e)]; exact e
theorem town_nt {t r : Addr} {h : Hv} (T : Town t r h) : (∀ q, h t ≠ some (.tab q)) ∧ ∀ q, h r ≠ some (.tab q) := by
  obtain ⟨c, _, e1⟩ := T.tc
  obtain ⟨rs, e2, _⟩ := T.rc
  exact ⟨fun q z => (by rw [e1] at z; cases z), fun q z => (by rw [e2] at z; cases z)⟩
/-- a draw leaves the tables -/
theorem Tbs.town {Ts : List (Addr × Str)} {t r : Addr} {h h' : Hv} (x : Tbs Ts h) (T : Town t r h) (T' : Town t r h') (on : Only t r h h') : Tbs Ts h' := x.only (town_nt T).1 (town_nt T).2 T' on
theorem Tbs.begin {Ts : List (Addr × Str)} {t r : Addr} {h h' : Hv} (x : Tbs Ts h) (nt : h t = none) (nr : h r = none) (T' : Town t r h') (on : Only t r h h') : Tbs Ts h' := x.only (fun q z => by rw [nt] at z; cases z) (fun q z => by rw [nr] at z; cases z) T' on
end DL
namespace DL
open PySem PySem.Spec PyProof.Rows L2
/-! ### a heap with one raw thing more -/
theorem rawW_ext {hp : Heap'} {x : Int × Option Str} {n : Int} (h : 0 ≤ n ∧ n < (hp.length : Int)) : rawW (hp ++ [x]) n = rawW hp n := by
  unfold rawW
  rw [List.getElem?_append_left (by omega)]
theorem rawL_ext {hp : Heap'} {x : Int × Option Str} {n : Int} (h : 0 ≤ n ∧ n < (hp.length : Int)) : rawL (hp ++ [x]) n = rawL hp n := by
  unfold rawL
  rw [List.getElem?_append_left (by omega)]
mutual
theorem whole_ext {hp : Heap'} {x : Int × Option Str} : ∀ t : Tree, (∀ n ∈ t.things, 0 ≤ n ∧ n < (hp.length : Int)) → t.whole (hp ++ [x]) = t.whole hp
  | .leaf n, h => by rw [Tree.whole, Tree.whole]; exact rawW_ext (h n (by simp [Tree.things]))
  | .node z ts, h => by rw [Tree.whole, Tree.whole]; exact wholeTs_ext ts (by rw [Tree.things] at h; exact h)
theorem wholeTs_ext {hp : Heap'} {x : Int × Option Str} : ∀ ts : List Tree, (∀ n ∈ thingsTs ts, 0 ≤ n ∧ n < (hp.length : Int)) → wholeTs (hp ++ [x]) ts = wholeTs hp ts
  | [], _ => by rw [wholeTs, wholeTs]
  | t :: ts, h => by
    rw [thingsTs] at h
    rw [wholeTs, wholeTs, whole_ext t (fun n hn => h n (List.mem_append_left _ hn)), wholeTs_ext ts (fun n hn => h n (List.mem_append_right _ hn))]
end
mutual
theorem land_ext {b : Book} {hp : Heap'} {x : Int × Option Str} : ∀ t : Tree, (∀ n ∈ t.things, 0 ≤ n ∧ n < (hp.length : Int)) → t.land b (hp ++ [x]) = t.land b hp
  | .leaf n, h => by rw [Tree.land, Tree.land]; exact rawL_ext (h n (by simp [Tree.things]))
  | .node z ts, h => by
    rw [Tree.things] at h
    rw [Tree.land, Tree.land, cntTs_ext ts h, wholeTs_ext ts h]
theorem cntTs_ext {b : Book} {hp : Heap'} {x : Int × Option Str} {z : Str} : ∀ ts : List Tree, (∀ n ∈ thingsTs ts, 0 ≤ n ∧ n < (hp.length : Int)) → cntTs b (hp ++ [x]) z ts = cntTs b hp z ts
  | [], _ => by rw [cntTs, cntTs]
  | t :: ts, h => by
    rw [thingsTs] at h
    rw [cntTs, cntTs, land_ext t (fun n hn => h n (List.mem_append_left _ hn)), whole_ext t (fun n hn => h n (List.mem_append_left _ hn)), cntTs_ext ts (fun n hn => h n (List.mem_append_right _ hn))]
end
mutual
theorem rows_ext {b : Book} {hp : Heap'} {x : Int × Option Str} : ∀ (t : Tree) (path : List Int), (∀ n ∈ t.things, 0 ≤ n ∧ n < (hp.length : Int)) → t.rows b (hp ++ [x]) path = t.rows b hp path
  | .leaf n, path, h => by rw [Tree.rows, Tree.rows, rawL_ext (h n (by simp [Tree.things]))]
  | .node z ts, path, h => by
    rw [Tree.rows, Tree.rows, land_ext _ h]
    rw [Tree.things] at h
    rw [rowsTs_ext ts path 0 h]
theorem rowsTs_ext {b : Book} {hp : Heap'} {x : Int × Option Str} : ∀ (ts : List Tree) (path : List Int) (i : Nat), (∀ n ∈ thingsTs ts, 0 ≤ n ∧ n < (hp.length : Int)) → rowsTs b (hp ++ [x]) path i ts = rowsTs b hp path i ts
  | [], path, i, _ => by rw [rowsTs, rowsTs]
  | t :: ts, path, i, h => by
    rw [thingsTs] at h
    rw [rowsTs, rowsTs, rows_ext t _ (fun n hn => h n (List.mem_append_left _ hn)), rowsTs_ext ts path (i + 1) (fun n hn => h n (List.mem_append_right _ hn))]
end
theorem rawW_last {hp : Heap'} {x : Int × Option Str} : rawW (hp ++ [x]) (hp.length : Nat) = x.1 := by unfold rawW; simp
theorem rawL_last {hp : Heap'} {x : Int × Option Str} : rawL (hp ++ [x]) (hp.length : Nat) = x.2 := by unfold rawL; simp
/-! ### a part taken as one -/
theorem split_at {ts : List Tree} {k : Nat} (hk : k < ts.length) : ts = ts.take k ++ ts[k] :: ts.drop (k + 1) := by
  rw [← List.drop_eq_getElem_cons hk, List.take_append_drop]
theorem set_split {ts : List Tree} {k : Nat} (hk : k < ts.length) (v : Tree) : ts.set k v = ts.take k ++ v :: ts.drop (k + 1) := by
  rw [List.set_eq_take_append_cons_drop, if_pos hk]
theorem put_cons {z : Str} {ts : List Tree} {k : Nat} (hk : k < ts.length) (f : Tree) (rest : List Int) : (Tree.node z ts).put f ((k : Int) :: rest) = .node z (ts.take k ++ (ts[k]).put f rest :: ts.drop (k + 1)) := by
  rw [Tree.put]
  have : ts[(k : Int).toNat]? = some ts[k] := by simp [hk]
  rw [this]
  dsimp only
  rw [Int.toNat_natCast, set_split hk]
theorem rg_take {ts : List Tree} {k : Nat} {P : Int → Prop} (h : ∀ n ∈ thingsTs ts, P n) : (∀ n ∈ thingsTs (ts.take k), P n) ∧ ∀ n ∈ thingsTs (ts.drop k), P n := by
  rw [thingsTs_map] at h
  refine ⟨fun n hn => h n ?_, fun n hn => h n ?_⟩
  · rw [thingsTs_map] at hn
    obtain ⟨t, ht, hn⟩ := List.mem_flatMap.mp hn
    exact List.mem_flatMap.mpr ⟨t, List.mem_of_mem_take ht, hn⟩
  · rw [thingsTs_map] at hn
    obtain ⟨t, ht, hn⟩ := List.mem_flatMap.mp hn
    exact List.mem_flatMap.mpr ⟨t, List.mem_of_mem_drop ht, hn⟩
theorem one_keeps {b : Book} {hp : Heap'} : ∀ (path : List Int) (t u : Tree), t.at path = some u → (∀ n ∈ t.things, 0 ≤ n ∧ n < (hp.length : Int)) →
    (t.put (.leaf hp.length) path).whole (hp ++ [(u.whole hp, u.land b hp)]) = t.whole hp ∧ (t.put (.leaf hp.length) path).land b (hp ++ [(u.whole hp, u.land b hp)]) = t.land b hp
  | [], t, u, h, _ => by
    rw [Tree.at] at h
    cases h
    rw [Tree.put, Tree.whole, Tree.land]
    exact ⟨rawW_last, rawL_last⟩
  | i :: rest, .leaf n, u, h, _ => (at_leaf h).elim
  | i :: rest, .node z ts, u, h, rg => by
    obtain ⟨h0, hk, hu⟩ := at_node h
    obtain ⟨k, rfl⟩ := Int.eq_ofNat_of_zero_le h0
    have hk : k < ts.length := by simpa using hk
    have hu : (ts[k]).at rest = some u := by simpa using hu
    rw [Tree.things] at rg
    have rgk : ∀ n ∈ (ts[k]).things, 0 ≤ n ∧ n < (hp.length : Int) := fun n hn => rg n (by rw [thingsTs_map]; exact List.mem_flatMap.mpr ⟨_, List.getElem_mem hk, hn⟩)
    obtain ⟨i1, i2⟩ := one_keeps (b := b) (hp := hp) rest ts[k] u hu rgk
    have t1 := (rg_take (k := k) rg).1
    have t2 := (rg_take (k := k + 1) rg).2
    rw [put_cons hk]
    have w : wholeTs (hp ++ [(u.whole hp, u.land b hp)]) (ts.take k ++ (ts[k]).put (.leaf hp.length) rest :: ts.drop (k + 1)) = wholeTs hp ts := by
      conv => rhs; rw [split_at hk]
      rw [wholeTs_app, wholeTs_app, wholeTs, wholeTs, wholeTs_ext _ t1, wholeTs_ext _ t2, i1]
    have c : cntTs b (hp ++ [(u.whole hp, u.land b hp)]) z (ts.take k ++ (ts[k]).put (.leaf hp.length) rest :: ts.drop (k + 1)) = cntTs b hp z ts := by
      conv => rhs; rw [split_at hk]
      rw [cntTs_app, cntTs_app, cntTs, cntTs, cntTs_ext _ t1, cntTs_ext _ t2, i1, i2]
    refine ⟨by rw [Tree.whole, Tree.whole]; exact w, by rw [Tree.land, Tree.land, w, c]⟩
theorem one_cnt {b : Book} {hp : Heap'} {i : Int} {rest : List Int} {t u : Tree} (h : t.at (i :: rest) = some u) (rg : ∀ n ∈ t.things, 0 ≤ n ∧ n < (hp.length : Int)) :
    (t.put (.leaf hp.length) (i :: rest)).cnt b (hp ++ [(u.whole hp, u.land b hp)]) = t.cnt b hp := by
  cases t with
  | leaf n => exact (at_leaf h).elim
  | node z ts =>
    obtain ⟨h0, hk, hu⟩ := at_node h
    obtain ⟨k, rfl⟩ := Int.eq_ofNat_of_zero_le h0
    have hk : k < ts.length := by simpa using hk
    have hu : (ts[k]).at rest = some u := by simpa using hu
    rw [Tree.things] at rg
    have rgk : ∀ n ∈ (ts[k]).things, 0 ≤ n ∧ n < (hp.length : Int) := fun n hn => rg n (by rw [thingsTs_map]; exact List.mem_flatMap.mpr ⟨_, List.getElem_mem hk, hn⟩)
    obtain ⟨i1, i2⟩ := one_keeps (b := b) (hp := hp) rest ts[k] u hu rgk
    have t1 := (rg_take (k := k) rg).1
    have t2 := (rg_take (k := k + 1) rg).2
    rw [put_cons hk, Tree.cnt, Tree.cnt]
    conv => rhs; rw [split_at hk]
    rw [cntTs_app, cntTs_app, cntTs, cntTs, cntTs_ext _ t1, cntTs_ext _ t2, i1, i2]
/-! ### rows and their paths -/
mutual
theorem rows_pre (b : Book) (hp : Heap') : ∀ (t : Tree) (path : List Int), ∀ r ∈ t.rows b hp path, ∃ q, r.1 = path ++ q ∧ ∃ u, t.at q = some u ∧ u.land b hp = r.2
  | .leaf n, path, r, h => by
    rw [Tree.rows] at h
    rw [List.mem_singleton.mp h]
    exact ⟨[], by simp, .leaf n, rfl, rfl⟩
  | .node z ts, path, r, h => by
    rw [Tree.rows] at h
    rcases List.mem_cons.mp h with e | e
    · rw [e]
      exact ⟨[], by simp, .node z ts, rfl, rfl⟩
    · obtain ⟨j, q, hj, e1, u, hu, hl⟩ := rowsTs_pre b hp ts path 0 r e
      refine ⟨((0 + j : Nat) : Int) :: q, e1, u, ?_, hl⟩
      rw [Tree.at, if_pos (by omega)]
      have : ts[((0 + j : Nat) : Int).toNat]? = some ts[j] := by simp [hj]
      rw [this]
      exact hu
theorem rowsTs_pre (b : Book) (hp : Heap') : ∀ (ts : List Tree) (path : List Int) (i : Nat), ∀ r ∈ rowsTs b hp path i ts, ∃ (j : Nat) (q : List Int) (hj : j < ts.length), r.1 = path ++ ((i + j : Nat) : Int) :: q ∧ ∃ u, (ts[j]).at q = some u ∧ u.land b hp = r.2
  | [], path, i, r, h => by rw [rowsTs] at h; cases h
  | t :: ts, path, i, r, h => by
    rw [rowsTs] at h
    rcases List.mem_append.mp h with e | e
    · obtain ⟨q, e1, u, hu, hl⟩ := rows_pre b hp t _ r e
      exact ⟨0, q, by simp, by rw [e1]; simp, u, hu, hl⟩
    · obtain ⟨j, q, hj, e1, u, hu, hl⟩ := rowsTs_pre b hp ts path (i + 1) r e
      exact ⟨j + 1, q, by simpa using hj, by rw [e1, show i + 1 + j = i + (j + 1) by omega], u, hu, hl⟩
end
/-- not below that path -/
def notBelow (p : List Int) (r : Row) : Bool := decide (r.1.take p.length ≠ p) || decide (r.1 = p)
theorem rowsTs_keep {b : Book} {hp : Heap'} {ts : List Tree} {path rest : List Int} {i : Nat} {k : Nat} (h : ∀ j, j < ts.length → i + j ≠ k) : (rowsTs b hp path i ts).filter (notBelow (path ++ (k : Int) :: rest)) = rowsTs b hp path i ts := by
  rw [List.filter_eq_self]
  intro r hr
  obtain ⟨j, q, hj, e1, -⟩ := rowsTs_pre b hp ts path i r hr
  unfold notBelow
  rw [Bool.or_eq_true]
  left
  rw [decide_eq_true_eq, e1]
  intro e
  have hne := h j hj
  have l : (path ++ (k : Int) :: rest).length = path.length + (rest.length + 1) := by simp
  rw [l, List.take_append, List.take_of_length_le (by omega), Nat.add_sub_cancel_left, List.take_succ_cons] at e
  have := List.append_cancel_left e
  rw [List.cons.injEq] at this
  omega
theorem rows_none {b : Book} {hp : Heap'} {t : Tree} {path : List Int} : (t.rows b hp path).filter (notBelow path) = [(path, t.land b hp)] := by
  have self : notBelow path (path, t.land b hp) = true := by unfold notBelow; simp
  cases t with
  | leaf n => rw [Tree.rows, Tree.land] at *; rw [List.filter_cons_of_pos self]; rfl
  | node z ts =>
    rw [Tree.rows, List.filter_cons_of_pos self]
    congr 1
    rw [List.filter_eq_nil_iff]
    intro r hr
    obtain ⟨j, q, hj, e1, -⟩ := rowsTs_pre b hp ts path 0 r hr
    unfold notBelow
    rw [e1]
    simp
theorem one_rows {b : Book} {hp : Heap'} : ∀ (path : List Int) (t u : Tree) (p0 : List Int), t.at path = some u → (∀ n ∈ t.things, 0 ≤ n ∧ n < (hp.length : Int)) →
    (t.put (.leaf hp.length) path).rows b (hp ++ [(u.whole hp, u.land b hp)]) p0 = (t.rows b hp p0).filter (notBelow (p0 ++ path))
  | [], t, u, p0, h, _ => by
    rw [Tree.at] at h
    cases h
    rw [Tree.put, Tree.rows, List.append_nil, rows_none, rawL_last]
  | i :: rest, .leaf n, u, p0, h, _ => (at_leaf h).elim
  | i :: rest, .node z ts, u, p0, h, rg => by
    have keeps := one_keeps (b := b) (hp := hp) (i :: rest) (.node z ts) u h rg
    obtain ⟨h0, hk, hu⟩ := at_node h
    obtain ⟨k, rfl⟩ := Int.eq_ofNat_of_zero_le h0
    have hk : k < ts.length := by simpa using hk
    have hu : (ts[k]).at rest = some u := by simpa using hu
    have kl := keeps.2
    rw [Tree.things] at rg
    have rgk : ∀ n ∈ (ts[k]).things, 0 ≤ n ∧ n < (hp.length : Int) := fun n hn => rg n (by rw [thingsTs_map]; exact List.mem_flatMap.mpr ⟨_, List.getElem_mem hk, hn⟩)
    have ih := one_rows (b := b) (hp := hp) rest ts[k] u (p0 ++ [(k : Int)]) hu rgk
    have t1 := (rg_take (k := k) rg).1
    have t2 := (rg_take (k := k + 1) rg).2
    have self : notBelow (p0 ++ (k : Int) :: rest) (p0, (Tree.node z ts).land b hp) = true := by
      unfold notBelow
      rw [Bool.or_eq_true]
      left
      rw [decide_eq_true_eq]
      intro e
      have := congrArg List.length e
      simp at this
    rw [put_cons hk] at kl ⊢
    rw [Tree.rows, kl, Tree.rows, List.filter_cons_of_pos self]
    congr 1
    conv => rhs; rw [split_at hk]
    rw [rowsTs_app, rowsTs_app, rowsTs, rowsTs, rowsTs_ext _ _ _ t1, rowsTs_ext _ _ _ t2, List.filter_append, List.filter_append]
    have lk : (ts.take k).length = k := by rw [List.length_take]; omega
    rw [rowsTs_keep (i := 0) (k := k) (by rw [lk]; intro j hj; omega), rowsTs_keep (i := 0 + (ts.take k).length + 1) (k := k) (by rw [lk]; intro j hj; omega)]
    rw [lk, Nat.zero_add, ih, List.append_assoc]
    rfl
end DL
namespace DL
open PySem PySem.Spec PyProof.Rows L2
theorem dats_ints (xs : List Int) : dats (xs.map Val.int) = some (xs.map PyData.int) := by
  induction xs with
  | nil => rfl
  | cons x xs ih => rw [List.map_cons, dats, dat, ih]; rfl
theorem eqvAll_ints : ∀ xs ys : List Int, PyData.eqvAll (xs.map PyData.int) (ys.map PyData.int) = decide (xs = ys)
  | [], [] => rfl
  | [], y :: ys => rfl
  | x :: xs, [] => rfl
  | x :: xs, y :: ys => by
    rw [List.map_cons, List.map_cons, PyData.eqvAll, eqvAll_ints xs ys, PyData.eqv, Bool.eq_iff_iff]
    simp
theorem eqD_ints (xs ys : List Int) : eqD (.tup (xs.map .int)) (.tup (ys.map .int)) = decide (xs = ys) := by
  unfold eqD
  rw [dat, dat, dats_ints, dats_ints]
  exact eqvAll_ints xs ys
theorem okN_ints {xs : List Int} (h : xs.length ≤ 1000) (d : Nat) : okN (d + 1) (.tup (xs.map .int)) = true := by
  rw [okN_tup]
  refine ⟨fun v hv => ?_, by rw [List.length_map]; exact h⟩
  obtain ⟨n, -, rfl⟩ := List.mem_map.mp hv
  cases d <;> rfl
mutual
theorem whole_things (hp : Heap') : ∀ t : Tree, t.whole hp = (t.things.map (rawW hp)).sum
  | .leaf n => by rw [Tree.whole, Tree.things]; simp
  | .node z ts => by rw [Tree.whole, Tree.things]; exact wholeTs_things hp ts
theorem wholeTs_things (hp : Heap') : ∀ ts : List Tree, wholeTs hp ts = ((thingsTs ts).map (rawW hp)).sum
  | [] => by rw [wholeTs, thingsTs]; rfl
  | t :: ts => by rw [wholeTs, thingsTs, List.map_append, List.sum_append, whole_things hp t, wholeTs_things hp ts]
end
theorem sum_perm {xs ys : List Int} (h : xs.Perm ys) (f : Int → Int) : (xs.map f).sum = (ys.map f).sum := by
  induction h with
  | nil => rfl
  | cons x _ ih => rw [List.map_cons, List.map_cons, List.sum_cons, List.sum_cons, ih]
  | swap x y l => simp only [List.map_cons, List.sum_cons]; omega
  | trans _ _ i j => exact i.trans j
theorem whole_sorted (hp : Heap') (t : Tree) : ((sortI t.things).map (rawW hp)).sum = t.whole hp := by
  rw [whole_things, sum_perm (sortI_perm t.things)]
/-! ### the tree with a part taken as one -/
theorem put_things {f : Tree} : ∀ (path : List Int) (t u : Tree), t.at path = some u → ∀ n ∈ (t.put f path).things, n ∈ t.things ∨ n ∈ f.things
  | [], t, u, h, n, hn => by rw [Tree.put] at hn; exact .inr hn
  | i :: rest, .leaf m, u, h, n, hn => (at_leaf h).elim
  | i :: rest, .node z ts, u, h, n, hn => by
    obtain ⟨h0, hk, hu⟩ := at_node h
    obtain ⟨k, rfl⟩ := Int.eq_ofNat_of_zero_le h0
    have hk : k < ts.length := by simpa using hk
    have hu : (ts[k]).at rest = some u := by simpa using hu
    rw [put_cons hk, things_node] at hn
    rw [things_node]
    obtain ⟨t, ht, hn⟩ := List.mem_flatMap.mp hn
    rcases List.mem_append.mp ht with e | e
    · exact .inl (List.mem_flatMap.mpr ⟨t, List.mem_of_mem_take e, hn⟩)
    · rcases List.mem_cons.mp e with e | e
      · rw [e] at hn
        rcases put_things rest ts[k] u hu n hn with z | z
        · exact .inl (List.mem_flatMap.mpr ⟨_, List.getElem_mem hk, z⟩)
        · exact .inr z
      · exact .inl (List.mem_flatMap.mpr ⟨t, List.mem_of_mem_drop e, hn⟩)
theorem put_ok {names : List Str} {f : Tree} (hf : f.okT names) : ∀ (path : List Int) (t u : Tree), t.at path = some u → t.okT names → (t.put f path).okT names
  | [], t, u, h, _ => by rw [Tree.put]; exact hf
  | i :: rest, .leaf m, u, h, _ => (at_leaf h).elim
  | i :: rest, .node z ts, u, h, ok => by
    obtain ⟨h0, hk, hu⟩ := at_node h
    obtain ⟨k, rfl⟩ := Int.eq_ofNat_of_zero_le h0
    have hk : k < ts.length := by simpa using hk
    have hu : (ts[k]).at rest = some u := by simpa using hu
    rw [Tree.okT, okTs_iff] at ok
    rw [put_cons hk, Tree.okT, okTs_iff]
    refine ⟨ok.1, by simp, fun t ht => ?_⟩
    rcases List.mem_append.mp ht with e | e
    · exact ok.2.2 t (List.mem_of_mem_take e)
    · rcases List.mem_cons.mp e with e | e
      · rw [e]; exact put_ok hf rest ts[k] u hu (ok.2.2 _ (List.getElem_mem hk))
      · exact ok.2.2 t (List.mem_of_mem_drop e)
theorem put_ht {n : Int} : ∀ (path : List Int) (t u : Tree), t.at path = some u → (t.put (.leaf n) path).ht ≤ t.ht
  | [], t, u, h => by rw [Tree.put, Tree.ht]; exact Nat.zero_le _
  | i :: rest, .leaf m, u, h => (at_leaf h).elim
  | i :: rest, .node z ts, u, h => by
    obtain ⟨h0, hk, hu⟩ := at_node h
    obtain ⟨k, rfl⟩ := Int.eq_ofNat_of_zero_le h0
    have hk : k < ts.length := by simpa using hk
    have hu : (ts[k]).at rest = some u := by simpa using hu
    rw [put_cons hk, Tree.ht, Tree.ht]
    have : htTs (ts.take k ++ (ts[k]).put (.leaf n) rest :: ts.drop (k + 1)) ≤ htTs ts := htTs_le fun t ht => by
      rcases List.mem_append.mp ht with e | e
      · exact htTs_mem (List.mem_of_mem_take e)
      · rcases List.mem_cons.mp e with e | e
        · rw [e]; exact Nat.le_trans (put_ht rest ts[k] u hu) (htTs_mem (List.getElem_mem hk))
        · exact htTs_mem (List.mem_of_mem_drop e)
    omega
mutual
theorem things_pos {names : List Str} : ∀ t : Tree, t.okT names → 1 ≤ t.things.length
  | .leaf n, _ => by rw [Tree.things]; exact Nat.le_refl _
  | .node z ts, ok => by
    rw [Tree.okT] at ok
    rw [Tree.things]
    have := thingsTs_pos ts ok.2.2
    have : 1 ≤ ts.length := List.length_pos_iff.mpr ok.2.1
    omega
theorem thingsTs_pos {names : List Str} : ∀ ts : List Tree, okTs names ts → ts.length ≤ (thingsTs ts).length
  | [], _ => Nat.zero_le _
  | t :: ts, ok => by
    rw [okTs] at ok
    rw [thingsTs, List.length_cons, List.length_append]
    have := things_pos t ok.1
    have := thingsTs_pos ts ok.2
    omega
end
theorem at_sub {names : List Str} : ∀ (path : List Int) (t u : Tree), t.at path = some u → t.okT names → u.okT names ∧ (∀ n ∈ u.things, n ∈ t.things) ∧ u.things.length ≤ t.things.length ∧ u.ht + path.length ≤ t.ht ∧ u.size ≤ t.size ∧ ∀ i ∈ path, 0 ≤ i ∧ i < (t.things.length : Int)
  | [], t, u, h, ok => by
    rw [Tree.at] at h
    cases h
    exact ⟨ok, fun _ h => h, Nat.le_refl _, Nat.le_refl _, Nat.le_refl _, by simp⟩
  | i :: rest, .leaf m, u, h, _ => (at_leaf h).elim
  | i :: rest, .node z ts, u, h, ok => by
    obtain ⟨h0, hk, hu⟩ := at_node h
    obtain ⟨k, rfl⟩ := Int.eq_ofNat_of_zero_le h0
    have hk : k < ts.length := by simpa using hk
    have hu : (ts[k]).at rest = some u := by simpa using hu
    have mk := List.getElem_mem hk
    rw [Tree.okT] at ok
    have wl := thingsTs_pos ts ok.2.2
    rw [okTs_iff] at ok
    obtain ⟨a1, a2, a3, a4, a5, a6⟩ := at_sub rest ts[k] u hu (ok.2.2 _ mk)
    have l1 : (ts[k]).things.length ≤ (thingsTs ts).length := by rw [thingsTs_map]; exact len_mem (f := Tree.things) mk
    have l2 := htTs_mem mk
    have l3 : (ts[k]).size ≤ sizeTs ts := by
      have := congrArg sizeTs (split_at hk)
      rw [sizeTs_app, sizeTs] at this
      omega
    rw [things_node, ← thingsTs_map, Tree.ht, Tree.size, List.length_cons]
    refine ⟨a1, fun n hn => ?_, by omega, by omega, by omega, fun i hi => ?_⟩
    · rw [thingsTs_map]; exact List.mem_flatMap.mpr ⟨_, mk, a2 n hn⟩
    · rcases List.mem_cons.mp hi with e | e
      · rw [e]; omega
      · have := a6 i e; omega
mutual
theorem okN_encT {names : List Str} (nz : ∀ z ∈ names, okN 0 (.str z) = true) : ∀ t : Tree, t.okT names → t.things.length ≤ 1000 → okN (2 * t.ht) t.enc = true
  | .leaf n, _, _ => rfl
  | .node z ts, ok, hl => by
    rw [Tree.okT] at ok
    rw [Tree.things] at hl
    have wl := thingsTs_pos ts ok.2.2
    rw [enc_node, Tree.ht, show 2 * (htTs ts + 1) = (2 * htTs ts + 1) + 1 by omega, okN_tup]
    refine ⟨fun v hv => ?_, (by decide : 2 ≤ 1000)⟩
    rcases List.mem_cons.mp hv with e | e
    · rw [e]; exact okN_le (nz z ok.1) (Nat.zero_le _)
    · rw [List.mem_singleton.mp e, okN_tup]
      refine ⟨fun v hv => ?_, by rw [List.length_map]; omega⟩
      obtain ⟨t, ht, rfl⟩ := List.mem_map.mp hv
      exact okN_le (okN_encTs nz ts ok.2.2 hl t ht) (by have := htTs_mem ht; omega)
theorem okN_encTs {names : List Str} (nz : ∀ z ∈ names, okN 0 (.str z) = true) : ∀ ts : List Tree, okTs names ts → (thingsTs ts).length ≤ 1000 → ∀ t ∈ ts, okN (2 * t.ht) t.enc = true
  | [], _, _, t, h => by cases h
  | u :: ts, ok, hl, t, h => by
    rw [okTs] at ok
    rw [thingsTs, List.length_append] at hl
    rcases List.mem_cons.mp h with e | e
    · rw [e]; exact okN_encT nz u ok.1 (by omega)
    · exact okN_encTs nz ts ok.2 (by omega) t e
end
mutual
theorem size_eq : ∀ t : Tree, t.size = t.things.length + t.lands.length
  | .leaf n => by rw [Tree.size, Tree.things, Tree.lands]; rfl
  | .node z ts => by rw [Tree.size, Tree.things, Tree.lands, sizeTs_eq ts, List.length_cons]; omega
theorem sizeTs_eq : ∀ ts : List Tree, sizeTs ts = (thingsTs ts).length + (landsTs ts).length
  | [] => by rw [sizeTs, thingsTs, landsTs]; rfl
  | t :: ts => by rw [sizeTs, thingsTs, landsTs, List.length_append, List.length_append, size_eq t, sizeTs_eq ts]; omega
end
end DL
namespace DL
open PySem PySem.Spec PyProof.Rows L2
theorem takes_self (b : Book) (z : Str) : z ∈ takesL b z := by
  unfold takesL
  exact (sortZ_perm _).symm.subset List.mem_cons_self
theorem enough_self {b : Book} {z : Str} {w : Int} (wf : WFB b) (hz : z ∈ b.names) (h0 : 0 ≤ w) : enough b z w w = true := by
  obtain ⟨l, h1, h2, -⟩ := rowA_some hz
  have := wf.sh l h2
  unfold enough
  rw [h1]
  exact decide_eq_true (Int.mul_le_mul_of_nonneg_left (by omega) h0)
theorem enough_none {b : Book} {z : Str} {w : Int} (wf : WFB b) (hz : z ∈ b.names) (h0 : 1 ≤ w) : enough b z 0 w = false := by
  obtain ⟨l, h1, h2, -⟩ := rowA_some hz
  have := wf.sh l h2
  unfold enough
  rw [h1]
  refine decide_eq_false ?_
  have : 0 < w * l.p := Int.mul_pos (by omega) (by omega)
  omega
theorem land_one {b : Book} {hp : Heap'} {z : Str} {t : Tree} (wf : WFB b) (hz : z ∈ b.names) (h1 : 1 ≤ t.whole hp) : (Tree.node z [t]).land b hp = if (match t.land b hp with | some l => decide (l ∈ takesL b z) | none => false) = true then some z else none := by
  rw [Tree.land]
  have hw : wholeTs hp [t] = t.whole hp := by rw [wholeTs, wholeTs]; omega
  rw [hw]
  cases hl : t.land b hp with
  | none =>
    have hc : cntTs b hp z [t] = 0 := by rw [cntTs, cntTs, hl]; rfl
    rw [hc, enough_none wf hz h1]
  | some l =>
    by_cases hm : l ∈ takesL b z
    · have hc : cntTs b hp z [t] = t.whole hp := by rw [cntTs, cntTs, hl]; show (if l ∈ takesL b z then t.whole hp else 0) + 0 = _; rw [if_pos hm]; omega
      rw [hc, enough_self wf hz (by omega)]
      simp [hm]
    · have hc : cntTs b hp z [t] = 0 := by rw [cntTs, cntTs, hl]; show (if l ∈ takesL b z then t.whole hp else 0) + 0 = _; rw [if_neg hm]; omega
      rw [hc, enough_none wf hz h1]
      simp [hm]
theorem land_two {b : Book} {hp : Heap'} {z : Str} {t u : Tree} (wf : WFB b) (hz : z ∈ b.names) (h1 : 0 ≤ t.whole hp) (h2 : 0 ≤ u.whole hp) (lt : t.land b hp = some z) (lu : u.land b hp = some z) : (Tree.node z [t, u]).land b hp = some z := by
  have hc : cntTs b hp z [t, u] = t.whole hp + u.whole hp := by
    rw [cntTs, cntTs, cntTs, lt, lu]
    show (if z ∈ takesL b z then t.whole hp else 0) + ((if z ∈ takesL b z then u.whole hp else 0) + 0) = _
    rw [if_pos (takes_self b z), if_pos (takes_self b z)]; omega
  have hw : wholeTs hp [t, u] = t.whole hp + u.whole hp := by rw [wholeTs, wholeTs, wholeTs]; omega
  rw [Tree.land, hc, hw, enough_self wf hz (by omega)]
  rfl
theorem sum_pos : ∀ {xs : List Int}, (∀ x ∈ xs, 1 ≤ x) → (xs.length : Int) ≤ xs.sum
  | [], _ => by simp
  | x :: xs, h => by
    have := sum_pos fun y hy => h y (List.mem_cons_of_mem _ hy)
    have := h x List.mem_cons_self
    rw [List.length_cons, List.sum_cons]
    omega
theorem whole_pos {b : Book} {hp : Heap'} {t : Tree} (tk : TrOk b hp t) (wt : ∀ x ∈ hp, 1 ≤ x.1) : 1 ≤ t.whole hp := by
  rw [whole_things]
  have h1 := things_pos t tk.ok
  have := sum_pos (xs := t.things.map (rawW hp)) fun x hx => by
    obtain ⟨n, hn, rfl⟩ := List.mem_map.mp hx
    have := tk.rg n hn
    have hk : n.toNat < hp.length := by omega
    unfold rawW
    rw [List.getElem?_eq_getElem hk]
    exact wt _ (List.getElem_mem hk)
  rw [List.length_map] at this
  omega
theorem put_size {b : Book} {hp : Heap'} {path : List Int} {t u : Tree} (h : t.at path = some u) (rg : ∀ n ∈ t.things, 0 ≤ n ∧ n < (hp.length : Int)) : (t.put (.leaf hp.length) path).size ≤ t.size := by
  have := congrArg List.length (one_rows (b := b) path t u [] h rg)
  rw [rows_len] at this
  rw [this, ← rows_len b hp t []]
  exact List.length_filter_le _ _
end DL
namespace DL
open PySem PySem.Spec PyProof.Rows L2
theorem Drawn.nz {b : Book} (d : Drawn b) : ∀ z ∈ b.names, okN 0 (.str z) = true := fun z hz => by
  have := d.short z hz
  rcases List.mem_cons.mp this with e | this
  · rw [e]; decide +kernel
  rcases List.mem_cons.mp this with e | this
  · rw [e]; decide +kernel
  rw [List.mem_singleton.mp this]; decide +kernel
theorem cut_init {xs : List Val} {x : Val} : cutA (xs ++ [x]) none (some (-1)) = xs := by
  unfold cutA
  have : HT.sIx (xs ++ [x]).length (xs ++ [x]).length (some (-1)) = xs.length := by
    show (if (-1 : Int) < 0 then ((-1 : Int) + (((xs ++ [x]).length : Nat) : Int)).toNat else min (-1 : Int).toNat (xs ++ [x]).length) = xs.length
    rw [if_pos (by decide), List.length_append, List.length_singleton]
    omega
  rw [HT.sIx_none, this]
  simp
theorem atI_snoc {xs : List Val} {x : Val} : atI (xs ++ [x]) (-1) = some x := by
  have : ixN (xs ++ [x]).length (-1) = some xs.length := by
    unfold ixN
    rw [if_neg (by decide), List.length_append, List.length_singleton, if_pos (by omega)]
    congr 1
    omega
  unfold atI
  rw [this]
  simp
theorem okN_encO {names : List Str} (nz : ∀ z ∈ names, okN 0 (.str z) = true) {o : Option Str} (h : ∀ z, o = some z → z ∈ names) (d : Nat) : okN d (encO o) = true := by
  cases o with
  | none => cases d <;> rfl
  | some z => exact okN_le (nz z (h z rfl)) (Nat.zero_le _)
theorem okN_encR {names : List Str} (nz : ∀ z ∈ names, okN 0 (.str z) = true) {x : Int × Option Str} (h : ∀ z, x.2 = some z → z ∈ names) (d : Nat) : okN (d + 1) (encR x) = true := by
  unfold encR
  rw [okN_tup]
  refine ⟨fun v hv => ?_, (by decide : 2 ≤ 1000)⟩
  rcases List.mem_cons.mp hv with e | e
  · rw [e]; cases d <;> rfl
  · rw [List.mem_singleton.mp e]; exact okN_encO nz h d
theorem okN_encH {names : List Str} (nz : ∀ z ∈ names, okN 0 (.str z) = true) {hp : Heap'} (hl : hp.length ≤ 1000) (h : ∀ x ∈ hp, ∀ z, x.2 = some z → z ∈ names) (d : Nat) : okN (d + 2) (encH hp) = true := by
  unfold encH
  rw [okN_tup]
  refine ⟨fun v hv => ?_, by rw [List.length_map]; exact hl⟩
  obtain ⟨x, hx, rfl⟩ := List.mem_map.mp hv
  exact okN_encR nz (h x hx) d
theorem okN_rows {names : List Str} (nz : ∀ z ∈ names, okN 0 (.str z) = true) {rs : List Row} (hl : rs.length ≤ 1000) (h : ∀ r ∈ rs, r.1.length ≤ 1000 ∧ ∀ z, r.2 = some z → z ∈ names) (d : Nat) : okN (d + 3) (.tup (rs.map encRow)) = true := by
  rw [okN_tup]
  refine ⟨fun v hv => ?_, by rw [List.length_map]; exact hl⟩
  obtain ⟨r, hr, rfl⟩ := List.mem_map.mp hv
  have := h r hr
  unfold encRow
  rw [okN_tup]
  refine ⟨fun v hv => ?_, (by decide : 2 ≤ 1000)⟩
  rcases List.mem_cons.mp hv with e | e
  · rw [e]; exact okN_ints this.1 d
  · rw [List.mem_singleton.mp e]; exact okN_encO nz this.2 _
mutual
theorem land_mem {b : Book} {hp : Heap'} (hf : ∀ x ∈ hp, ∀ z, x.2 = some z → z ∈ b.names) : ∀ t : Tree, t.okT b.names → ∀ z, t.land b hp = some z → z ∈ b.names
  | .leaf n, _, z, h => by
    rw [Tree.land] at h
    unfold rawL at h
    obtain ⟨x, hx, e⟩ := Option.bind_eq_some_iff.mp h
    exact hf x (List.mem_of_getElem? hx) z e
  | .node y ts, ok, z, h => by
    rw [Tree.okT] at ok
    rw [Tree.land] at h
    split at h
    · cases h; exact ok.1
    · cases h
end
end DL
namespace DL
open PySem PySem.Spec PyProof.Rows L2
/-- [g(x) for x in xs if a draw says so] -/
theorem pick_lc {α : Type} {ns : List Int} {t r : Addr} {h : Hv} {Q : PV} {E : PX} {j : Nat} {ρ : Sl} {di : ID} {tt : TD} {te : ED} (xs : List α) (f g : α → Val) (T : Town t r h) (hdi : ∀ R : Itr → Hv → Prop, R ⟨xs.map f, fun _ => True⟩ h → di ρ h R E)
    (ht : ∀ x ∈ xs, ∀ h' Q', Town t r h' → (∀ b h2, Town t r h2 → Only t r h' h2 → Q' b h2) → tt ((wipeA ρ [j]).set j (some (f x))) h' Q' EF)
    (he : ∀ x ∈ xs, ∀ h' (Q' : PV), Q' (g x) h' → te ((wipeA ρ [j]).set j (some (f x))) h' Q' EF) (hn : xs.length ≤ 1000)
    (q : ∀ (got : List α) (h' : Hv), got.Sublist xs → Town t r h' → Only t r h h' → Q (.lst (got.map g)) h') :
    dLc di (.nm j) tt te [j] ρ h Q E := by
  refine lc_ind (items := xs.map f) (ok := fun _ => True) (fun D items acc h' => ∃ got rest : List α, acc = got.map g ∧ items = rest.map f ∧ (got ++ rest).Sublist xs ∧ Town t r h' ∧ h D = none ∧ h' D = some .busy ∧ ∀ a, a ≠ t → a ≠ r → a ≠ D → h' a = h a) hdi (fun D hD => ?_) ?_ ?_
  · obtain ⟨d1, d2⟩ := T.fresh hD
    exact ⟨[], xs, rfl, rfl, List.Sublist.refl _, T.put d1 d2, hD, put_same, fun a _ _ ha => put_ne ha⟩
  · rintro D acc h' ⟨got, rest, rfl, er, sl, T', hD, hb, fr⟩
    have : rest = [] := by cases rest with
      | nil => rfl
      | cons _ _ => cases er
    subst this
    rw [List.append_nil] at sl
    obtain ⟨d1, d2⟩ := T.fresh hD
    refine ⟨trivial, q got _ sl (T'.only fun a ha => ?_) fun a a1 a2 => ?_⟩
    · refine drop_ne ?_
      rcases ha with e | e
      · rw [e]; exact d1.symm
      · rw [e]; exact d2.symm
    · by_cases ha : a = D
      · rw [ha, drop_same, hD]
      · rw [drop_ne ha]; exact fr a a1 a2 ha
  · rintro D v items acc h' ⟨got, rest, rfl, er, sl, T', hD, hb, fr⟩
    obtain ⟨d1, d2⟩ := T.fresh hD
    cases rest with
    | nil => cases er
    | cons x rest =>
      rw [List.map_cons, List.cons.injEq] at er
      obtain ⟨rfl, rfl⟩ := er
      have sln := sl.length_le
      rw [List.length_append, List.length_cons] at sln
      have mx : x ∈ xs := sl.subset (List.mem_append_right _ List.mem_cons_self)
      refine ⟨trivial, _, rfl, fun N hN => ?_⟩
      refine ht x mx _ _ T' fun b h2 T2 o2 => ?_
      have hb2 : h2 D = some .busy := by rw [o2 D d1 d2]; exact hb
      have fr2 : ∀ a, a ≠ t → a ≠ r → a ≠ D → h2 a = h a := fun a a1 a2 a3 => by rw [o2 a a1 a2]; exact fr a a1 a2 a3
      cases b with
      | true =>
        rw [if_pos rfl]
        refine he x mx _ _ ⟨by rw [List.length_map, sizeLine_eq]; omega, hN _ _ ⟨got ++ [x], rest, by simp, rfl, by simpa using sl, T2, hD, hb2, fr2⟩⟩
      | false =>
        rw [if_neg Bool.false_ne_true]
        exact hN _ _ ⟨got, rest, rfl, rfl, (List.Sublist.append_left (List.sublist_cons_self x rest) got).trans sl, T2, hD, hb2, fr2⟩
theorem okN_strs {names : List Str} (nz : ∀ z ∈ names, okN 0 (.str z) = true) {l : List Str} (hl : l.length ≤ 1000) (h : ∀ z ∈ l, z ∈ names) : okN 1 (.tup (l.map .str)) = true := by
  rw [okN_tup]
  refine ⟨fun v hv => ?_, by rw [List.length_map]; exact hl⟩
  obtain ⟨z, hz, rfl⟩ := List.mem_map.mp hv
  exact nz z (h z hz)
/-- two lands with one name are one -/
theorem land_uniq {b : Book} (w : WFB b) {l m : Land} (hl : l ∈ b.lands) (hm : m ∈ b.lands) (e : l.nm = m.nm) : l = m := by
  have up := w.up
  unfold Book.names at up
  rw [List.pairwise_map] at up
  apply Classical.byContradiction
  intro ne
  have := List.pairwise_iff_getElem.mp up
  obtain ⟨i, hi, ei⟩ := List.mem_iff_getElem.mp hl
  obtain ⟨j, hj, ej⟩ := List.mem_iff_getElem.mp hm
  rcases Nat.lt_trichotomy i j with h | h | h
  · have := this i j hi hj h
    rw [ei, ej, e] at this
    exact List.lt_irrefl _ this
  · subst h; rw [ei] at ej; exact ne ej
  · have := this j i hj hi h
    rw [ei, ej, e] at this
    exact List.lt_irrefl _ this
theorem row_self {b : Book} (w : WFB b) {l : Land} (hl : l ∈ b.lands) : rowA b l.nm = some l := by
  obtain ⟨m, e, hm, en⟩ := rowA_some (b := b) (z := l.nm) (List.mem_map.mpr ⟨l, hl, rfl⟩)
  rw [e, land_uniq w hm hl en]
end DL
namespace DL
open PySem PySem.Spec PyProof.Rows L2
theorem sum_cast : ∀ l : List Nat, (l.map fun (n : Nat) => (n : Int)).sum = ((l.sum : Nat) : Int)
  | [] => rfl
  | a :: l => by rw [List.map_cons, List.sum_cons, List.sum_cons, sum_cast l]; omega
theorem bo_bits_of (N : List Str) (hN : N.length = 2) : ∀ as h Q E, as.length = 1 → S_bits_of as h Q E → den_bits_of (startA N as) h (endsR Q) (RX E) := by
  rintro as h Q E - ⟨v, ns, rfl, rfl, rg, nl, q⟩
  have q := RT.same q
  unfold den_bits_of
  simp only [startA, hN]
  show dCB fSum _ _ _ _ _
  refine sum_lcT (ok := fun _ => True) ns .int (fun n => ((2 ^ n.toNat : Nat) : Int)) (fun R r => r) (fun _ _ => trivial) (sl1000 nl) (fun n hn => ⟨_, rfl, fun h' Q' _ q' => ?_⟩) ?_
  · have := rg n hn
    simp only [sSet, sFor, sIf, sRet, sExpr, sPar, sAsg, sSeq, sNext, sAug, dIt, dTup, dLst, dLstH, dCB, dCall, dCallK, dBin, dUn, dTest, dChain, dIfE, aCons, aNil, dVar, dC, dTruth, dNot, dAnd, dOr, vAnd, vOr, vNot, dBM, dSl, dRev, oSome, oNone]
    simp only [wipeA, List.set, List.getElem?_cons_zero, List.getElem?_cons_succ]
    refine ⟨⟨this.1, by omega, by decide⟩, ?_⟩
    refine Qv q' ?_
    congr 1
    push_cast
    omega
  · refine Qv q ?_
    unfold bitsL
    rw [← sum_cast, List.map_map]
    rfl
theorem bo_set_of (N : List Str) (hN : N.length = 2) : ∀ as h Q E, as.length = 1 → S_set_of as h Q E → den_set_of (startA N as) h (endsR Q) (RX E) := by
  rintro as h Q E - ⟨n, rfl, q⟩
  have q := RT.same q
  unfold den_set_of
  simp only [startA, hN]
  show dCB fTuple _ _ _ _ _
  simp only [dCB, aCons, aNil]
  refine lc_filtT (ok := fun _ => True) (List.range 8) (fun (i : Nat) => .int (0 + (i : Nat))) (fun i => n.testBit i) (fun i => .int ((i : Nat) : Int)) (fun R r => ?_) (fun _ _ => trivial) (by rw [sizeLine_eq]; decide) (fun i hi => ⟨_, rfl, fun h' Q' _ q' => ?_, fun _ h' Q' _ q' => ?_⟩) ?_
  · exact ⟨by decide, by decide, r⟩
  · simp only [sSet, sFor, sIf, sRet, sExpr, sPar, sAsg, sSeq, sNext, sAug, dIt, dTup, dLst, dLstH, dCB, dCall, dCallK, dBin, dUn, dTest, dChain, dIfE, aCons, aNil, dVar, dC, dTruth, dNot, dAnd, dOr, vAnd, vOr, vNot, dBM, dSl, dRev, oSome, oNone]
    simp only [wipeA, List.set, List.getElem?_cons_zero, List.getElem?_cons_succ]
    refine ⟨by omega, ?_⟩
    have e : Builtin.bitAnd ((n : Int) / 2 ^ ((0 : Int) + ((i : Nat) : Int)).toNat) 1 = ((n / 2 ^ i % 2 : Nat) : Int) := by
      rw [bitAnd_m1]
      have : ((0 : Int) + ((i : Nat) : Int)).toNat = i := by omega
      rw [this]
      push_cast
      rfl
    show Q' (Builtin.bitAnd ((n : Int) / 2 ^ ((0 : Int) + ((i : Nat) : Int)).toNat) 1 != 0) h'
    rw [e]
    have e2 : (((n / 2 ^ i % 2 : Nat) : Int) != 0) = n.testBit i := by
      rw [Nat.testBit_eq_decide_div_mod_eq]
      have : n / 2 ^ i % 2 < 2 := Nat.mod_lt _ (by decide)
      rcases Nat.lt_or_ge (n / 2 ^ i % 2) 1 with h0 | h1
      · have : n / 2 ^ i % 2 = 0 := by omega
        rw [this]; rfl
      · have : n / 2 ^ i % 2 = 1 := by omega
        rw [this]; rfl
    rw [e2]
    exact q'
  · simp only [sSet, sFor, sIf, sRet, sExpr, sPar, sAsg, sSeq, sNext, sAug, dIt, dTup, dLst, dLstH, dCB, dCall, dCallK, dBin, dUn, dTest, dChain, dIfE, aCons, aNil, dVar, dC, dTruth, dNot, dAnd, dOr, vAnd, vOr, vNot, dBM, dSl, dRev, oSome, oNone]
    simp only [wipeA, List.set, List.getElem?_cons_zero, List.getElem?_cons_succ]
    exact Qv q' (by congr 1; omega)
  · show fTuple [.lst _] h _
    simp only [fTuple, seqOf]
    refine Qv q ?_
    unfold encS setI setN
    rw [List.map_map]
    rfl
theorem goParts_len (n : Nat) : ∀ k p, (goParts n k p).length ≤ k
  | 0, _ => Nat.le_refl _
  | k + 1, p => by
    unfold goParts
    split
    · simp
    · simp; exact goParts_len n k _
theorem nextP_lt {n p : Nat} (h : p ≠ 0) : nextP n p < p := by
  unfold nextP
  have : (p - 1) &&& n ≤ p - 1 := Nat.and_le_left
  omega
theorem goParts_more {n : Nat} : ∀ {k p}, p ≤ k → goParts n (k + 1) p = goParts n k p
  | 0, p, h => by
    have : p = 0 := by omega
    subst this
    simp [goParts]
  | k + 1, p, h => by
    rw [goParts]
    conv => rhs; rw [goParts]
    split
    · rfl
    · rename_i p0
      rw [goParts_more (by have := nextP_lt (n := n) p0; omega)]
theorem bo_parts_of (N : List Str) (hN : N.length = 3) : ∀ as h Q E, as.length = 1 → S_parts_of as h Q E → den_parts_of (startA N as) h (endsR Q) (RX E) := by
  rintro as h Q E - ⟨n, rfl, hn, q⟩
  unfold den_parts_of
  simp only [startA, hN]
  refine seq_o fun K hK => ?_
  simp only [sSet, sFor, sIf, sRet, sExpr, sPar, sAsg, sSeq, sNext, sAug, dIt, dTup, dLst, dLstH, dCB, dCall, dCallK, dBin, dUn, dTest, dChain, dIfE, aCons, aNil, dVar, dC, dTruth, dNot, dAnd, dOr, vAnd, vOr, vNot, dBM, dSl, dRev, oSome, oNone]
  simp
  intro pf hpf
  subst hK
  refine seq_o fun K hK => ?_
  refine while_of (fun k ρ h' => ∃ (done : List Nat) (p : Nat), k = p ∧ p < 256 ∧ done ++ goParts n 256 p = partsN n ∧ ρ = [some (.int (n : Int)), some (.ref pf), some (.int (p : Int))] ∧ h' = put h pf (.lst (done.map fun (p : Nat) => .int (p : Int)))) (n := n) ⟨[], n, rfl, hn, by rw [List.nil_append]; exact goParts_eq hn, rfl, rfl⟩ ?_
  rintro k ρ h' ⟨done, p, rfl, hp, e, rfl, rfl⟩ Nx hNx
  simp only [sSet, sFor, sIf, sRet, sExpr, sPar, sAsg, sSeq, sNext, sAug, dIt, dTup, dLst, dLstH, dCB, dCall, dCallK, dBin, dUn, dTest, dChain, dIfE, aCons, aNil, dVar, dC, dTruth, dNot, dAnd, dOr, vAnd, vOr, vNot, dBM, dSl, dRev, oSome, oNone]
  simp
  by_cases p0 : k = 0
  · subst p0
    simp
    subst hK
    have e' : done = partsN n := by rw [← e]; simp [goParts]
    subst e'
    simp only [sSet, sFor, sIf, sRet, sExpr, sPar, sAsg, sSeq, sNext, sAug, dIt, dTup, dLst, dLstH, dCB, dCall, dCallK, dBin, dUn, dTest, dChain, dIfE, aCons, aNil, dVar, dC, dTruth, dNot, dAnd, dOr, vAnd, vOr, vNot, dBM, dSl, dRev, oSome, oNone]
    simp
    exact RT.frz (Lss.put hpf (by simp)) put_same hpf q
  · have hk : ((k : Int) != 0) = true := by simp; exact p0
    have hkl : k = (k - 1) + 1 := by omega
    simp [p0]
    refine ⟨by unfold tyA; dsimp only; rw [put_same], ?_⟩
    unfold fAppend
    simp only [put_same]
    have ed : (done ++ [k]) ++ goParts n 256 (nextP n k) = partsN n := by
      rw [← e]
      conv => rhs; rw [show (256 : Nat) = 255 + 1 from rfl, goParts]
      rw [if_neg p0]
      rw [goParts_more (k := 255) (by have := nextP_lt (n := n) p0; omega)]
      simp
    have dl : done.length < 256 := by
      have := congrArg List.length e
      rw [List.length_append] at this
      have l2 : (partsN n).length ≤ 256 := by rw [← goParts_eq hn]; exact goParts_len n 256 n
      have l3 : 1 ≤ (goParts n 256 k).length := by
        rw [show (256 : Nat) = 255 + 1 from rfl, goParts, if_neg p0]; simp
      omega
    refine ⟨by rw [List.length_map, sizeLine_eq]; omega, ?_⟩
    rw [put_put]
    have eb : Builtin.bitAnd ((k : Int) - 1) (n : Int) = ((nextP n k : Nat) : Int) := by
      have : (k : Int) - 1 = ((k - 1 : Nat) : Int) := by omega
      rw [this, band]; rfl
    rw [eb]
    refine hNx (nextP n k) _ _ (nextP_lt p0) ⟨done ++ [k], nextP n k, rfl, by have := nextP_lt (n := n) p0; omega, ed, rfl, ?_⟩
    rw [List.map_append]; rfl
end DL
namespace DL
open PySem PySem.Spec PyProof.Rows L2
/-! ## what is asked and leaves the heap as it is -/
def EvE (ρ : Sl) (h : Hv) (E : PX) (d : ED) (v : Val) : Prop := ∀ Q : PV, Q v h → d ρ h Q E
def EvT (ρ : Sl) (h : Hv) (E : PX) (d : TD) (k : Bool) : Prop := ∀ Q : Bool → Hv → Prop, Q k h → d ρ h Q E
def EvA (ρ : Sl) (h : Hv) (E : PX) (d : AD) (vs : List Val) : Prop := ∀ Q : List Val → Hv → Prop, Q vs h → d ρ h Q E
def EvI (ρ : Sl) (h : Hv) (E : PX) (d : ID) (it : Itr) : Prop := ∀ Q : Itr → Hv → Prop, Q it h → d ρ h Q E
def EvF (h : Hv) (f : F2) (v w u : Val) : Prop := ∀ Q : PV, Q u h → f v w h Q
def EvC (h : Hv) (f : FA) (vs : List Val) (u : Val) : Prop := ∀ Q : PV, Q u h → f vs h Q
section
variable {ρ : Sl} {h : Hv} {E : PX} {d da db dc : ED} {ta tb : TD} {aa : AD} {v w u : Val} {k l : Bool} {vs : List Val}
theorem EvE.cast (a : EvE ρ h E d v) (e : v = w) : EvE ρ h E d w := e ▸ a
theorem EvT.cast (a : EvT ρ h E ta k) (e : k = l) : EvT ρ h E ta l := e ▸ a
theorem ev_var {i : Nat} (e : ρ[i]? = some (some v) := by rfl) : EvE ρ h E (dVar i) v := fun Q q => by
  show match ρ[i]? with | some (some v) => Q v h | _ => False
  rw [e]; exact q
theorem ev_c : EvE ρ h E (dC v) v := fun Q q => q
theorem ev_bin {f : F2} (ha : EvE ρ h E da v) (hb : EvE ρ h E db w) (hf : EvF h f v w u) : EvE ρ h E (dBin f da db) u := fun Q q => ha _ (hb _ (hf _ q))
theorem ev_un {f : F1} (ha : EvE ρ h E da v) (hf : ∀ Q : PV, Q u h → f v h Q) : EvE ρ h E (dUn f da) u := fun Q q => ha _ (hf _ q)
theorem evt_test (ha : EvE ρ h E da (.bl k)) : EvT ρ h E (dTest da) k := fun Q q => ha _ q
theorem evt_truth (ha : EvE ρ h E da v) (e : truA v h = some k) : EvT ρ h E (dTruth da) k := fun Q q => ha _ (by
  show match truA v h with | some k => Q k h | none => False
  rw [e]; exact q)
theorem evt_truthB (ha : EvE ρ h E da (.bl k)) : EvT ρ h E (dTruth da) k := evt_truth ha rfl
theorem evt_truthN {n : Nat} (ha : EvE ρ h E da (.int (n : Int))) : EvT ρ h E (dTruth da) (decide (n ≠ 0)) := evt_truth ha (by
  show some (((n : Nat) : Int) != 0) = _
  by_cases e : n = 0
  · subst e; rfl
  · simp [e])
theorem evt_not (ha : EvT ρ h E ta k) : EvT ρ h E (dNot ta) (!k) := fun Q q => ha _ q
theorem evt_and (ha : EvT ρ h E ta k) (hb : k = true → EvT ρ h E tb l) : EvT ρ h E (dAnd ta tb) (k && l) := fun Q q => ha _ (by
  show if k = true then tb ρ h Q E else Q false h
  cases k with
  | false => rw [if_neg Bool.false_ne_true]; exact q
  | true => rw [if_pos rfl]; exact hb rfl Q q)
theorem evt_or (ha : EvT ρ h E ta k) (hb : k = false → EvT ρ h E tb l) : EvT ρ h E (dOr ta tb) (k || l) := fun Q q => ha _ (by
  show if k = true then Q true h else tb ρ h Q E
  cases k with
  | true => rw [if_pos rfl]; exact q
  | false => rw [if_neg Bool.false_ne_true]; exact hb rfl Q q)
theorem ev_if (ht : EvT ρ h E ta k) (ha : k = true → EvE ρ h E da v) (hb : k = false → EvE ρ h E db v) : EvE ρ h E (dIfE ta da db) v := fun Q q => ht _ (by
  show if k = true then da ρ h Q E else db ρ h Q E
  cases k with
  | true => rw [if_pos rfl]; exact ha rfl Q q
  | false => rw [if_neg Bool.false_ne_true]; exact hb rfl Q q)
theorem ev_vAnd (ha : EvE ρ h E da (.bl k)) (hb : k = true → EvE ρ h E db (.bl l)) : EvE ρ h E (vAnd da db) (.bl (k && l)) := fun Q q => ha _ (by
  show if k = true then db ρ h Q E else Q (.bl k) h
  cases k with
  | false => rw [if_neg Bool.false_ne_true]; exact q
  | true => rw [if_pos rfl]; exact hb rfl Q q)
theorem ev_vNot (ha : EvE ρ h E da (.bl k)) : EvE ρ h E (vNot da) (.bl (!k)) := fun Q q => ha _ q
theorem eva_nil : EvA ρ h E aNil [] := fun Q q => q
theorem eva_cons (ha : EvE ρ h E da v) (hb : EvA ρ h E aa vs) : EvA ρ h E (aCons da aa) (v :: vs) := fun Q q => ha _ (hb _ q)
theorem eva1 (ha : EvE ρ h E da v) : EvA ρ h E (aCons da aNil) [v] := eva_cons ha eva_nil
theorem eva2 (ha : EvE ρ h E da v) (hb : EvE ρ h E db w) : EvA ρ h E (aCons da (aCons db aNil)) [v, w] := eva_cons ha (eva1 hb)
theorem ev_tup (ha : EvA ρ h E aa vs) (hl : vs.length ≤ sizeLine) : EvE ρ h E (dTup aa) (.tup vs) := fun Q q => ha _ ⟨hl, q⟩
theorem ev_lst (ha : EvA ρ h E aa vs) (hl : vs.length ≤ sizeLine) : EvE ρ h E (dLst aa) (.lst vs) := fun Q q => ha _ ⟨hl, q⟩
theorem ev_cb {f : FA} (ha : EvA ρ h E aa vs) (hf : EvC h f vs u) : EvE ρ h E (dCB f aa) u := fun Q q => ha _ (hf _ q)
theorem ev_call {n : Nat} {fs : SpF} (ha : EvA ρ h E aa vs) (hn : vs.length = n) (hf : ∀ Q : PV, Q u h → fs vs h Q (fun nm pl h' => E nm pl ρ h')) : EvE ρ h E (dCall n fs aa) u := fun Q q => ha _ ⟨hn, hf _ q⟩
theorem ev_dget {o : Val} (ha : EvE ρ h E da v) (hb : EvE ρ h E db w) (e : dgetA v w h = some (some o)) : EvE ρ h E (dDGet da db) o := fun Q q => ha _ (hb _ (by
  show match dgetA v w h with | some (some u) => Q u h | _ => False
  rw [e]; exact q))
theorem ev_din {o : Option Val} (hb : EvE ρ h E db w) (ha : EvE ρ h E da v) (e : dgetA v w h = some o) : EvE ρ h E (dDIn db da) (.bl o.isSome) := fun Q q => hb _ (ha _ (by
  show match dgetA v w h with | some o => Q (.bl o.isSome) h | none => False
  rw [e]; exact q))
theorem ev_dnotin {o : Option Val} (hb : EvE ρ h E db w) (ha : EvE ρ h E da v) (e : dgetA v w h = some o) : EvE ρ h E (dDNotIn db da) (.bl (!o.isSome)) := fun Q q => hb _ (ha _ (by
  show match dgetA v w h with | some o => Q (.bl (!o.isSome)) h | none => False
  rw [e]; exact q))
theorem ev_fld {C a : Addr} {f : Str} {fs : List (Str × Val)} (ha : EvE ρ h E da (.ref a)) (e : h a = some (.ins C fs)) (ef : fs.lookup f = some u) : EvE ρ h E (dFld C f da) u := fun Q q => ha _ (by
  show match h a with | some (.ins C' fs) => C' = C ∧ (match fs.lookup f with | some u => Q u h | none => False) | _ => False
  rw [e]
  refine ⟨rfl, ?_⟩
  rw [ef]; exact q)
def EvO (ρ : Sl) (h : Hv) (E : PX) (d : OD) (i : Option Int) : Prop := ∀ Q : Option Int → Hv → Prop, Q i h → d ρ h Q E
theorem evo_none : EvO ρ h E oNone none := fun Q q => q
theorem evo_some {i : Int} (ha : EvE ρ h E da (.int i)) : EvO ρ h E (oSome da) (some i) := fun Q q => ha _ q
theorem ev_sl {lo hi : OD} {l r : Option Int} (ha : EvE ρ h E da v) (hl : EvO ρ h E lo l) (hr : EvO ρ h E hi r) (hf : ∀ Q : PV, Q u h → fSl v l r h Q) : EvE ρ h E (dSl fSl da lo hi) u := fun Q q => ha _ (hl _ (hr _ (hf _ q)))
/-! iterables -/
theorem evi_it {it : Itr} (ha : EvE ρ h E da v) (e : iterOf v h = some it) : EvI ρ h E (dIt da) it := fun Q q => ha _ (by
  show match iterOf v h with | some it => Q it h | none => False
  rw [e]; exact q)
theorem evi_range1 {n : Nat} (ha : EvE ρ h E da (.int (n : Int))) (hn : n ≤ 1000000) : EvI ρ h E (dRange1 (aCons da aNil)) ⟨(List.range n).map fun (i : Nat) => .int (0 + (i : Nat)), fun _ => True⟩ := fun Q q => (eva1 ha) _ (by
  show -(2 ^ 62) ≤ (n : Int) ∧ (n : Int) < 2 ^ 62 ∧ Q ⟨(List.range ((n : Nat) : Int).toNat).map fun (i : Nat) => .int (0 + (i : Nat)), fun _ => True⟩ h
  refine ⟨by omega, by omega, ?_⟩
  have : ((n : Nat) : Int).toNat = n := by omega
  rw [this]; exact q)
/-! statements -/
variable {D : AE} {s1 s2 : SD}
theorem s_seq (q : s1 ρ h { D with nx := fun ρ h => s2 ρ h D E } E) : sSeq s1 s2 ρ h D E := q
theorem s_set {i : Nat} (ha : EvE ρ h E da v) (q : D.nx (ρ.set i (some v)) h) : sSet i da ρ h D E := ha _ q
theorem ss_set {i : Nat} (ha : EvE ρ h E da v) (q : s2 (ρ.set i (some v)) h D E) : sSeq (sSet i da) s2 ρ h D E := ha _ q
theorem ss_par2 {i j : Nat} (ha : EvA ρ h E aa [v, w]) (q : s2 ((ρ.set i (some v)).set j (some w)) h D E) : sSeq (sPar [i, j] aa) s2 ρ h D E := ha _ q
theorem ss_expr (ha : EvE ρ h E da v) (q : s2 ρ h D E) : sSeq (sExpr da) s2 ρ h D E := ha _ q
theorem s_if (ht : EvT ρ h E ta k) (q1 : k = true → s1 ρ h D E) (q2 : k = false → s2 ρ h D E) : sIf ta s1 s2 ρ h D E := ht _ (by
  show if k = true then s1 ρ h D E else s2 ρ h D E
  cases k with
  | true => rw [if_pos rfl]; exact q1 rfl
  | false => rw [if_neg Bool.false_ne_true]; exact q2 rfl)
theorem s_ret (ha : EvE ρ h E da v) (q : D.rt v h) : sRet da ρ h D E := ha _ q
theorem s_expr (ha : EvE ρ h E da v) (q : D.nx ρ h) : sExpr da ρ h D E := ha _ q
theorem s_par2 {i j : Nat} (ha : EvA ρ h E aa [v, w]) (q : D.nx ((ρ.set i (some v)).set j (some w)) h) : sPar [i, j] aa ρ h D E := ha _ q
theorem s_for {di : ID} {t : Tg} {it : Itr} (hi : EvI ρ h E di it) (q : forL it.ok t s1 it.items ρ h D E) : sFor di t s1 ρ h D E := hi _ q
theorem s_dput {h' : Hv} (hv : EvE ρ h E da v) (hd : EvE ρ h E db w) (hk : EvE ρ h E dc u) (e : dputA w u v h = some h') (q : D.nx ρ h') : sDPut db dc da ρ h D E := hv _ (hd _ (hk _ (by
  show match dputA w u v h with | some h' => D.nx ρ h' | none => False
  rw [e]; exact q)))
theorem ss_dput {h' : Hv} (hv : EvE ρ h E da v) (hd : EvE ρ h E db w) (hk : EvE ρ h E dc u) (e : dputA w u v h = some h') (q : s2 ρ h' D E) : sSeq (sDPut db dc da) s2 ρ h D E := s_seq (s_dput hv hd hk e q)
theorem ss_if (ht : EvT ρ h E ta k) {s3 : SD} (q1 : k = true → s1 ρ h { D with nx := fun ρ h => s3 ρ h D E } E) (q2 : k = false → s2 ρ h { D with nx := fun ρ h => s3 ρ h D E } E) : sSeq (sIf ta s1 s2) s3 ρ h D E := s_seq (s_if ht q1 q2)
theorem ss_for {di : ID} {t : Tg} {it : Itr} (hi : EvI ρ h E di it) (q : ∀ d', d' = s1 → forL it.ok t d' it.items ρ h { D with nx := fun ρ h => s2 ρ h D E } E) : sSeq (sFor di t s1) s2 ρ h D E := s_seq (s_for hi (q s1 rfl))
theorem so_for {di : ID} {t : Tg} {it : Itr} (hi : EvI ρ h E di it) (q : ∀ d', d' = s1 → forL it.ok t d' it.items ρ h D E) : sFor di t s1 ρ h D E := s_for hi (q s1 rfl)
theorem ev_neg {i : Int} (ha : EvE ρ h E da (.int i)) : EvE ρ h E (dUn fNeg da) (.int (-i)) := fun Q q => ha _ q
/-- a call that may change the heap -/
theorem s_call {n : Nat} {fs : SpF} (ha : EvA ρ h E aa vs) (hn : vs.length = n) (hf : fs vs h (fun _ h' => D.nx ρ h') (fun nm pl h' => E nm pl ρ h')) : sExpr (dCall n fs aa) ρ h D E := ha _ ⟨hn, hf⟩
theorem e_meth {C a : Addr} {m : Str} {n : Nat} {fs : SpF} {Q : PV} {fl : List (Str × Val)} (ho : EvE ρ h E da (.ref a)) (e : h a = some (.ins C fl)) (nl : fl.lookup m = none) (ha : EvA ρ h E aa vs) (hn : vs.length + 1 = n) (hf : fs (.ref a :: vs) h Q (fun nm pl h' => E nm pl ρ h')) : dMeth C m n fs da aa ρ h Q E := ho _ (by
  show match h a with | some (.ins C' fl) => C' = C ∧ fl.lookup m = none ∧ aa ρ h (fun vs h2 => vs.length + 1 = n ∧ fs (.ref a :: vs) h2 Q (fun nm pl h' => E nm pl ρ h')) E | _ => False
  rw [e]
  exact ⟨rfl, nl, ha _ ⟨hn, hf⟩⟩)
/-! operations -/
theorem f_band (a b : Nat) : EvF h fBand (.int (a : Int)) (.int (b : Int)) (.int ((a &&& b : Nat) : Int)) := fun Q q => by
  show Q (.int (Builtin.bitAnd (a : Int) (b : Int))) h
  rw [bitAnd_pp (Int.natCast_nonneg a) (Int.natCast_nonneg b)]
  simpa using q
theorem f_add (i j : Int) : EvF h fAdd (.int i) (.int j) (.int (i + j)) := fun Q q => q
theorem f_sub (i j : Int) : EvF h fSub (.int i) (.int j) (.int (i - j)) := fun Q q => q
theorem f_ixL {v : Val} {vs : List Val} {n : Nat} {u : Val} (e : seqOf v h = some vs) (hu : vs[n]? = some u) : EvF h fIx v (.int (n : Int)) u := fun Q q => by
  have hn : n < vs.length := (List.getElem?_eq_some_iff.mp hu).1
  have ea : atI vs (n : Int) = some u := by
    have : ixN vs.length (n : Int) = some n := by unfold ixN; simp; omega
    unfold atI
    rw [this]
    exact hu
  cases v with
  | str z => cases e
  | tup xs => show match seqOf (.tup xs) h with | some vs => (match atI vs (n : Int) with | some u => Q u h | none => False) | none => False; rw [e]; show match atI vs (n : Int) with | some u => Q u h | none => False; rw [ea]; exact q
  | lst xs => show match seqOf (.lst xs) h with | some vs => (match atI vs (n : Int) with | some u => Q u h | none => False) | none => False; rw [e]; show match atI vs (n : Int) with | some u => Q u h | none => False; rw [ea]; exact q
  | scr xs => show match seqOf (.scr xs) h with | some vs => (match atI vs (n : Int) with | some u => Q u h | none => False) | none => False; rw [e]; show match atI vs (n : Int) with | some u => Q u h | none => False; rw [ea]; exact q
  | ref xs => show match seqOf (.ref xs) h with | some vs => (match atI vs (n : Int) with | some u => Q u h | none => False) | none => False; rw [e]; show match atI vs (n : Int) with | some u => Q u h | none => False; rw [ea]; exact q
  | _ => cases e
theorem c_len {v : Val} {n : Nat} (e : lenA v h = some n) : EvC h fLen [v] (.int (n : Int)) := fun Q q => by
  show match lenA v h with | some n => Q (.int n) h | none => False
  rw [e]; exact q
/-! comprehensions -/
section
variable {α : Type} {di : ID} {t : Tg} {tt : TD} {te : ED} {vs : List Nat} {ok : Hv → Prop}
theorem ev_lcF (xs : List α) (f : α → Val) (pv : α → Bool) (g : α → Val) (hdi : EvI ρ h E di ⟨xs.map f, ok⟩) (hok : ∀ h', Sub h h' → ok h') (hl : xs.length ≤ sizeLine)
    (he : ∀ x ∈ xs, ∃ ρ', bT t (f x) (wipeA ρ vs) = some ρ' ∧ (∀ h', Sub h h' → EvT ρ' h' EF tt (pv x)) ∧ (pv x = true → ∀ h', Sub h h' → EvE ρ' h' EF te (g x))) : EvE ρ h E (dLc di t tt te vs) (.lst ((xs.filter pv).map g)) := fun Q q =>
  lc_filtT xs f pv g hdi hok hl (fun x hx => let ⟨ρ', e, a, b⟩ := he x hx; ⟨ρ', e, fun h' Q' sb q' => a h' sb Q' q', fun k h' Q' sb q' => b k h' sb Q' q'⟩) q
theorem ev_lc (xs : List α) (f : α → Val) (g : α → Val) (hdi : EvI ρ h E di ⟨xs.map f, ok⟩) (hok : ∀ h', Sub h h' → ok h') (hl : xs.length ≤ sizeLine)
    (he : ∀ x ∈ xs, ∃ ρ', bT t (f x) (wipeA ρ vs) = some ρ' ∧ ∀ h', Sub h h' → EvE ρ' h' EF te (g x)) : EvE ρ h E (dLc di t tTrue te vs) (.lst (xs.map g)) := fun Q q =>
  lc_mapT xs f g hdi hok hl (fun x hx => let ⟨ρ', e, a⟩ := he x hx; ⟨ρ', e, fun h' Q' sb q' => a h' sb Q' q'⟩) q
theorem ev_any (xs : List α) (f : α → Val) (p : α → Bool) (hdi : EvI ρ h E di ⟨xs.map f, ok⟩) (hok : ∀ h', Sub h h' → ok h') (hl : xs.length ≤ sizeLine)
    (he : ∀ x ∈ xs, ∃ ρ', bT t (f x) (wipeA ρ vs) = some ρ' ∧ ∀ h', Sub h h' → EvE ρ' h' EF te (.bl (p x))) : EvE ρ h E (dCB fAny (aCons (dLc di t tTrue te vs) aNil)) (.bl (xs.any p)) := fun Q q =>
  any_lcT xs f p hdi hok hl (fun x hx => let ⟨ρ', e, a⟩ := he x hx; ⟨ρ', e, fun h' Q' sb q' => a h' sb Q' q'⟩) q
theorem ev_all (xs : List α) (f : α → Val) (p : α → Bool) (hdi : EvI ρ h E di ⟨xs.map f, ok⟩) (hok : ∀ h', Sub h h' → ok h') (hl : xs.length ≤ sizeLine)
    (he : ∀ x ∈ xs, ∃ ρ', bT t (f x) (wipeA ρ vs) = some ρ' ∧ ∀ h', Sub h h' → EvE ρ' h' EF te (.bl (p x))) : EvE ρ h E (dCB fAll (aCons (dLc di t tTrue te vs) aNil)) (.bl (xs.all p)) := fun Q q =>
  all_lcT xs f p hdi hok hl (fun x hx => let ⟨ρ', e, a⟩ := he x hx; ⟨ρ', e, fun h' Q' sb q' => a h' sb Q' q'⟩) q
theorem ev_sum (xs : List α) (f : α → Val) (p : α → Int) (hdi : EvI ρ h E di ⟨xs.map f, ok⟩) (hok : ∀ h', Sub h h' → ok h') (hl : xs.length ≤ sizeLine)
    (he : ∀ x ∈ xs, ∃ ρ', bT t (f x) (wipeA ρ vs) = some ρ' ∧ ∀ h', Sub h h' → EvE ρ' h' EF te (.int (p x))) : EvE ρ h E (dCB fSum (aCons (dLc di t tTrue te vs) aNil)) (.int (xs.map p).sum) := fun Q q =>
  sum_lcT xs f p hdi hok hl (fun x hx => let ⟨ρ', e, a⟩ := he x hx; ⟨ρ', e, fun h' Q' sb q' => a h' sb Q' q'⟩) q
end
end
end DL
namespace DL
open PySem PySem.Spec PyProof.Rows L2
theorem val_names {F : Str → Val} {z : Str} : ∀ {ns : List Str}, z ∈ ns → valA (ns.map fun z => ((Sum.inr z : Key), F z)) (.inr z) = some (F z)
  | y :: ns, h => by
    unfold valA
    rw [List.map_cons, List.find?_cons]
    by_cases e : y = z
    · subst e; simp
    · have : decide ((Sum.inr y : Key) = Sum.inr z) = false := by simp [e]
      simp only [this]
      rcases List.mem_cons.mp h with h | h
      · exact absurd h.symm e
      · exact val_names h
theorem val_encD {n : Nat} : ∀ {xs : List Nat}, valA (encD xs) (.inl (n : Int)) = if n ∈ xs then some (.bl true) else none
  | [] => by simp [encD, valA]
  | x :: xs => by
    have ih := val_encD (n := n) (xs := xs)
    unfold valA encD at *
    rw [List.map_cons, List.find?_cons]
    by_cases e : x = n
    · subst e; simp
    · have h1 : decide ((Sum.inl (x : Int) : Key) = Sum.inl (n : Int)) = false := by simp; omega
      simp only [h1]
      rw [ih]
      have : (n ∈ x :: xs) ↔ n ∈ xs := by simp; intro h; exact absurd h.symm e
      simp only [this]
def insN (xs : List Nat) (n : Nat) : List Nat := if n ∈ xs then xs else xs ++ [n]
theorem put_encD {n : Nat} {xs : List Nat} : putA (encD xs) (.inl (n : Int)) (.bl true) = encD (insN xs n) := by
  unfold putA insN
  have ha : ((encD xs).any fun kv => decide (kv.1 = (Sum.inl (n : Int) : Key))) = decide (n ∈ xs) := by
    induction xs with
    | nil => rfl
    | cons x xs ih =>
      unfold encD at *
      rw [List.map_cons, List.any_cons, ih]
      by_cases e : x = n
      · subst e; simp
      · have h1 : decide ((Sum.inl (x : Int) : Key) = Sum.inl (n : Int)) = false := by simp; omega
        have h2 : (n ∈ x :: xs) ↔ n ∈ xs := by simp; intro h; exact absurd h.symm e
        simp only [h1, Bool.false_or, h2]
  rw [ha]
  by_cases e : n ∈ xs
  · simp only [e, if_true, decide_true]
    unfold encD
    rw [List.map_map]
    refine List.map_congr_left fun x _ => ?_
    simp only [Function.comp]
    split
    · rename_i h; rfl
    · rfl
  · simp only [e, decide_false, if_false, Bool.false_eq_true]
    unfold encD
    rw [List.map_append]
    rfl
theorem mem_insN {xs : List Nat} {n k : Nat} : k ∈ insN xs n ↔ k ∈ xs ∨ k = n := by
  unfold insN
  split
  · rename_i h
    constructor
    · exact .inl
    · rintro (h' | h')
      · exact h'
      · rw [h']; exact h
  · simp
theorem Small.ins {xs : List Nat} {n : Nat} (s : Small xs) (h : n < 256) : Small (insN xs n) := by
  refine ⟨?_, fun k hk => ?_⟩
  · unfold insN
    split
    · exact s.nd
    · rename_i hn
      rw [List.nodup_append]
      exact ⟨s.nd, by simp, fun a ha b hb => by rw [List.mem_singleton.mp hb]; exact fun e => hn (e ▸ ha)⟩
  · rcases mem_insN.mp hk with h' | h'
    · exact s.lt k h'
    · rw [h']; exact h
theorem nodup_le : ∀ (N : Nat) (xs : List Nat), xs.Nodup → (∀ n ∈ xs, n < N) → xs.length ≤ N
  | 0, xs, _, h => by
    cases xs with
    | nil => simp
    | cons x xs => exact absurd (h x List.mem_cons_self) (Nat.not_lt_zero _)
  | N + 1, xs, nd, h => by
    have ih := nodup_le N (xs.erase N) (nd.erase N) fun n hn => by
      have := (nd.mem_erase_iff).mp hn
      have := h n this.2
      omega
    by_cases e : N ∈ xs
    · rw [List.length_erase_of_mem e] at ih; omega
    · rw [List.erase_of_not_mem e] at ih; omega
theorem Small.len {xs : List Nat} (s : Small xs) : xs.length ≤ 256 := nodup_le 256 xs s.nd s.lt
def upS (f : Str → List Nat) (z : Str) (xs : List Nat) : Str → List Nat := fun y => if y = z then xs else f y
theorem upS_same {f : Str → List Nat} {z : Str} {xs : List Nat} : upS f z xs z = xs := by unfold upS; rw [if_pos rfl]
theorem upS_ne {f : Str → List Nat} {z y : Str} {xs : List Nat} (h : y ≠ z) : upS f z xs y = f y := by unfold upS; rw [if_neg h]
section
variable {G : Gx} {h : Hv} {a : Addr} {b : Book} {hp : Heap'} {gs js : Str → List Nat} {A : Ad}
theorem TabAt.neJ (t : TabAt G h a b hp gs js A) {z : Str} (hz : z ∈ b.names) : a ≠ A.ja z ∧ a ≠ A.ga z :=
  ⟨fun e => (by have h1 := t.ins; rw [e, t.ja z hz] at h1; cases h1), fun e => (by have h1 := t.ins; rw [e, t.ga z hz] at h1; cases h1)⟩
theorem TabAt.putJ (t : TabAt G h a b hp gs js A) {z : Str} (hz : z ∈ b.names) {xs : List Nat} (s : Small xs) : TabAt G (put h (A.ja z) (.dK (encD xs))) a b hp gs (upS js z xs) A ∧ OffT b A h (put h (A.ja z) (.dK (encD xs))) := by
  have n1 := t.neJ hz
  have n2 := t.njt z hz
  refine ⟨⟨by rw [put_ne n1.1]; exact t.ins, by rw [put_ne (Ne.symm n2.1)]; exact t.tk, by rw [put_ne (Ne.symm n2.2.1)]; exact t.gd, by rw [put_ne (Ne.symm n2.2.2)]; exact t.jd, fun y hy => by rw [put_ne (t.gj y hy z hz)]; exact t.ga y hy, fun y hy => ?_, t.ng, t.nj, t.gj, t.ngt, t.njt, t.sg, fun y hy => ?_⟩, fun c hc => put_ne (hc z hz).2⟩
  · by_cases e : y = z
    · subst e; rw [put_same, upS_same]
    · rw [put_ne (t.nj y hy z hz e), upS_ne e]; exact t.ja y hy
  · by_cases e : y = z
    · subst e; rw [upS_same]; exact s
    · rw [upS_ne e]; exact t.sj y hy
theorem TabAt.putG (t : TabAt G h a b hp gs js A) {z : Str} (hz : z ∈ b.names) {xs : List Nat} (s : Small xs) : TabAt G (put h (A.ga z) (.dK (encD xs))) a b hp (upS gs z xs) js A ∧ OffT b A h (put h (A.ga z) (.dK (encD xs))) := by
  have n1 := t.neJ hz
  have n2 := t.ngt z hz
  refine ⟨⟨by rw [put_ne n1.2]; exact t.ins, by rw [put_ne (Ne.symm n2.1)]; exact t.tk, by rw [put_ne (Ne.symm n2.2.1)]; exact t.gd, by rw [put_ne (Ne.symm n2.2.2)]; exact t.jd, fun y hy => ?_, fun y hy => by rw [put_ne (Ne.symm (t.gj z hz y hy))]; exact t.ja y hy, t.ng, t.nj, t.gj, t.ngt, t.njt, fun y hy => ?_, t.sj⟩, fun c hc => put_ne (hc z hz).1⟩
  · by_cases e : y = z
    · subst e; rw [put_same, upS_same]
    · rw [put_ne (t.ng y hy z hz e), upS_ne e]; exact t.ga y hy
  · by_cases e : y = z
    · subst e; rw [upS_same]; exact s
    · rw [upS_ne e]; exact t.sg y hy
theorem OffT.refl (h : Hv) : OffT b A h h := fun _ _ => rfl
theorem OffT.trans {h1 h2 : Hv} (x : OffT b A h h1) (y : OffT b A h1 h2) : OffT b A h h2 := fun c hc => (y c hc).trans (x c hc)
/-! what the table's fields give -/
variable {E : PX} {Q : PV} {ρ : Sl} {i : Nat}
theorem ask_fld (t : TabAt G h a b hp gs js A) {f : Str} {v : Val} {d : ED} (hd : ∀ Q' : PV, Q' (.ref a) h → d ρ h Q' E) (hf : (tabF b hp A).lookup f = some v) (q : Q v h) : dFld (G.C "Table") f d ρ h Q E := by
  refine hd _ ?_
  simp only [t.ins]
  refine ⟨by first | rfl | trivial, ?_⟩
  rw [hf]
  exact q
theorem tf_book : (tabF b hp A).lookup ("book" : Str) = some (encB b) := rfl
theorem tf_heap : (tabF b hp A).lookup ("heap" : Str) = some (encH hp) := rfl
theorem tf_names : (tabF b hp A).lookup ("names" : Str) = some (.lst (b.names.map .str)) := rfl
theorem tf_taken : (tabF b hp A).lookup ("taken" : Str) = some (.ref A.tk) := rfl
theorem tf_good : (tabF b hp A).lookup ("good" : Str) = some (.ref A.gd) := rfl
theorem tf_joined : (tabF b hp A).lookup ("joined" : Str) = some (.ref A.jd) := rfl
theorem tf_whole : (tabF b hp A).lookup ("whole" : Str) = some (.int ((2 ^ hp.length : Nat) - 1 : Int)) := rfl
theorem tf_weights : (tabF b hp A).lookup ("weights" : Str) = some (.lst ((List.range (2 ^ hp.length)).map fun n => .int (wt hp n))) := rfl
theorem get_good (t : TabAt G h a b hp gs js A) {z : Str} (hz : z ∈ b.names) : dgetA (.ref A.gd) (.str z) h = some (some (.ref (A.ga z))) := by
  simp only [dgetA, t.gd, keyOf]
  unfold refD
  rw [val_names hz]
theorem get_joined (t : TabAt G h a b hp gs js A) {z : Str} (hz : z ∈ b.names) : dgetA (.ref A.jd) (.str z) h = some (some (.ref (A.ja z))) := by
  simp only [dgetA, t.jd, keyOf]
  unfold refD
  rw [val_names hz]
theorem get_taken (t : TabAt G h a b hp gs js A) {z : Str} (hz : z ∈ b.names) : dgetA (.ref A.tk) (.str z) h = some (some (.tup ((takesL b z).map .str))) := by
  simp only [dgetA, t.tk, keyOf]
  unfold takD
  rw [val_names (F := fun z => .tup ((takesL b z).map .str)) hz]
theorem in_good (t : TabAt G h a b hp gs js A) {z : Str} (hz : z ∈ b.names) (n : Nat) : dgetA (.ref (A.ga z)) (.int (n : Int)) h = some (if n ∈ gs z then some (.bl true) else none) := by
  simp only [dgetA, t.ga z hz, keyOf, val_encD]
theorem in_joined (t : TabAt G h a b hp gs js A) {z : Str} (hz : z ∈ b.names) (n : Nat) : dgetA (.ref (A.ja z)) (.int (n : Int)) h = some (if n ∈ js z then some (.bl true) else none) := by
  simp only [dgetA, t.ja z hz, keyOf, val_encD]
theorem is_some_if {p : Prop} [Decidable p] {v : Val} : (if p then some v else none : Option Val).isSome = decide p := by
  by_cases h : p <;> simp [h]
variable {ds dz dn : ED} {h' : Hv}
theorem t_fld (t : TabAt G h a b hp gs js A) (sb : Sub h h') {f : Str} {v : Val} (hd : EvE ρ h' E ds (.ref a)) (hf : (tabF b hp A).lookup f = some v) : EvE ρ h' E (dFld (G.C "Table") f ds) v := ev_fld hd (sb a _ t.ins) hf
theorem t_good (t : TabAt G h a b hp gs js A) (sb : Sub h h') {z : Str} (hz : z ∈ b.names) (hd : EvE ρ h' E ds (.ref a)) (hdz : EvE ρ h' E dz (.str z)) : EvE ρ h' E (dDGet (dFld (G.C "Table") "good" ds) dz) (.ref (A.ga z)) :=
  ev_dget (t_fld t sb hd tf_good) hdz (by
    simp only [dgetA, sb A.gd _ t.gd, keyOf]
    unfold refD
    rw [val_names hz])
theorem t_joined (t : TabAt G h a b hp gs js A) (sb : Sub h h') {z : Str} (hz : z ∈ b.names) (hd : EvE ρ h' E ds (.ref a)) (hdz : EvE ρ h' E dz (.str z)) : EvE ρ h' E (dDGet (dFld (G.C "Table") "joined" ds) dz) (.ref (A.ja z)) :=
  ev_dget (t_fld t sb hd tf_joined) hdz (by
    simp only [dgetA, sb A.jd _ t.jd, keyOf]
    unfold refD
    rw [val_names hz])
theorem t_taken (t : TabAt G h a b hp gs js A) (sb : Sub h h') {z : Str} (hz : z ∈ b.names) (hd : EvE ρ h' E ds (.ref a)) (hdz : EvE ρ h' E dz (.str z)) : EvE ρ h' E (dDGet (dFld (G.C "Table") "taken" ds) dz) (.tup ((takesL b z).map .str)) :=
  ev_dget (t_fld t sb hd tf_taken) hdz (by
    simp only [dgetA, sb A.tk _ t.tk, keyOf]
    unfold takD
    rw [val_names (F := fun z => .tup ((takesL b z).map .str)) hz])
theorem t_ingood (t : TabAt G h a b hp gs js A) (sb : Sub h h') {z : Str} {n : Nat} (hz : z ∈ b.names) (hn : EvE ρ h' E dn (.int (n : Int))) (hd : EvE ρ h' E ds (.ref a)) (hdz : EvE ρ h' E dz (.str z)) : EvE ρ h' E (dDIn dn (dDGet (dFld (G.C "Table") "good" ds) dz)) (.bl (decide (n ∈ gs z))) :=
  (ev_din hn (t_good t sb hz hd hdz) (o := if n ∈ gs z then some (.bl true) else none) (by simp only [dgetA, sb (A.ga z) _ (t.ga z hz), keyOf, val_encD])).cast (by rw [is_some_if])
theorem t_notgood (t : TabAt G h a b hp gs js A) (sb : Sub h h') {z : Str} {n : Nat} (hz : z ∈ b.names) (hn : EvE ρ h' E dn (.int (n : Int))) (hd : EvE ρ h' E ds (.ref a)) (hdz : EvE ρ h' E dz (.str z)) : EvE ρ h' E (dDNotIn dn (dDGet (dFld (G.C "Table") "good" ds) dz)) (.bl (!decide (n ∈ gs z))) :=
  (ev_dnotin hn (t_good t sb hz hd hdz) (o := if n ∈ gs z then some (.bl true) else none) (by simp only [dgetA, sb (A.ga z) _ (t.ga z hz), keyOf, val_encD])).cast (by rw [is_some_if])
theorem t_injoined (t : TabAt G h a b hp gs js A) (sb : Sub h h') {z : Str} {n : Nat} (hz : z ∈ b.names) (hn : EvE ρ h' E dn (.int (n : Int))) (hd : EvE ρ h' E ds (.ref a)) (hdz : EvE ρ h' E dz (.str z)) : EvE ρ h' E (dDIn dn (dDGet (dFld (G.C "Table") "joined" ds) dz)) (.bl (decide (n ∈ js z))) :=
  (ev_din hn (t_joined t sb hz hd hdz) (o := if n ∈ js z then some (.bl true) else none) (by simp only [dgetA, sb (A.ja z) _ (t.ja z hz), keyOf, val_encD])).cast (by rw [is_some_if])
theorem put_J (t : TabAt G h a b hp gs js A) {z : Str} (hz : z ∈ b.names) (n : Nat) : dputA (.ref (A.ja z)) (.int (n : Int)) (.bl true) h = some (put h (A.ja z) (.dK (encD (insN (js z) n)))) := by
  simp only [dputA, t.ja z hz, keyOf]
  rw [if_pos (by unfold encD; rw [List.length_map, sizeLine_eq]; have := (t.sj z hz).len; omega), put_encD]
theorem put_G (t : TabAt G h a b hp gs js A) {z : Str} (hz : z ∈ b.names) (n : Nat) : dputA (.ref (A.ga z)) (.int (n : Int)) (.bl true) h = some (put h (A.ga z) (.dK (encD (insN (gs z) n)))) := by
  simp only [dputA, t.ga z hz, keyOf]
  rw [if_pos (by unfold encD; rw [List.length_map, sizeLine_eq]; have := (t.sg z hz).len; omega), put_encD]
end
end DL
namespace DL
open PySem PySem.Spec PyProof.Rows L2
theorem nat_ne (k : Nat) : (((k : Nat) : Int) != 0) = decide (k ≠ 0) := by
  by_cases h : k = 0
  · subst h; rfl
  · simp [h]
theorem map_cons_nat {v : Val} {vs : List Val} {L : List Nat} {f : Nat → Val} (e : v :: vs = L.map f) : ∃ p L', L = p :: L' ∧ v = f p ∧ vs = L'.map f := by
  cases L with
  | nil => cases e
  | cons p L' =>
    rw [List.map_cons] at e
    cases e
    exact ⟨p, L', rfl, rfl, rfl⟩
theorem map_nil_nat {L : List Nat} {f : Nat → Val} (e : [] = L.map f) : L = [] := by
  cases L with
  | nil => rfl
  | cons _ _ => cases e
theorem bo_Table_join (G : Gx) (N : List Str) (hN : N.length = 7) : ∀ as h Q E, as.length = 3 → S_Table_join G as h Q E → den_Table_join G (startA N as) h (endsR Q) (RX E) := by
  rintro as h Q E - ⟨a, b, hp, gs, js, A, z, m, rfl, t, wf, hz, m0, hm, q⟩
  unfold den_Table_join
  simp only [startA, hN]
  have sb := Sub.refl h
  refine ss_set (v := .int ((lowN m : Nat) : Int)) (ev_bin ev_var (ev_neg ev_var) fun Q q => ?_) ?_
  · show Q (.int (Builtin.bitAnd (m : Int) (-(m : Int)))) h
    rw [low_eq hm]; exact q
  refine so_for (evi_it (ev_call (eva1 ev_var) rfl fun Q q => ⟨m, rfl, hm, q⟩) rfl) fun dd hdd => ?_
  refine for_ind (fun vs ρ h' => ∃ (done L : List Nat) (x4 x5 x6 : Option Val), partsN m = done ++ L ∧ vs = L.map (fun (p : Nat) => Val.int (p : Int)) ∧ (∀ p ∈ done, ¬ (lowN m &&& p ≠ 0 ∧ (m - p = 0 ∨ m - p ∈ js z) ∧ ∃ t ∈ takesL b z, p ∈ gs t)) ∧
    ρ = [some (.ref a), some (.str z), some (.int (m : Int)), some (.int ((lowN m : Nat) : Int)), x4, x5, x6] ∧ h' = h) ?_ ?_ _ _ _ ⟨[], partsN m, none, none, none, rfl, rfl, fun _ z => absurd z (by simp), rfl, rfl⟩
  · rintro ρ h' ⟨done, L, x4, x5, x6, e, el, hd, rfl, rfl⟩
    have := map_nil_nat el
    subst this
    rw [List.append_nil] at e
    refine ⟨trivial, ⟨_, Lss.refl _, q h' js t (OffT.refl _) (fun _ _ => rfl) fun n => ?_⟩⟩
    refine ⟨.inl, fun hh => hh.resolve_right ?_⟩
    rintro ⟨-, p, hp, c⟩
    exact hd p (e ▸ hp) c
  · rintro v vs ρ h' ⟨done, L, x4, x5, x6, e, el, hd, rfl, rfl⟩
    obtain ⟨p, L', rfl, rfl, rfl⟩ := map_cons_nat el
    have hpm : p ∈ partsN m := by rw [e]; simp
    obtain ⟨p0, sp⟩ := mem_parts.mp hpm
    refine ⟨trivial, _, rfl, fun Nx hNx => ?_⟩
    subst hdd
    have no : ¬ (lowN m &&& p ≠ 0 ∧ (m - p = 0 ∨ m - p ∈ js z) ∧ ∃ t ∈ takesL b z, p ∈ gs t) → ∀ x4 x5 x6 : Option Val, Nx [some (.ref a), some (.str z), some (.int (m : Int)), some (.int ((lowN m : Nat) : Int)), x4, x5, x6] h' := fun hn x4 x5 x6 =>
      hNx _ _ ⟨done ++ [p], L', x4, x5, x6, by rw [e]; simp, rfl, fun r hr => by
        rcases List.mem_append.mp hr with hr | hr
        · exact hd r hr
        · rw [List.mem_singleton.mp hr]; exact hn, rfl, rfl⟩
    refine ss_set (v := .int ((m - p : Nat) : Int)) (ev_bin ev_var ev_var fun Q q => ?_) ?_
    · show Q (.int (Builtin.bitXor (m : Int) (p : Int))) h'
      rw [bxor_sub sp]; exact q
    refine s_if (evt_and (evt_truthN (ev_bin ev_var ev_var (f_band p (lowN m)))) fun _ => evt_or (evt_not (evt_truthN ev_var)) fun _ => evt_test (t_injoined t sb hz (n := m - p) ev_var ev_var ev_var)) (fun k => ?_) (fun k => ?_)
    · rw [Bool.and_eq_true, Bool.or_eq_true, decide_eq_true_eq, Bool.not_eq_true', decide_eq_false_iff_not, decide_eq_true_eq, Decidable.not_not] at k
      refine s_if (evt_truthB (ev_any (ok := fun _ => True) (takesL b z) .str (fun y => decide (p ∈ gs y)) (evi_it (t_taken t sb hz ev_var ev_var) rfl) (fun _ _ => trivial) (Nat.le_trans (takes_len b z) (by rw [sizeLine_eq]; have := wf.pl; omega)) (fun y hy => ⟨_, rfl, fun h2 sb2 => t_ingood t sb2 (takes_names wf hz hy) ev_var ev_var ev_var⟩))) (fun k2 => ?_) (fun k2 => ?_)
      · obtain ⟨y, hy, hg⟩ := List.any_eq_true.mp k2
        have jc : JC b gs js z m := ⟨p, hpm, by rw [Nat.and_comm]; exact k.1, k.2, y, hy, of_decide_eq_true hg⟩
        obtain ⟨t2, o2⟩ := t.putJ hz ((t.sj z hz).ins hm)
        refine ss_dput ev_c (t_joined t sb hz ev_var ev_var) ev_var (put_J t hz m) ?_
        refine RT.same (q _ _ t2 o2 (fun y hy => upS_ne hy) fun n => ?_)
        rw [upS_same, mem_insN]
        exact ⟨fun h => h.imp id fun e => ⟨e, jc⟩, fun h => h.imp id fun e => e.1⟩
      · refine no (fun c => ?_) _ _ _
        obtain ⟨_, _, y, hy, hg⟩ := c
        rw [List.any_eq_false] at k2
        exact k2 y hy (decide_eq_true hg)
    · refine no (fun c => ?_) _ _ _
      have : (decide (p &&& lowN m ≠ 0) && ((!decide (m - p ≠ 0)) || decide (m - p ∈ js z))) = true := by
        rw [Bool.and_eq_true, Bool.or_eq_true, decide_eq_true_eq, Bool.not_eq_true', decide_eq_false_iff_not, decide_eq_true_eq, Decidable.not_not]
        exact ⟨by rw [Nat.and_comm]; exact c.1, c.2.1⟩
      rw [this] at k
      cases k
theorem bo_Table_can_be_made (G : Gx) (N : List Str) (hN : N.length = 5) : ∀ as h Q E, as.length = 3 → S_Table_can_be_made G as h Q E → den_Table_can_be_made G (startA N as) h (endsR Q) (RX E) := by
  rintro as h Q E - ⟨a, b, hp, gs, js, A, z, m, rfl, t, wf, h8, hz, hm, q⟩
  unfold den_Table_can_be_made
  simp only [startA, hN]
  have sb := Sub.refl h
  have wt_at : ∀ n, inH hp n → ((List.range (2 ^ hp.length)).map fun n => Val.int (wt hp n))[n]? = some (.int (wt hp n)) := fun n hn => by
    rw [List.getElem?_map, List.getElem?_range hn]; rfl
  refine ss_set (v := .int (wt hp m)) (ev_bin (t_fld t sb ev_var tf_weights) ev_var (f_ixL rfl (wt_at m hm))) ?_
  refine ss_for (evi_it (ev_call (eva1 ev_var) rfl fun Q q => ⟨m, rfl, inH_lt h8 hm, q⟩) rfl) fun dd hdd => ?_
  refine for_ind (fun vs ρ h' => ∃ (done L : List Nat) (x4 : Option Val), partsN m = done ++ L ∧ vs = L.map (fun (p : Nat) => Val.int (p : Int)) ∧ (∀ p ∈ done, ¬ (p ∈ js z ∧ enough b z (wt hp p) (wt hp m) = true)) ∧
    ρ = [some (.ref a), some (.str z), some (.int (m : Int)), some (.int (wt hp m)), x4] ∧ h' = h) ?_ ?_ _ _ _ ⟨[], partsN m, none, rfl, rfl, fun _ z => absurd z (by simp), rfl, rfl⟩
  · rintro ρ h' ⟨done, L, x4, e, el, hd, rfl, rfl⟩
    have := map_nil_nat el
    subst this
    rw [List.append_nil] at e
    refine ⟨trivial, ?_⟩
    dsimp only
    exact s_ret ev_c (RT.same (q false ⟨fun z => (nomatch z), fun ⟨p, hp, c⟩ => (hd p (e ▸ hp) c).elim⟩))
  · rintro v vs ρ h' ⟨done, L, x4, e, el, hd, rfl, rfl⟩
    obtain ⟨p, L', rfl, rfl, rfl⟩ := map_cons_nat el
    have hpm : p ∈ partsN m := by rw [e]; simp
    obtain ⟨p0, sp⟩ := mem_parts.mp hpm
    refine ⟨trivial, _, rfl, fun Nx hNx => ?_⟩
    subst hdd
    refine s_if (evt_and (evt_test (t_injoined t sb hz ev_var ev_var ev_var)) fun _ => evt_truthB (ev_call (eva_cons (t_fld t sb ev_var tf_book) (eva_cons ev_var (eva2 (ev_bin (t_fld t sb ev_var tf_weights) ev_var (f_ixL rfl (wt_at p (inH_sub hm sp)))) ev_var))) rfl fun Q q => ⟨b, z, _, _, rfl, wf, hz, q⟩)) (fun k => ?_) (fun k => ?_)
    · rw [Bool.and_eq_true, decide_eq_true_eq] at k
      exact s_ret ev_c (RT.same (q true ⟨fun _ => ⟨p, hpm, k⟩, fun _ => rfl⟩))
    · refine hNx _ _ ⟨done ++ [p], L', _, by rw [e]; simp, rfl, fun r hr => ?_, rfl, rfl⟩
      rcases List.mem_append.mp hr with hr | hr
      · exact hd r hr
      · rw [List.mem_singleton.mp hr]
        intro c
        rw [← decide_eq_true_eq (p := p ∈ js z), ← Bool.and_eq_true] at c
        rw [c] at k
        cases k
end DL
namespace DL
open PySem PySem.Spec PyProof.Rows L2
theorem map_cons_str {v : Val} {vs : List Val} {L : List Str} {f : Str → Val} (e : v :: vs = L.map f) : ∃ p L', L = p :: L' ∧ v = f p ∧ vs = L'.map f := by
  cases L with
  | nil => cases e
  | cons p L' =>
    rw [List.map_cons] at e
    cases e
    exact ⟨p, L', rfl, rfl, rfl⟩
theorem map_nil_str {L : List Str} {f : Str → Val} (e : [] = L.map f) : L = [] := by
  cases L with
  | nil => rfl
  | cons _ _ => cases e
theorem names_nodup {b : Book} (w : WFB b) : b.names.Nodup := w.up.imp fun {x y} h e => by subst e; exact List.lt_irrefl _ h
theorem jc_off {b : Book} {gs js js' : Str → List Nat} {z : Str} {m : Nat} (m0 : m ≠ 0) (h : ∀ n, n ≠ m → (n ∈ js' z ↔ n ∈ js z)) : JC b gs js' z m ↔ JC b gs js z m := by
  have key : ∀ {j1 j2 : Str → List Nat}, (∀ n, n ≠ m → (n ∈ j1 z ↔ n ∈ j2 z)) → JC b gs j1 z m → JC b gs j2 z m := by
    rintro j1 j2 hh ⟨p, hp, l, r, t⟩
    have := mem_parts.mp hp
    exact ⟨p, hp, l, r.imp id fun r => (hh _ (by omega)).mp r, t⟩
  exact ⟨key h, key fun n hn => (h n hn).symm⟩
section
variable {G : Gx} {a : Addr} {b : Book} {hp : Heap'} {gs js : Str → List Nat} {A : Ad} {m : Nat}
/-- for z in self.names: self.join(z, bits) -/
theorem join_all {i : Nat} (hi : i = 4 ∨ i = 5) {h : Hv} {DD : AE} {EE : PX} {x2 x3 x4 x5 : Option Val} (wf : WFB b) (m0 : m ≠ 0) (hm : m < 256) (t : TabAt G h a b hp gs js A)
    (q : ∀ x4 x5 h' js', TabAt G h' a b hp gs js' A → OffT b A h h' → (∀ z ∈ b.names, ∀ n, n ≠ m → (n ∈ js' z ↔ n ∈ js z)) → (∀ z ∈ b.names, (m ∈ js' z ↔ m ∈ js z ∨ JC b gs js z m)) → DD.nx [some (.ref a), some (.int (m : Int)), x2, x3, x4, x5] h') :
    forL (fun _ => True) (.nm i) (sExpr (dMeth (G.C "Table") "join" 3 (S_Table_join G) (dVar 0) (aCons (dVar i) (aCons (dVar 1) aNil)))) (b.names.map .str) [some (.ref a), some (.int (m : Int)), x2, x3, x4, x5] h DD EE := by
  refine for_ind (fun vs ρ h' => ∃ (done L : List Str) (x4 x5 : Option Val) (js' : Str → List Nat), b.names = done ++ L ∧ vs = L.map .str ∧ ρ = [some (.ref a), some (.int (m : Int)), x2, x3, x4, x5] ∧ TabAt G h' a b hp gs js' A ∧ OffT b A h h' ∧
    (∀ z ∈ b.names, ∀ n, n ≠ m → (n ∈ js' z ↔ n ∈ js z)) ∧ (∀ z ∈ done, (m ∈ js' z ↔ m ∈ js z ∨ JC b gs js z m)) ∧ ∀ z ∈ L, js' z = js z) ?_ ?_ _ _ _ ⟨[], b.names, x4, x5, js, rfl, rfl, rfl, t, OffT.refl _, fun _ _ _ _ => Iff.rfl, fun _ h => absurd h (by simp), fun _ _ => rfl⟩
  · rintro ρ h' ⟨done, L, x4, x5, js', e, el, rfl, t', o, h1, h2, h3⟩
    have := map_nil_str el
    subst this
    rw [List.append_nil] at e
    exact ⟨trivial, q x4 x5 h' js' t' o h1 (e ▸ h2)⟩
  · rintro v vs ρ h' ⟨done, L, x4, x5, js', e, el, rfl, t', o, h1, h2, h3⟩
    obtain ⟨z, L', rfl, rfl, rfl⟩ := map_cons_str el
    have hz : z ∈ b.names := by rw [e]; simp
    have nd := names_nodup wf
    rw [e] at nd
    have zL : z ∉ L' := (List.nodup_cons.mp (List.nodup_append.mp nd).2.1).1
    have zd : z ∉ done := fun hd => (List.nodup_append.mp nd).2.2 z hd z List.mem_cons_self rfl
    refine ⟨trivial, _, rfl, fun Nx hNx => ?_⟩
    have fin : ∀ x4 x5 h2 js2, TabAt G h2 a b hp gs js2 A → OffT b A h' h2 → (∀ y, y ≠ z → js2 y = js' y) → (∀ n, n ∈ js2 z ↔ n ∈ js' z ∨ (n = m ∧ JC b gs js' z m)) → Nx [some (.ref a), some (.int (m : Int)), x2, x3, x4, x5] h2 := by
      intro x4 x5 h2' js2 t2 o2 k1 k2
      refine hNx _ _ ⟨done ++ [z], L', x4, x5, js2, by rw [e]; simp, rfl, rfl, t2, o.trans o2, fun y hy n hn => ?_, fun y hy => ?_, fun y hy => ?_⟩
      · by_cases ey : y = z
        · subst ey
          rw [k2, ← h1 y hz n hn]
          exact ⟨fun c => c.elim id fun c => absurd c.1 hn, .inl⟩
        · rw [k1 y ey]; exact h1 y hy n hn
      · rcases List.mem_append.mp hy with hy | hy
        · rw [k1 y (fun ey => zd (ey ▸ hy))]; exact h2 y hy
        · rw [List.mem_singleton.mp hy, k2, h3 z List.mem_cons_self]
          rw [jc_off m0 (h1 z hz)]
          simp
      · rw [k1 y (fun ey => zL (ey ▸ hy))]
        exact h3 y (List.mem_cons_of_mem _ hy)
    rcases hi with rfl | rfl
    · exact e_meth (ev_var (v := .ref a)) t'.ins rfl (eva2 (ev_var (v := .str z)) (ev_var (v := .int (m : Int)))) rfl ⟨a, b, hp, gs, js', A, z, m, rfl, t', wf, hz, m0, hm, fun h2' js2 t2 o2 k1 k2 => fin _ _ h2' js2 t2 o2 k1 k2⟩
    · exact e_meth (ev_var (v := .ref a)) t'.ins rfl (eva2 (ev_var (v := .str z)) (ev_var (v := .int (m : Int)))) rfl ⟨a, b, hp, gs, js', A, z, m, rfl, t', wf, hz, m0, hm, fun h2' js2 t2 o2 k1 k2 => fin _ _ h2' js2 t2 o2 k1 k2⟩
end
/-- how many lands are without m -/
def lack (b : Book) (gs : Str → List Nat) (m : Nat) : Nat := b.names.countP fun z => !decide (m ∈ gs z)
theorem count_le {ns : List Str} {p q : Str → Bool} (h : ∀ z ∈ ns, q z = true → p z = true) : ns.countP q ≤ ns.countP p := by
  induction ns with
  | nil => simp
  | cons x ns ih =>
    rw [List.countP_cons, List.countP_cons]
    have i := ih fun z hz => h z (List.mem_cons_of_mem _ hz)
    have hx := h x List.mem_cons_self
    cases hq : q x with
    | false => simp; split <;> omega
    | true => rw [hx hq]; simp; exact i
theorem count_lt {ns : List Str} {p q : Str → Bool} (h : ∀ z ∈ ns, q z = true → p z = true) {y : Str} (hy : y ∈ ns) (py : p y = true) (qy : q y = false) : ns.countP q < ns.countP p := by
  induction ns with
  | nil => cases hy
  | cons x ns ih =>
    rw [List.countP_cons, List.countP_cons]
    rcases List.mem_cons.mp hy with e | hy
    · subst e
      have := count_le fun z hz => h z (List.mem_cons_of_mem _ hz)
      rw [py, qy]; simp; omega
    · have i := ih (fun z hz => h z (List.mem_cons_of_mem _ hz)) hy
      have hx := h x List.mem_cons_self
      cases hq : q x with
      | false => simp; split <;> omega
      | true => rw [hx hq]; simp; exact i
theorem one_set {m : Nat} {k : Int} (hm : m < 256) (h : setI m = [k]) : 0 ≤ k ∧ m = 2 ^ k.toNat := by
  have e := bits_set hm
  rw [h] at e
  refine ⟨?_, ?_⟩
  · have : k ∈ setI m := by rw [h]; simp
    unfold setI at this
    obtain ⟨j, _, rfl⟩ := List.mem_map.mp this
    omega
  · rw [← e]; unfold bitsL; simp
theorem set_one_all : ((List.range 8).all fun k => setI (2 ^ k) == [(k : Int)]) = true := by decide +kernel
theorem set_one {k : Nat} (h : k < 8) : setI (2 ^ k) = [(k : Int)] := beq_iff_eq.mp (List.all_eq_true.mp set_one_all k (List.mem_range.mpr h))
theorem rawL_at {hp : Heap'} {k : Nat} {w : Int} {z : Option Str} (h : hp[k]? = some (w, z)) : rawL hp (k : Int) = z := by
  unfold rawL; simp [h]
end DL
namespace DL
open PySem PySem.Spec PyProof.Rows L2
theorem heap_at {hp : Heap'} {k : Int} (h0 : 0 ≤ k) (h1 : k < (hp.length : Int)) : (hp.map encR)[k.toNat]? = some (.tup [.int (rawW hp k), encO (rawL hp k)]) := by
  have hk : k.toNat < hp.length := by omega
  rw [List.getElem?_map, List.getElem?_eq_getElem hk]
  simp [encR, rawW, rawL, hk]
theorem f_heap {h : Hv} {hp : Heap'} {k : Int} (h0 : 0 ≤ k) (h1 : k < (hp.length : Int)) : EvF h fIx (encH hp) (.int k) (.tup [.int (rawW hp k), encO (rawL hp k)]) := by
  have : k = ((k.toNat : Nat) : Int) := by omega
  rw [this]
  have e := heap_at h0 h1
  rw [this] at e
  exact f_ixL rfl e
theorem f_ix0 {h : Hv} {v : Val} {vs : List Val} {u : Val} (e : seqOf v h = some vs) (hu : vs[0]? = some u) : EvF h fIx v (.int 0) u := f_ixL (n := 0) e hu
theorem f_ix1 {h : Hv} {v : Val} {vs : List Val} {u : Val} (e : seqOf v h = some vs) (hu : vs[1]? = some u) : EvF h fIx v (.int 1) u := f_ixL (n := 1) e hu
theorem f_eqI {h : Hv} {i j : Int} : EvF h fEq (.int i) (.int j) (.bl (decide (i = j))) := fun Q q => by
  show match scA (.int i) (.int j) with | some b => Q (.bl b) h | none => datEq (.int i) (.int j) h fun b => Q (.bl b) h
  exact q
theorem f_notN {h : Hv} {o : Option Str} : EvF h fNotN (encO o) .non (.bl o.isSome) := fun Q q => by
  cases o with
  | none => exact q
  | some z => exact q
theorem bo_Table_fill (G : Gx) (N : List Str) (hN : N.length = 6) : ∀ as h Q E, as.length = 2 → S_Table_fill G as h Q E → den_Table_fill G (startA N as) h (endsR Q) (RX E) := by
  rintro as h Q E - ⟨a, b, hp, gs, js, A, D, m, rfl, t, ti, fo, q⟩
  have hm := fo.lt
  have wf := fo.w
  unfold den_Table_fill
  simp only [startA, hN]
  have sb := Sub.refl h
  refine ss_par2 (eva2 (ev_call (eva1 ev_var) rfl fun Q q => ⟨m, rfl, q⟩) ev_c) ?_
  have rg := inH_rg fo.mH
  have mi := ti.mid fo.nd
  -- behind the raw thing
  have rest : ∀ (h1 : Hv) (gs1 : Str → List Nat), TabAt G h1 a b hp gs1 js A → OffT b A h h1 → MInv b hp D m gs1 js → (∀ (k : Nat) (w : Int) (z : Str), hp[k]? = some (w, some z) → m = 2 ^ k → m ∈ gs1 z) →
      sSeq (sFor (dIt (dFld (G.C "Table") "names" (dVar 0))) (.nm 4) (sExpr (dMeth (G.C "Table") "join" 3 (S_Table_join G) (dVar 0) (aCons (dVar 4) (aCons (dVar 1) aNil))))) (sWhile (dTruth (dVar 3)) (sSeq (sSet 3 (dC (.bl false))) (sFor (dIt (dFld (G.C "Table") "names" (dVar 0))) (.nm 4) (sIf (dAnd (dTest (dDNotIn (dVar 1) (dDGet (dFld (G.C "Table") "good" (dVar 0)) (dVar 4)))) (dTruth (dMeth (G.C "Table") "can_be_made" 3 (S_Table_can_be_made G) (dVar 0) (aCons (dVar 4) (aCons (dVar 1) aNil))))) (sSeq (sDPut (dDGet (dFld (G.C "Table") "good" (dVar 0)) (dVar 4)) (dVar 1) (dC (.bl true))) (sSeq (sSet 3 (dC (.bl true))) (sFor (dIt (dFld (G.C "Table") "names" (dVar 0))) (.nm 5) (sExpr (dMeth (G.C "Table") "join" 3 (S_Table_join G) (dVar 0) (aCons (dVar 5) (aCons (dVar 1) aNil))))))) sNext)))) [some (.ref a), some (.int (m : Int)), some (encS m), some (.bl true), none, none] h1 (endsR Q) (RX E) := by
    intro h1 gs1 t1 o1 mi1 raw1
    have jm : ∀ z ∈ b.names, m ∉ js z := fun z hz hh => fo.nd ((ti.j z hz m).mp hh).1
    refine ss_for (evi_it (t_fld t1 (Sub.refl h1) (ev_var (v := .ref a)) tf_names) rfl) fun dd hdd => ?_
    subst hdd
    refine join_all (.inl rfl) wf fo.m0 hm t1 fun x4 x5 h2 js2 t2 o2 k1 k2 => ?_
    dsimp only
    refine while_of (fun n ρ h' => ∃ (gs' js' : Str → List Nat) (f : Bool) (x4 x5 : Option Val), ρ = [some (.ref a), some (.int (m : Int)), some (encS m), some (.bl f), x4, x5] ∧ n = 2 * lack b gs' m + (if f = true then 1 else 0) ∧ TabAt G h' a b hp gs' js' A ∧ OffT b A h h' ∧ MInv b hp D m gs' js' ∧
      (∀ (k : Nat) (w : Int) (z : Str), hp[k]? = some (w, some z) → m = 2 ^ k → m ∈ gs' z) ∧ (∀ z ∈ b.names, (m ∈ js' z ↔ JC b gs' js' z m)) ∧ (f = false → ∀ z ∈ b.names, m ∈ gs' z ∨ ¬ CM b hp js' z m)) ⟨gs1, js2, true, x4, x5, rfl, rfl, t2, o1.trans o2, ⟨mi1.g, fun z hz n hn => (k1 z hz n hn).trans (mi1.j z hz n hn), mi1.gm⟩, raw1, fun z hz => ?_, fun z => nomatch z⟩ ?_
    · rw [k2 z hz, jc_off fo.m0 (k1 z hz)]
      exact ⟨fun h => h.resolve_left (jm z hz), .inr⟩
    · rintro n ρ h' ⟨gs', js', f, x4, x5, rfl, rfl, t', o', mi', raw', ut, ex⟩ Nx hNx
      refine evt_truthB (k := f) ev_var _ ?_
      cases f with
      | false =>
        rw [if_neg Bool.false_ne_true]
        exact ⟨h', Lss.refl _, q h' gs' js' t' o' (fill_end fo mi' ut (ex rfl) raw')⟩
      | true =>
        rw [if_pos rfl]
        refine ss_set ev_c ?_
        refine so_for (evi_it (t_fld t' (Sub.refl h') (ev_var (v := .ref a)) tf_names) rfl) fun dd hdd => ?_
        refine for_ind (fun vs ρ h2 => ∃ (done L : List Str) (g2 j2 : Str → List Nat) (f : Bool) (x4 x5 : Option Val), b.names = done ++ L ∧ vs = L.map .str ∧ ρ = [some (.ref a), some (.int (m : Int)), some (encS m), some (.bl f), x4, x5] ∧ TabAt G h2 a b hp g2 j2 A ∧ OffT b A h h2 ∧ MInv b hp D m g2 j2 ∧
          (∀ (k : Nat) (w : Int) (z : Str), hp[k]? = some (w, some z) → m = 2 ^ k → m ∈ g2 z) ∧ (∀ z ∈ b.names, (m ∈ j2 z ↔ JC b g2 j2 z m)) ∧ lack b g2 m ≤ lack b gs' m ∧ (f = true → lack b g2 m < lack b gs' m) ∧ (f = false → ∀ z ∈ done, m ∈ g2 z ∨ ¬ CM b hp j2 z m)) ?_ ?_ _ _ _ ⟨[], b.names, gs', js', false, x4, x5, rfl, rfl, rfl, t', o', mi', raw', ut, Nat.le_refl _, fun z => (nomatch z), fun _ z hz => absurd hz (by simp)⟩
        · rintro ρ h2 ⟨done, L, g2, j2, f, x4, x5, e, el, rfl, t2, o2, mi2, raw2, ut2, l1, l2, ex2⟩
          have := map_nil_str el
          subst this
          rw [List.append_nil] at e
          refine ⟨trivial, hNx (2 * lack b g2 m + (if f = true then 1 else 0)) _ _ ?_ ⟨g2, j2, f, x4, x5, rfl, rfl, t2, o2, mi2, raw2, ut2, fun ef z hz => ex2 ef z (e ▸ hz)⟩⟩
          cases f with
          | false => simp; omega
          | true => have := l2 rfl; simp; omega
        · rintro v vs ρ h2 ⟨done, L, g2, j2, f, x4, x5, e, el, rfl, t2, o2, mi2, raw2, ut2, l1, l2, ex2⟩
          obtain ⟨z, L', rfl, rfl, rfl⟩ := map_cons_str el
          have hz : z ∈ b.names := by rw [e]; simp
          refine ⟨trivial, _, rfl, fun Ny hNy => ?_⟩
          subst hdd
          have cmd : ∃ r : Bool, (r = true ↔ CM b hp j2 z m) := ⟨dec (CM b hp j2 z m), dec_iff⟩
          obtain ⟨r, hr⟩ := cmd
          refine s_if (evt_and (evt_test (t_notgood t2 (Sub.refl h2) hz ev_var ev_var ev_var)) fun _ => evt_truthB (k := r) fun Q q => e_meth (ev_var (v := .ref a)) t2.ins rfl (eva2 (ev_var (v := .str z)) (ev_var (v := .int (m : Int)))) rfl ⟨a, b, hp, g2, j2, A, z, m, rfl, t2, wf, fo.ho.n8, hz, fo.mH, fun r' hr' => ?_⟩) (fun k => ?_) (fun k => ?_)
          · have : r' = r := by
              cases r' <;> cases r <;> simp_all
            rw [this]; exact q
          · rw [Bool.and_eq_true, Bool.not_eq_true', decide_eq_false_iff_not] at k
            have cz : Can b hp z m := cm_sound fo mi2 (fun z hz h => (ut2 z hz).mp h) hz (hr.mp k.2)
            obtain ⟨t3, o3⟩ := t2.putG hz ((t2.sg z hz).ins hm)
            refine ss_dput ev_c (t_good t2 (Sub.refl h2) hz ev_var ev_var) ev_var (put_G t2 hz m) ?_
            refine ss_set ev_c ?_
            refine so_for (evi_it (t_fld t3 (Sub.refl _) (ev_var (v := .ref a)) tf_names) rfl) fun dd hdd => ?_
            subst hdd
            have gm : ∀ y n, n ∈ upS g2 z (insN (g2 z) m) y ↔ n ∈ g2 y ∨ (y = z ∧ n = m) := fun y n => by
              by_cases ey : y = z
              · subst ey; rw [upS_same, mem_insN]; simp
              · rw [upS_ne ey]; simp [ey]
            refine join_all (.inr rfl) wf fo.m0 hm t3 fun x4 x5 h4 j4 t4 o4 k1 k2 => ?_
            refine hNy _ _ ⟨done ++ [z], L', upS g2 z (insN (g2 z) m), j4, true, x4, x5, by rw [e]; simp, rfl, rfl, t4, (o2.trans o3).trans o4, ⟨fun y hy n hn => ?_, fun y hy n hn => (k1 y hy n hn).trans (mi2.j y hy n hn), fun y hy h => ?_⟩, fun k w y hk em => (gm y m).mpr (.inl (raw2 k w y hk em)), fun y hy => ?_, ?_, fun _ => ?_, fun z => nomatch z⟩
            · rw [gm]
              rw [← mi2.g y hy n hn]
              exact ⟨fun h => h.resolve_right fun c => hn c.2, .inl⟩
            · rcases (gm y m).mp h with h | h
              · exact mi2.gm y hy h
              · rw [h.1]; exact cz
            · rw [k2 y hy, jc_off fo.m0 (k1 y hy)]
              refine ⟨fun h => h.elim (fun h => ?_) id, .inr⟩
              obtain ⟨p, hp', l, r, y', hy', hg⟩ := (ut2 y hy).mp h
              exact ⟨p, hp', l, r, y', hy', (gm y' p).mpr (.inl hg)⟩
            · refine Nat.le_trans (count_le fun y hy h => ?_) l1
              rw [Bool.not_eq_true', decide_eq_false_iff_not] at h ⊢
              exact fun c => h ((gm y m).mpr (.inl c))
            · refine Nat.lt_of_lt_of_le (count_lt (fun y hy h => ?_) hz (y := z) ?_ ?_) l1
              · rw [Bool.not_eq_true', decide_eq_false_iff_not] at h ⊢
                exact fun c => h ((gm y m).mpr (.inl c))
              · rw [Bool.not_eq_true', decide_eq_false_iff_not]; exact k.1
              · rw [Bool.not_eq_false', decide_eq_true_eq]; exact (gm z m).mpr (.inr ⟨rfl, rfl⟩)
          · refine hNy _ _ ⟨done ++ [z], L', g2, j2, f, _, x5, by rw [e]; simp, rfl, rfl, t2, o2, mi2, raw2, ut2, l1, l2, fun ef y hy => ?_⟩
            rcases List.mem_append.mp hy with hy | hy
            · exact ex2 ef y hy
            · rw [List.mem_singleton.mp hy]
              rw [Bool.and_eq_false_iff, Bool.not_eq_false', decide_eq_true_eq] at k
              refine k.imp id fun k c => ?_
              rw [hr.mpr c] at k
              cases k
  -- the raw thing
  by_cases h1 : ∃ k, setI m = [k]
  · obtain ⟨k, hk⟩ := h1
    obtain ⟨k0, em⟩ := one_set hm hk
    have kr := rg k (by rw [hk]; simp)
    have ek : encS m = .tup [.int k] := by unfold encS; rw [hk]; rfl
    have hat : hp[k.toNat]? = some (rawW hp k, rawL hp k) := by
      have hkl : k.toNat < hp.length := by omega
      unfold rawW rawL
      rw [List.getElem?_eq_getElem hkl]
      rfl
    refine ss_if (evt_and (evt_test (ev_bin (ev_cb (eva1 (ev_var (v := encS m))) (c_len (n := 1) (by rw [ek]; rfl))) ev_c f_eqI)) fun _ => evt_test (ev_bin (ev_bin (ev_bin (t_fld t sb (ev_var (v := .ref a)) tf_heap) (ev_bin (ev_var (v := encS m)) ev_c (f_ix0 (u := .int k) (vs := [.int k]) (by rw [ek]; rfl) rfl)) (f_heap kr.1 kr.2)) ev_c (f_ix1 rfl rfl)) ev_c f_notN)) (fun kk => ?_) (fun kk => ?_)
    · rw [Bool.and_eq_true] at kk
      obtain ⟨z, ez⟩ := Option.isSome_iff_exists.mp kk.2
      have hz : z ∈ b.names := fo.ho.fr _ (List.mem_of_getElem? hat) z ez
      obtain ⟨t3, o3⟩ := t.putG hz ((t.sg z hz).ins hm)
      refine s_dput ev_c (t_good t sb hz (ev_var (v := .ref a)) ((ev_bin (ev_bin (t_fld t sb (ev_var (v := .ref a)) tf_heap) (ev_bin (ev_var (v := encS m)) ev_c (f_ix0 (u := .int k) (vs := [.int k]) (by rw [ek]; rfl) rfl)) (f_heap kr.1 kr.2)) ev_c (f_ix1 rfl rfl)).cast (by rw [ez]; rfl))) ev_var (put_G t hz m) ?_
      have gm : ∀ y n, n ∈ upS gs z (insN (gs z) m) y ↔ n ∈ gs y ∨ (y = z ∧ n = m) := fun y n => by
        by_cases ey : y = z
        · subst ey; rw [upS_same, mem_insN]; simp
        · rw [upS_ne ey]; simp [ey]
      refine rest _ _ t3 o3 ⟨fun y hy n hn => ?_, mi.j, fun y hy h => ?_⟩ fun k' w y hk' e' => ?_
      · rw [gm, ← mi.g y hy n hn]
        exact ⟨fun h => h.resolve_right fun c => hn c.2, .inl⟩
      · rcases (gm y m).mp h with h | h
        · exact mi.gm y hy h
        · rw [h.1, em]; rw [ez] at hat; exact (can_clo b hp).raw _ _ _ hat
      · have e2 : k' = k.toNat := by
          have := set_one (k := k') (by have := (List.getElem?_eq_some_iff.mp hk').1; have := fo.ho.n8; omega)
          rw [← e', hk] at this
          have := (List.cons.inj this).1
          omega
        subst e2
        rw [hat] at hk'
        have := congrArg Prod.snd (Option.some.inj hk')
        rw [ez] at this
        exact (gm y m).mpr (.inr ⟨(Option.some.inj this).symm, rfl⟩)
    · rw [show (decide ((((1 : Nat) : Nat) : Int) = 1)) = true from rfl, Bool.true_and] at kk
      refine rest h gs t (OffT.refl _) mi fun k' w y hk' e' => ?_
      have e2 : k' = k.toNat := by
        have := set_one (k := k') (by have := (List.getElem?_eq_some_iff.mp hk').1; have := fo.ho.n8; omega)
        rw [← e', hk] at this
        have := (List.cons.inj this).1
        omega
      subst e2
      rw [hat] at hk'
      have := congrArg Prod.snd (Option.some.inj hk')
      have e3 : rawL hp k = some y := this
      rw [e3] at kk
      cases kk
  · have hl : (setI m).length ≠ 1 := fun e => h1 (by
      match hs : setI m, e with
      | [k], _ => exact ⟨k, rfl⟩)
    refine ss_if (k := false) ((evt_and (l := false) (evt_test (ev_bin (ev_cb (eva1 (ev_var (v := encS m))) (c_len (n := (setI m).length) (by unfold encS; simp))) ev_c f_eqI)) fun kk => ?_).cast (by simp)) (fun kk => nomatch kk) fun _ => ?_
    · rw [decide_eq_true_eq] at kk; omega
    · refine rest h gs t (OffT.refl _) mi fun k' w y hk' e' => ?_
      exfalso
      apply h1
      have := set_one (k := k') (by have := (List.getElem?_eq_some_iff.mp hk').1; have := fo.ho.n8; omega)
      exact ⟨k', by rw [e']; exact this⟩
end DL
namespace DL
open PySem PySem.Spec PyProof.Rows L2
theorem dc_ind {di : ID} {t : Tg} {tt : TD} {tk tv : ED} {vs : List Nat} {ρ : Sl} {h : Hv} {Q : PV} {E : PX} {items : List Val} {ok : Hv → Prop} (I : Addr → List Val → List (Key × Val) → Hv → Prop) (hdi : EvI ρ h E di ⟨items, ok⟩)
    (h1 : ∀ D, h D = none → I D items [] (put h D .busy))
    (h0 : ∀ D kvs h', I D [] kvs h' → ok h' ∧ Q (.ref D) (put h' D (.dK kvs)))
    (hs : ∀ D v r kvs h', I D (v :: r) kvs h' → ok h' ∧ ∃ ρ', bT t v (wipeA ρ vs) = some ρ' ∧ ∀ N : List (Key × Val) → Hv → Prop, (∀ kvs h2, I D r kvs h2 → N kvs h2) → tt ρ' h' (fun b h1 => if b = true then tk ρ' h1 (fun y h2 => tv ρ' h2 (fun z h3 => match keyOf y with
        | some k => kvs.length < sizeLine ∧ N (putA kvs k z) h3
        | none => False) EF) EF else N kvs h1) EF) : dDc di t tt tk tv vs ρ h Q E := by
  refine hdi _ fun D nD => ?_
  have go : ∀ (r : List Val) (kvs : List (Key × Val)) (h' : Hv), I D r kvs h' → dcL ok t tt tk tv (wipeA ρ vs) r kvs h' (fun kvs h2 => Q (.ref D) (put h2 D (.dK kvs))) := by
    intro r
    induction r with
    | nil => exact fun kvs h' i => h0 D kvs h' i
    | cons v r ih =>
      intro kvs h' i
      obtain ⟨o, ρ', e, k⟩ := hs D v r kvs h' i
      refine ⟨o, ?_⟩
      rw [e]
      exact k _ fun kvs h2 z => ih kvs h2 z
  exact go items [] _ (h1 D nD)
theorem putA_new {kvs : List (Key × Val)} {k : Key} {v : Val} (h : ∀ p ∈ kvs, p.1 ≠ k) : putA kvs k v = kvs ++ [(k, v)] := by
  unfold putA
  have : (kvs.any fun kv => decide (kv.1 = k)) = false := by
    rw [List.any_eq_false]
    intro p hp
    simp [h p hp]
  rw [this]
  rfl
theorem x_fld {ρ : Sl} {h : Hv} {E : PX} {d : ED} {D : AE} {C a : Addr} {f : Str} {v : Val} {fl : List (Str × Val)} (hd : EvE ρ h E d (.ref a)) (e : h a = some (.ins C fl)) (l : fl.length < 1000) (q : D.nx ρ (put h a (.ins C (putFA f v fl)))) :
    d ρ h (fun o h2 => match o with
      | .ref a => (match h2 a with
        | some (.ins C' fs) => C' = C ∧ fs.length < 1000 ∧ D.nx ρ (put h2 a (.ins C (putFA f v fs)))
        | _ => False)
      | _ => False) E := hd _ (by
  show match h a with | some (.ins C' fs) => C' = C ∧ fs.length < 1000 ∧ D.nx ρ (put h a (.ins C (putFA f v fs))) | _ => False
  rw [e]
  exact ⟨rfl, l, q⟩)
theorem ss_fld {ρ : Sl} {h : Hv} {E : PX} {d dv : ED} {D : AE} {s2 : SD} {C a : Addr} {f : Str} {v : Val} {fl : List (Str × Val)} (hv : EvE ρ h E dv v) (hd : EvE ρ h E d (.ref a)) (e : h a = some (.ins C fl)) (l : fl.length < 1000) (q : s2 ρ (put h a (.ins C (putFA f v fl))) D E) : sSeq (sFldA C f d dv) s2 ρ h D E :=
  s_seq (hv _ (x_fld (D := { D with nx := fun ρ h => s2 ρ h D E }) hd e l q))
/-- {z: {} for z in names} -/
theorem new_dicts {G : Gx} {h0 h : Hv} {ρ : Sl} {E : PX} {di : ID} {i : Nat} {Q : PV} {b : Book} {vs : List Nat} (wf : WFB b) (g : Grw G h0 h) (hdi : EvI ρ h E di ⟨b.names.map .str, fun _ => True⟩) (hv : ∀ z, EvE ((wipeA ρ vs).set i (some (.str z))) h EF (dVar i) (.str z)) (hvr : ∀ z, ((wipeA ρ vs).set i (some (.str z)))[i]? = some (some (.str z)))
    (q : ∀ (D : Addr) (f : Str → Addr) (h' : Hv), h D = none → (∀ z ∈ b.names, h (f z) = none ∧ f z ≠ D) → (∀ z ∈ b.names, ∀ y ∈ b.names, z ≠ y → f z ≠ f y) → Sub h h' → Grw G h0 h' → h' D = some (.dK (refD b f)) → (∀ z ∈ b.names, h' (f z) = some (.dK [])) → Q (.ref D) h') :
    dDc di (.nm i) tTrue (dVar i) dNewK vs ρ h Q E := by
  have nd := names_nodup wf
  refine dc_ind (fun D r kvs h' => ∃ (done L : List Str) (f : Str → Addr), b.names = done ++ L ∧ r = L.map .str ∧ kvs = done.map (fun z => ((Sum.inr z : Key), Val.ref (f z))) ∧ h D = none ∧ h' D = some .busy ∧ (∀ z ∈ done, h (f z) = none ∧ f z ≠ D ∧ h' (f z) = some (.dK [])) ∧ (∀ z ∈ done, ∀ y ∈ done, z ≠ y → f z ≠ f y) ∧ Sub h h' ∧ (∀ c, c ≠ D → h' c = some .busy → h0 c = some .busy) ∧ Tbs G.Ts h') hdi ?_ ?_ ?_
  · intro D nD
    refine ⟨[], b.names, fun _ => D, rfl, rfl, rfl, nD, put_same, fun z hz => absurd hz (by simp), fun z hz => absurd hz (by simp), Sub.put nD, fun c hc e => by rw [put_ne hc] at e; exact g.bz c e, g.tb.put nD (fun _ z => nomatch z)⟩
  · rintro D kvs h' ⟨done, L, f, e, el, rfl, nD, hD, k1, k2, sb, bz, tb⟩
    have := map_nil_str el
    subst this
    rw [List.append_nil] at e
    refine ⟨trivial, q D f _ nD (fun z hz => ?_) (fun z hz y hy => k2 z (e ▸ hz) y (e ▸ hy)) (fun c o hc => ?_) ⟨fun c o hc => ?_, fun c hc => ?_, tb.write hD (fun _ z => nomatch z) (fun _ z => nomatch z)⟩ (by rw [put_same]; unfold refD; rw [e]) (fun z hz => ?_)⟩
    · exact ⟨(k1 z (e ▸ hz)).1, (k1 z (e ▸ hz)).2.1⟩
    · rw [put_ne (fun z => by rw [z, nD] at hc; cases hc)]; exact sb c o hc
    · have := g.sub c o hc
      rw [put_ne (fun z => by rw [z, nD] at this; cases this)]; exact sb c o this
    · by_cases z : c = D
      · subst z; rw [put_same] at hc; cases hc
      · rw [put_ne z] at hc; exact bz c z hc
    · rw [put_ne (k1 z (e ▸ hz)).2.1]; exact (k1 z (e ▸ hz)).2.2
  · rintro D v r kvs h' ⟨done, L, f, e, el, rfl, nD, hD, k1, k2, sb, bz, tb⟩
    obtain ⟨z, L', rfl, rfl, rfl⟩ := map_cons_str el
    rw [e] at nd
    have zd : z ∉ done := fun hd => (List.nodup_append.mp nd).2.2 z hd z List.mem_cons_self rfl
    have dl : done.length < 5 := by
      have := congrArg List.length e
      rw [List.length_append, List.length_cons] at this
      have l4 := wf.n4
      unfold Book.names at this
      rw [List.length_map] at this
      omega
    refine ⟨trivial, _, rfl, fun Nx hNx => ?_⟩
    simp only [tTrue, if_true]
    refine (ev_var (hvr z)) _ ?_
    intro p np
    show _ ∧ _
    refine ⟨by rw [List.length_map, sizeLine_eq]; omega, hNx _ _ ⟨done ++ [z], L', fun y => if y = z then p else f y, by rw [e]; simp, rfl, ?_, nD, ?_, fun y hy => ?_, fun y hy w hw hne => ?_, sb.trans (Sub.put np), fun c hc hb => ?_, tb.put np (fun _ z => nomatch z)⟩⟩
    · rw [putA_new (fun q hq => by
        obtain ⟨y, hy, rfl⟩ := List.mem_map.mp hq
        exact fun e => zd (by cases e; exact hy)), List.map_append]
      congr 1
      · refine List.map_congr_left fun y hy => ?_
        have ne : y ≠ z := fun e => zd (e ▸ hy)
        simp only [if_neg ne]
      · simp
    · rw [put_ne (fun z => by rw [z, np] at hD; cases hD)]; exact hD
    · rcases List.mem_append.mp hy with hy | hy
      · have ne : y ≠ z := fun e => zd (e ▸ hy)
        have := k1 y hy
        simp only [if_neg ne]
        exact ⟨this.1, this.2.1, by rw [put_ne (fun z => by rw [z, np] at this; cases this.2.2)]; exact this.2.2⟩
      · rw [List.mem_singleton.mp hy]
        simp only [if_pos]
        refine ⟨?_, fun e => (by rw [e, hD] at np; cases np), put_same⟩
        cases e : h p with
        | none => rfl
        | some o => rw [sb p o e] at np; cases np
    · have pn : ∀ y ∈ done, f y ≠ p := fun y hy e => by have := (k1 y hy).2.2; rw [e, np] at this; cases this
      rcases List.mem_append.mp hy with hy | hy
      · have n1 : y ≠ z := fun e => zd (e ▸ hy)
        rcases List.mem_append.mp hw with hw | hw
        · have n2 : w ≠ z := fun e => zd (e ▸ hw)
          simp only [if_neg n1, if_neg n2]
          exact k2 y hy w hw hne
        · rw [List.mem_singleton.mp hw]
          simp only [if_neg n1, if_pos]
          exact pn y hy
      · rw [List.mem_singleton.mp hy]
        rcases List.mem_append.mp hw with hw | hw
        · have n2 : w ≠ z := fun e => zd (e ▸ hw)
          simp only [if_neg n2, if_pos]
          exact fun e => pn w hw e.symm
        · exact absurd ((List.mem_singleton.mp hy).trans (List.mem_singleton.mp hw).symm) hne
    · by_cases z : c = p
      · subst z; rw [put_same] at hb; cases hb
      · rw [put_ne z] at hb; exact bz c hc hb
end DL

namespace DL
open PySem PySem.Spec PyProof.Rows L2
/-- {z: takes(book, z) for z in names} -/
theorem new_taken {G : Gx} {h0 h : Hv} {ρ : Sl} {E : PX} {di : ID} {i : Nat} {Q : PV} {b : Book} {vs : List Nat} {tv : ED} (wf : WFB b) (g : Grw G h0 h) (hdi : EvI ρ h E di ⟨b.names.map .str, fun _ => True⟩) (hvr : ∀ z, ((wipeA ρ vs).set i (some (.str z)))[i]? = some (some (.str z)))
    (htv : ∀ z h', EvE ((wipeA ρ vs).set i (some (.str z))) h' EF tv (.tup ((takesL b z).map .str)))
    (q : ∀ D, h D = none → Q (.ref D) (put h D (.dK (takD b)))) : dDc di (.nm i) tTrue (dVar i) tv vs ρ h Q E := by
  have nd := names_nodup wf
  refine dc_ind (fun D r kvs h' => ∃ (done L : List Str), b.names = done ++ L ∧ r = L.map .str ∧ kvs = done.map (fun z => ((Sum.inr z : Key), Val.tup ((takesL b z).map .str))) ∧ h D = none ∧ h' = put h D .busy) hdi (fun D nD => ⟨[], b.names, rfl, rfl, rfl, nD, rfl⟩) ?_ ?_
  · rintro D kvs h' ⟨done, L, e, el, rfl, nD, rfl⟩
    have := map_nil_str el
    subst this
    rw [List.append_nil] at e
    refine ⟨trivial, ?_⟩
    rw [put_put]
    have := q D nD
    unfold takD at this
    rw [e] at this
    exact this
  · rintro D v r kvs h' ⟨done, L, e, el, rfl, nD, rfl⟩
    obtain ⟨z, L', rfl, rfl, rfl⟩ := map_cons_str el
    rw [e] at nd
    have zd : z ∉ done := fun hd => (List.nodup_append.mp nd).2.2 z hd z List.mem_cons_self rfl
    have dl : done.length < 5 := by
      have := congrArg List.length e
      rw [List.length_append, List.length_cons] at this
      have l4 := wf.n4
      unfold Book.names at this
      rw [List.length_map] at this
      omega
    refine ⟨trivial, _, rfl, fun Nx hNx => ?_⟩
    simp only [tTrue, if_true]
    refine (ev_var (hvr z)) _ ((htv z _) _ ?_)
    show _ ∧ _
    refine ⟨by rw [List.length_map, sizeLine_eq]; omega, hNx _ _ ⟨done ++ [z], L', by rw [e]; simp, rfl, ?_, nD, rfl⟩⟩
    rw [putA_new (fun q hq => by
        obtain ⟨y, hy, rfl⟩ := List.mem_map.mp hq
        exact fun e => zd (by cases e; exact hy)), List.map_append]
    rfl
theorem sFlds_ev {ρ : Sl} {h : Hv} {E : PX} {D : AE} {s2 : SD} {C a : Addr} {i : Nat} {fs : List Str} {aa : AD} {vs : List Val} {fl : List (Str × Val)} (ha : EvA ρ h E aa vs) (hl : vs.length = fs.length) (h5 : fs.length ≤ 5) (hi : ρ[i]? = some (some (.ref a))) (e : h a = some (.ins C fl)) (l : fl.length + 5 < 1000) (q : s2 ρ (put h a (.ins C (putFs fl (fs.zip vs)))) D E) : sSeq (sFlds C i fs aa) s2 ρ h D E :=
  s_seq (ha _ ⟨hl, h5, by
    rw [hi]
    show match h a with | some (.ins C' fl) => C' = C ∧ fl.length + 5 < 1000 ∧ s2 ρ (put h a (.ins C (putFs fl (fs.zip vs)))) D E | _ => False
    rw [e]
    exact ⟨rfl, l, q⟩⟩)
/-- sorted(list(range(1, n)), key=lambda one: len(set_of(one))) -/
def byPop (n : Nat) : List Nat := (List.range' 1 n).mergeSort fun a b => decide ((setI a).length ≤ (setI b).length)
theorem mem_byPop {n k : Nat} : k ∈ byPop n ↔ k ≠ 0 ∧ k < n + 1 := by
  unfold byPop
  rw [List.mem_mergeSort, List.mem_range'_1]
  omega
theorem byPop_nodup (n : Nat) : (byPop n).Nodup := (List.mergeSort_perm _ _).nodup_iff.mpr List.nodup_range'
theorem byPop_up (n : Nat) : (byPop n).Pairwise fun a b => (setI a).length ≤ (setI b).length := by
  have := List.pairwise_mergeSort (le := fun a b : Nat => decide ((setI a).length ≤ (setI b).length)) (fun a b c h h' => by simp at *; omega) (fun a b => by simp; omega) (List.range' 1 n)
  exact this.imp fun h => by simpa using h
def kdI (f : Nat → Int) (v : Val) : PyData := match v with
  | .int i => .int (f i.toNat)
  | _ => .none
theorem sort_nats {ns : List Nat} {f : Nat → Int} : (ns.map fun (n : Nat) => Val.int (n : Int)).mergeSort (PySem.W.dataLe false (kdI f)) = (ns.mergeSort fun a b => decide (f a ≤ f b)).map fun (n : Nat) => Val.int (n : Int) := by
  rw [List.map_mergeSort (s := PySem.W.dataLe false (kdI f))]
  intro a _ b _
  have : ∀ x y : Int, (!PySem.W.dataLt (.int y) (.int x)) = decide (x ≤ y) := fun x y => by
    rw [PySem.W.dataLt_int, PySem.W.not_lt_int]
  show decide (f a ≤ f b) = !PySem.W.dataLt (kdI f (.int (b : Int))) (kdI f (.int (a : Int)))
  unfold kdI
  simp only [Int.toNat_natCast]
  rw [this]
theorem keys_ints {h1 : Hv} {d : ED} {ns : List Nat} {f : Nat → Int} (run : ∀ n ∈ ns, EvE [some (.int ((n : Nat) : Int))] h1 EF d (.int (f n))) : KeysOk h1 d (ns.map fun (n : Nat) => Val.int (n : Int)) (fun v => match v with | .int i => .int (f i.toNat) | _ => .non) (kdI f) := by
  refine ⟨fun w hw => ?_, ?_, ?_, fun w hw => ?_, fun w hw Q' q' => ?_⟩
  · obtain ⟨n, hn, rfl⟩ := List.mem_map.mp hw
    rfl
  · intro d hd d' hd'
    rw [List.map_map] at hd hd'
    obtain ⟨n, _, rfl⟩ := List.mem_map.mp hd
    obtain ⟨n', _, rfl⟩ := List.mem_map.mp hd'
    rfl
  · refine .inr fun d hd => ?_
    rw [List.map_map] at hd
    obtain ⟨n, _, rfl⟩ := List.mem_map.mp hd
    exact ⟨fun z => (nomatch z), fun xs z => (nomatch z)⟩
  · obtain ⟨n, hn, rfl⟩ := List.mem_map.mp hw
    show (PyData.int _).depth ≤ 20
    simp [PyData.depth]
  · obtain ⟨n, hn, rfl⟩ := List.mem_map.mp hw
    refine run n hn Q' ?_
    simpa using q'
theorem s_sortK {Ts : List (Addr × Str)} {P : Addr} {q : Str} {aa : AD} {d : ED} {ρ : Sl} {h : Hv} {E : PX} {v : Val} {ws : List Val} {k : Val → Val} {kd : Val → PyData} (tb : Tbs Ts h) (hin : (P, q) ∈ Ts) (ha : EvA ρ h E aa [v]) (hl : listOf v h = some ws) (ko : KeysOk h d ws k kd) : EvE ρ h E (dSortK Ts P q aa d) (.lst (ws.mergeSort (PySem.W.dataLe false kd))) := fun Q q' =>
  ha _ ⟨tb, hin, ws, k, kd, hl, ko, q'⟩
end DL
namespace DL
open PySem PySem.Spec PyProof.Rows L2
theorem rgI_nats (n : Nat) : rgI 1 ((n : Int) + 1) = (List.range' 1 n).map fun (k : Nat) => (k : Int) := by
  unfold rgI
  have : ((n : Int) + 1 - 1).toNat = n := by omega
  rw [this]
  refine List.ext_getElem (by simp) fun i h1 h2 => ?_
  simp
theorem bo_Table___init__ (G : Gx) (N : List Str) (hN : N.length = 5) : ∀ as h Q E, as.length = 3 → S_Table___init__ G as h Q E → den_Table___init__ G (startA N as) h (endsR Q) (RX E) := by
  rintro as h Q E - ⟨a, b, hp, h0, rfl, wf, ho, a0, rfl, tb, hns, q⟩
  unfold den_Table___init__
  simp only [startA, hN]
  have l4 : (b.names.map Val.str).length ≤ sizeLine := by
    have := wf.n4; unfold Book.names; rw [List.length_map, List.length_map, sizeLine_eq]; omega
  have g0 : Grw G h0 h0 := ⟨Sub.refl _, fun _ h => h, tb⟩
  have p2 : (2 : Nat) ^ hp.length ≤ 256 := Nat.pow_le_pow_right (by decide) ho.n8
  have p1 : 1 ≤ 2 ^ hp.length := Nat.one_le_two_pow
  refine sFlds_ev (eva2 ev_var ev_var) rfl (by decide) rfl put_same (by decide) ?_
  rw [put_put]
  show sSeq _ _ _ (put h0 a (.ins (G.C "Table") [("book", encB b), ("heap", encH hp)])) _ _
  refine ss_fld (v := .lst (b.names.map .str)) (ev_call (eva1 ev_var) rfl fun Q q => ⟨b, rfl, wf.n4, q⟩) ev_var put_same (by simp) ?_
  rw [put_put]
  show sSeq _ _ _ (put h0 a (.ins (G.C "Table") [("book", encB b), ("heap", encH hp), ("names", .lst (b.names.map .str))])) _ _
  have g1 : Grw G h0 (put h0 a (.ins (G.C "Table") [("book", encB b), ("heap", encH hp), ("names", .lst (b.names.map .str))])) := g0.new a0 (fun z => nomatch z) (fun _ z => nomatch z)
  generalize e1 : put h0 a (.ins (G.C "Table") [("book", encB b), ("heap", encH hp), ("names", .lst (b.names.map .str))]) = h1 at g1
  have a1 : h1 a = some (.ins (G.C "Table") [("book", encB b), ("heap", encH hp), ("names", .lst (b.names.map .str))]) := by rw [← e1, put_same]
  clear e1
  -- taken
  refine s_seq ?_
  refine new_taken wf g1 (evi_it (ev_fld (u := .lst (b.names.map .str)) ev_var a1 rfl) rfl) (fun z => rfl) (fun z h' => ev_call (eva2 ev_var ev_var) rfl fun Q q => ⟨b, z, rfl, wf.pl, q⟩) fun tk ntk => ?_
  have na1 : a ≠ tk := fun z => by rw [← z, a1] at ntk; cases ntk
  refine x_fld (a := a) ev_var (by rw [put_ne na1]; exact a1) (by simp) ?_
  dsimp only
  have g2 := (g1.new ntk (o := .dK (takD b)) (fun z => nomatch z) (fun _ z => nomatch z)).write (p := a) (u := .ins (G.C "Table") [("book", encB b), ("heap", encH hp), ("names", .lst (b.names.map .str))]) (o := .ins (G.C "Table") (putFA "taken" (.ref tk) [("book", encB b), ("heap", encH hp), ("names", .lst (b.names.map .str))])) a0 (by rw [put_ne na1]; exact a1) (fun _ z => nomatch z) (fun z => nomatch z) (fun _ z => nomatch z)
  generalize e2 : put (put h1 tk (.dK (takD b))) a (.ins (G.C "Table") (putFA "taken" (.ref tk) [("book", encB b), ("heap", encH hp), ("names", .lst (b.names.map .str))])) = h2 at g2
  have a2 : h2 a = some (.ins (G.C "Table") [("book", encB b), ("heap", encH hp), ("names", .lst (b.names.map .str)), ("taken", .ref tk)]) := by rw [← e2, put_same]; rfl
  have t2 : h2 tk = some (.dK (takD b)) := by rw [← e2, put_ne (Ne.symm na1), put_same]
  clear e2
  -- good
  refine s_seq ?_
  refine new_dicts (vs := [4]) wf g2 (evi_it (ev_fld (u := .lst (b.names.map .str)) ev_var a2 rfl) rfl) (fun z => ev_var) (fun z => rfl) fun gd ga h3 ngd nga iga sb3 g3 hgd hga => ?_
  refine x_fld (a := a) ev_var (sb3 a _ a2) (by simp) ?_
  dsimp only
  have a3 := sb3 a _ a2
  have t3 := sb3 tk _ t2
  have nga' : ∀ z ∈ b.names, ga z ≠ a ∧ ga z ≠ tk := fun z hz => ⟨fun e => (by have := (nga z hz).1; rw [e, a2] at this; cases this), fun e => (by have := (nga z hz).1; rw [e, t2] at this; cases this)⟩
  have ngd' : gd ≠ a ∧ gd ≠ tk := ⟨fun e => (by rw [e, a2] at ngd; cases ngd), fun e => (by rw [e, t2] at ngd; cases ngd)⟩
  have na3 : a ≠ tk := na1
  have g4 := g3.write (p := a) (o := .ins (G.C "Table") (putFA "good" (.ref gd) [("book", encB b), ("heap", encH hp), ("names", .lst (b.names.map .str)), ("taken", .ref tk)])) a0 a3 (fun _ z => nomatch z) (fun z => nomatch z) (fun _ z => nomatch z)
  generalize e4 : put h3 a (.ins (G.C "Table") (putFA "good" (.ref gd) [("book", encB b), ("heap", encH hp), ("names", .lst (b.names.map .str)), ("taken", .ref tk)])) = h4 at g4
  have a4 : h4 a = some (.ins (G.C "Table") [("book", encB b), ("heap", encH hp), ("names", .lst (b.names.map .str)), ("taken", .ref tk), ("good", .ref gd)]) := by rw [← e4, put_same]; rfl
  have t4 : h4 tk = some (.dK (takD b)) := by rw [← e4, put_ne (Ne.symm na1)]; exact t3
  have d4 : h4 gd = some (.dK (refD b ga)) := by rw [← e4, put_ne ngd'.1]; exact hgd
  have ga4 : ∀ z ∈ b.names, h4 (ga z) = some (.dK []) := fun z hz => by rw [← e4, put_ne (nga' z hz).1]; exact hga z hz
  clear e4
  -- joined
  refine s_seq ?_
  refine new_dicts (vs := [4]) wf g4 (evi_it (ev_fld (u := .lst (b.names.map .str)) ev_var a4 rfl) rfl) (fun z => ev_var) (fun z => rfl) fun jd ja h5 njd nja ija sb5 g5 hjd hja => ?_
  refine x_fld (a := a) ev_var (sb5 a _ a4) (by simp) ?_
  dsimp only
  have nja' : ∀ z ∈ b.names, ja z ≠ a ∧ ja z ≠ tk ∧ ja z ≠ gd ∧ ∀ y ∈ b.names, ja z ≠ ga y := fun z hz => ⟨fun e => (by have := (nja z hz).1; rw [e, a4] at this; cases this), fun e => (by have := (nja z hz).1; rw [e, t4] at this; cases this), fun e => (by have := (nja z hz).1; rw [e, d4] at this; cases this), fun y hy e => (by have := (nja z hz).1; rw [e, ga4 y hy] at this; cases this)⟩
  have njd' : jd ≠ a ∧ jd ≠ tk ∧ jd ≠ gd ∧ ∀ y ∈ b.names, jd ≠ ga y := ⟨fun e => (by rw [e, a4] at njd; cases njd), fun e => (by rw [e, t4] at njd; cases njd), fun e => (by rw [e, d4] at njd; cases njd), fun y hy e => (by rw [e, ga4 y hy] at njd; cases njd)⟩
  have g6 := g5.write (p := a) (o := .ins (G.C "Table") (putFA "joined" (.ref jd) [("book", encB b), ("heap", encH hp), ("names", .lst (b.names.map .str)), ("taken", .ref tk), ("good", .ref gd)])) a0 (sb5 a _ a4) (fun _ z => nomatch z) (fun z => nomatch z) (fun _ z => nomatch z)
  generalize e6 : put h5 a (.ins (G.C "Table") (putFA "joined" (.ref jd) [("book", encB b), ("heap", encH hp), ("names", .lst (b.names.map .str)), ("taken", .ref tk), ("good", .ref gd)])) = h6 at g6
  have a6 : h6 a = some (.ins (G.C "Table") [("book", encB b), ("heap", encH hp), ("names", .lst (b.names.map .str)), ("taken", .ref tk), ("good", .ref gd), ("joined", .ref jd)]) := by rw [← e6, put_same]; rfl
  have t6 : h6 tk = some (.dK (takD b)) := by rw [← e6, put_ne (Ne.symm na1)]; exact sb5 _ _ t4
  have d6 : h6 gd = some (.dK (refD b ga)) := by rw [← e6, put_ne ngd'.1]; exact sb5 _ _ d4
  have j6 : h6 jd = some (.dK (refD b ja)) := by rw [← e6, put_ne njd'.1]; exact hjd
  have ga6 : ∀ z ∈ b.names, h6 (ga z) = some (.dK []) := fun z hz => by rw [← e6, put_ne (nga' z hz).1]; exact sb5 _ _ (ga4 z hz)
  have ja6 : ∀ z ∈ b.names, h6 (ja z) = some (.dK []) := fun z hz => by rw [← e6, put_ne (nja' z hz).1]; exact hja z hz
  clear e6
  -- whole
  refine ss_fld (v := .int ((2 ^ hp.length : Nat) - 1 : Int)) (ev_bin (ev_bin ev_c (ev_cb (eva1 ev_var) (c_len (n := hp.length) (by unfold encH; simp))) (u := .int ((2 ^ hp.length : Nat) : Int)) fun Q q => ?_) ev_c (f_sub _ _)) ev_var a6 (by simp) ?_
  · show CPow 1 (hp.length : Int) ∧ Q (.int (1 * 2 ^ ((hp.length : Nat) : Int).toNat)) h6
    refine ⟨⟨by omega, by have := ho.n8; omega, by decide⟩, Qv q ?_⟩
    congr 1
    simp
  -- weights
  have a7 : put h6 a (.ins (G.C "Table") (putFA "whole" (.int ((2 ^ hp.length : Nat) - 1 : Int)) [("book", encB b), ("heap", encH hp), ("names", .lst (b.names.map .str)), ("taken", .ref tk), ("good", .ref gd), ("joined", .ref jd)])) a = some (.ins (G.C "Table") [("book", encB b), ("heap", encH hp), ("names", .lst (b.names.map .str)), ("taken", .ref tk), ("good", .ref gd), ("joined", .ref jd), ("whole", .int ((2 ^ hp.length : Nat) - 1 : Int))]) := by rw [put_same]; rfl
  refine ss_fld (v := .lst ((List.range (2 ^ hp.length)).map fun n => .int (wt hp n))) (ev_lc (ok := fun _ => True) (List.range (2 ^ hp.length)) (fun n => .int (0 + (n : Nat))) (fun n => .int (wt hp n)) (fun Q q => ?_) (fun _ _ => trivial) (by rw [List.length_range, sizeLine_eq]; omega) (fun n hn => ⟨_, rfl, fun h' _ => ?_⟩)) ev_var a7 (by simp) ?_
  · refine (eva1 (ev_bin (ev_fld (u := .int ((2 ^ hp.length : Nat) - 1 : Int)) ev_var a7 rfl) ev_c (f_add _ _))) _ ?_
    show -(2 ^ 62) ≤ ((2 ^ hp.length : Nat) - 1 : Int) + 1 ∧ ((2 ^ hp.length : Nat) - 1 : Int) + 1 < 2 ^ 62 ∧ Q _ _
    refine ⟨by omega, by omega, ?_⟩
    have : (((2 ^ hp.length : Nat) - 1 : Int) + 1).toNat = 2 ^ hp.length := by omega
    rw [this]
    exact q
  · have hn' := List.mem_range.mp hn
    refine ev_call (eva2 ev_var (ev_call (eva1 ev_var) rfl fun Q q => ⟨n, by simp, q⟩)) rfl fun Q q => ⟨hp, encS n, setI n, rfl, .inl rfl, inH_rg hn', by have := setI_len n; omega, q⟩
  rw [put_put]
  have g8 := g6.write (p := a) (o := .ins (G.C "Table") (tabF b hp ⟨tk, gd, jd, ga, ja⟩)) a0 a6 (fun _ z => nomatch z) (fun z => nomatch z) (fun _ z => nomatch z)
  show sFor _ _ _ _ (put h6 a (.ins (G.C "Table") (tabF b hp ⟨tk, gd, jd, ga, ja⟩))) _ _
  generalize e8 : put h6 a (.ins (G.C "Table") (tabF b hp ⟨tk, gd, jd, ga, ja⟩)) = h8 at g8
  have t8 : TabAt G h8 a b hp (fun _ => []) (fun _ => []) ⟨tk, gd, jd, ga, ja⟩ := by
    subst e8
    refine ⟨put_same, by rw [put_ne (Ne.symm na1)]; exact t6, by rw [put_ne ngd'.1]; exact d6, by rw [put_ne njd'.1]; exact j6, fun z hz => by rw [put_ne (nga' z hz).1]; exact ga6 z hz, fun z hz => by rw [put_ne (nja' z hz).1]; exact ja6 z hz, iga, ija, fun z hz y hy e => (nja' y hy).2.2.2 z hz e.symm, fun z hz => ⟨(nga' z hz).2, (nga z hz).2, fun e => njd'.2.2.2 z hz e.symm⟩, fun z hz => ⟨(nja' z hz).2.1, (nja' z hz).2.2.1, (nja z hz).2⟩, fun _ _ => ⟨by simp, fun _ h => absurd h (by simp)⟩, fun _ _ => ⟨by simp, fun _ h => absurd h (by simp)⟩⟩
  clear e8
  -- the filling
  have ew : ((2 ^ hp.length : Nat) - 1 : Int) = ((2 ^ hp.length - 1 : Nat) : Int) := by omega
  refine so_for (it := ⟨(byPop (2 ^ hp.length - 1)).map fun (n : Nat) => .int (n : Int), fun _ => True⟩) (evi_it ((s_sortK (ws := (List.range' 1 (2 ^ hp.length - 1)).map fun (n : Nat) => Val.int (n : Int)) g8.tb (Gx.mem hns) (eva1 (v := .lst ((List.range' 1 (2 ^ hp.length - 1)).map fun (n : Nat) => Val.int (n : Int))) fun Q q => ?_) rfl (keys_ints (f := fun n => ((setI n).length : Int)) fun n hn => ?_)).cast (w := .lst ((byPop (2 ^ hp.length - 1)).map fun (n : Nat) => .int (n : Int))) (by rw [sort_nats]; unfold byPop; simp only [Int.ofNat_le])) rfl) fun dd hdd => ?_
  · refine (eva2 ev_c (ev_bin (t_fld t8 (Sub.refl _) (ev_var (v := .ref a)) tf_whole) ev_c (f_add _ _))) _ ?_
    show -1000 ≤ (1 : Int) ∧ (1 : Int) ≤ 1000 ∧ ((2 ^ hp.length : Nat) - 1 : Int) + 1 ≤ 1000 ∧ -1000 ≤ ((2 ^ hp.length : Nat) - 1 : Int) + 1 ∧ Q _ _
    refine ⟨by omega, by omega, by omega, by omega, ?_⟩
    rw [ew, rgI_nats, List.map_map]
    exact q
  · refine ev_cb (eva1 (ev_call (eva1 ev_var) rfl fun Q q => ⟨n, rfl, q⟩)) (c_len ?_)
    unfold encS
    simp
  · have up := byPop_up (2 ^ hp.length - 1)
    have nd := byPop_nodup (2 ^ hp.length - 1)
    refine for_ind (fun vs ρ h' => ∃ (done L : List Nat) (x3 : Option Val) (gs js : Str → List Nat), byPop (2 ^ hp.length - 1) = done ++ L ∧ vs = L.map (fun (n : Nat) => Val.int (n : Int)) ∧ ρ = [some (.ref a), some (encB b), some (encH hp), x3, none] ∧ TabAt G h' a b hp gs js ⟨tk, gd, jd, ga, ja⟩ ∧ OffT b ⟨tk, gd, jd, ga, ja⟩ h8 h' ∧ TInv b hp (fun n => n ∈ done) gs js) ?_ ?_ _ _ _
      ⟨[], _, none, fun _ => [], fun _ => [], rfl, rfl, rfl, t8, OffT.refl _, ⟨fun z hz n => ⟨fun h => absurd h (by simp), fun h => absurd h.1 (by simp)⟩, fun z hz n => ⟨fun h => absurd h (by simp), fun h => absurd h.1 (by simp)⟩⟩⟩
    · rintro ρ h' ⟨done, L, x3, gs, js, e, el, rfl, t', o', ti⟩
      have := map_nil_nat el
      subst this
      rw [List.append_nil] at e
      have hD : ∀ n, n ∈ done ↔ n ≠ 0 ∧ inH hp n := fun n => by
        rw [← e, mem_byPop]; unfold inH; omega
      have ns : ∀ z ∈ b.names, h0 (ga z) = none ∧ h0 (ja z) = none := fun z hz => by
        constructor
        · cases e : h0 (ga z) with
          | none => rfl
          | some o => have := g2.sub _ _ e; rw [(nga z hz).1] at this; cases this
        · cases e : h0 (ja z) with
          | none => rfl
          | some o => have := g4.sub _ _ e; rw [(nja z hz).1] at this; cases this
      refine ⟨trivial, h', Lss.refl _, q h' ⟨tk, gd, jd, ga, ja⟩ gs js t' ⟨fun z hz n => by rw [ti.g z hz n, hD], fun z hz n => by rw [ti.j z hz n, hD]⟩ ?_ ns⟩
      refine ⟨fun c => ?_, fun c hc => ?_⟩
      · cases ec : h0 c with
        | none => exact .inl rfl
        | some o =>
          refine .inr ?_
          rw [o' c fun z hz => ⟨fun e => (by rw [e] at ec; rw [show h0 (ga z) = _ from (ns z hz).1] at ec; cases ec), fun e => (by rw [e] at ec; rw [show h0 (ja z) = _ from (ns z hz).2] at ec; cases ec)⟩]
          exact (g8.sub c o ec).symm
      · by_cases hx : ∀ z ∈ b.names, c ≠ ga z ∧ c ≠ ja z
        · rw [o' c hx] at hc; exact g8.bz c hc
        · exfalso
          apply hx
          intro z hz
          exact ⟨fun e => (by rw [e, t'.ga z hz] at hc; cases hc), fun e => (by rw [e, t'.ja z hz] at hc; cases hc)⟩
    · rintro v vs ρ h' ⟨done, L, x3, gs, js, e, el, rfl, t', o', ti⟩
      obtain ⟨n, L', rfl, rfl, rfl⟩ := map_cons_nat el
      have hmem : n ∈ byPop (2 ^ hp.length - 1) := by rw [e]; simp
      have hn := mem_byPop.mp hmem
      have hnH : inH hp n := by unfold inH; omega
      rw [e] at nd up
      have nD : n ∉ done := fun hd => (List.nodup_append.mp nd).2.2 n hd n List.mem_cons_self rfl
      have fo : FillOk b hp (fun k => k ∈ done) n := ⟨wf, ho, hn.1, hnH, nD, fun p p0 pn s => by
        have hp' : p ∈ byPop (2 ^ hp.length - 1) := mem_byPop.mpr ⟨p0, by have := sub_le s; omega⟩
        rw [e] at hp'
        rcases List.mem_append.mp hp' with h | h
        · exact h
        · rcases List.mem_cons.mp h with h | h
          · exact absurd h pn
          · have := (List.pairwise_cons.mp (List.pairwise_append.mp up).2.1).1 p h
            have := pop_lt (inH_lt ho.n8 hnH) p0 s pn
            omega⟩
      refine ⟨trivial, _, rfl, fun Nx hNx => ?_⟩
      subst hdd
      refine e_meth (ev_var (v := .ref a)) t'.ins rfl (eva1 (ev_var (v := .int (n : Int)))) rfl ⟨a, b, hp, gs, js, _, fun k => k ∈ done, n, rfl, t', ti, fo, fun h2 gs2 js2 t2 o2 ti2 => ?_⟩
      refine hNx _ _ ⟨done ++ [n], L', _, gs2, js2, by rw [e]; simp, rfl, rfl, t2, o'.trans o2, ⟨fun z hz k => ?_, fun z hz k => ?_⟩⟩
      · rw [ti2.g z hz k]; simp
      · rw [ti2.j z hz k]; simp
end DL
namespace DL
open PySem PySem.Spec PyProof.Rows L2
/-- Table(book, heap) -/
theorem n_table {G : Gx} {ρ : Sl} {h : Hv} {E : PX} {aa : AD} {Q : PV} {b : Book} {hp : Heap'} (pre : TabPre G h b hp) (ha : EvA ρ h E aa [encB b, encH hp]) (q : ∀ a h' A gs js, TabAt G h' a b hp gs js A → TInv b hp (fun n => n ≠ 0 ∧ inH hp n) gs js → Lss h' h → (∀ z ∈ b.names, h (A.ga z) = none) → Q (.ref a) h') : dNew (G.C "Table") 3 (S_Table___init__ G) aa ρ h Q E := by
  refine ha _ fun a na => ⟨rfl, a, b, hp, h, rfl, pre.1, pre.2.1, na, rfl, pre.2.2.1, pre.2.2.2, fun h' A gs js t ti l fr => ⟨rfl, q a h' A gs js t ti l fun z hz => (fr z hz).1⟩⟩
theorem tinv_dec {b : Book} {hp : Heap'} {gs js : Str → List Nat} (ti : TInv b hp (fun n => n ≠ 0 ∧ inH hp n) gs js) {z : Str} (hz : z ∈ b.names) {n : Nat} (n0 : n ≠ 0) (hn : inH hp n) : decide (n ∈ gs z) = dec (Can b hp z n) := by
  rw [Bool.eq_iff_iff, decide_eq_true_eq, dec_iff, ti.g z hz]
  exact ⟨fun h => h.2, fun h => ⟨⟨n0, hn⟩, h⟩⟩
theorem bo_can_count (G : Gx) (N : List Str) (hN : N.length = 4) : ∀ as h Q E, as.length = 4 → S_can_count G as h Q E → den_can_count G (startA N as) h (endsR Q) (RX E) := by
  rintro as h Q E - ⟨b, hp, v, n, rfl, pre, n0, hn, q⟩
  unfold den_can_count
  simp only [startA, hN]
  have hlt := inH_lt pre.2.1.n8 hn
  refine s_seq (s_call (eva2 ev_var ev_var) rfl ⟨b, v, rfl, pre.1.n4, ?_⟩)
  rcases q with ⟨z, rfl, hz, q⟩ | ⟨o, q⟩
  · refine .inl ⟨z, rfl, hz, ?_⟩
    have hrg := inH_rg hn
    have h8 := pre.2.1.n8
    dsimp only
    show dDIn _ _ _ _ _ _
    refine ev_call (u := .int (n : Int)) (eva1 (ev_var (v := encS n))) rfl (fun Q q => ⟨_, setI n, rfl, rfl, fun i hi => ⟨(hrg i hi).1, by have := (hrg i hi).2; omega⟩, by have := setI_len n; omega, Qv q (by rw [bits_set hlt])⟩) _ ?_
    unfold dDGet dFld
    refine n_table pre (eva2 ev_var ev_var) fun a h' A gs js t ti l _ => ?_
    dsimp only
    rw [t.ins]
    dsimp only
    refine ⟨rfl, ?_⟩
    rw [tf_good]
    show match dgetA (.ref A.gd) (.str z) h' with | some (some u) => _ | _ => False
    rw [get_good t hz]
    show match dgetA (.ref (A.ga z)) (.int (n : Int)) h' with | some o => RT Q (.bl o.isSome) h' | none => False
    rw [in_good t hz n]
    show RT Q (.bl (if n ∈ gs z then some (.bl true) else none : Option Val).isSome) h'
    rw [is_some_if, tinv_dec ti hz n0 hn]
    exact RT.less l q
  · exact .inr ⟨o, h, Lss.refl h, q⟩
theorem bo_all_lands (G : Gx) (N : List Str) (hN : N.length = 4) : ∀ as h Q E, as.length = 2 → S_all_lands G as h Q E → den_all_lands G (startA N as) h (endsR Q) (RX E) := by
  rintro as h Q E - ⟨b, hp, rfl, pre, h1, q⟩
  unfold den_all_lands
  simp only [startA, hN]
  have p1 : 2 ≤ 2 ^ hp.length := by
    have := Nat.pow_le_pow_right (n := 2) (by decide) h1
    simpa using this
  refine s_seq (n_table pre (eva2 ev_var ev_var) fun a h' A gs js t ti l _ => ?_)
  dsimp only
  have ew : ((2 ^ hp.length : Nat) - 1 : Int) = ((2 ^ hp.length - 1 : Nat) : Int) := by omega
  refine s_ret (v := .tup ((b.names.filter fun z => dec (Can b hp z (2 ^ hp.length - 1))).map .str)) (ev_cb (eva1 (ev_lcF (ok := fun _ => True) b.names .str (fun z => dec (Can b hp z (2 ^ hp.length - 1))) .str (evi_it (t_fld t (Sub.refl _) ev_var tf_names) rfl) (fun _ _ => trivial) (by have := pre.1.n4; unfold Book.names; rw [List.length_map, sizeLine_eq]; omega) (fun z hz => ⟨_, rfl, fun h2 sb => ?_, fun _ h2 sb => ev_var⟩))) fun Q q => q) (RT.less l q)
  rw [← tinv_dec ti hz (show 2 ^ hp.length - 1 ≠ 0 by omega) (by unfold inH; omega)]
  exact evt_test (t_ingood t sb hz ((t_fld t sb ev_var tf_whole).cast (by rw [ew])) ev_var ev_var)
/-! sorted sets -/
def kdS (v : Val) : PyData := (dat v).getD .none
theorem dat_encS (n : Nat) : dat (encS n) = some (.tuple ((setI n).map .int)) := by
  unfold encS
  rw [dat]
  rw [dats_ints]
  rfl
theorem kdS_enc (n : Nat) : kdS (encS n) = .tuple ((setI n).map .int) := by unfold kdS; rw [dat_encS]; rfl
theorem le_sets (a b : Nat) : PySem.W.dataLe false kdS (encS a) (encS b) = leSet a b := by
  show (!PySem.W.dataLt (kdS (encS b)) (kdS (encS a))) = _
  rw [kdS_enc, kdS_enc, PySem.W.dataLt_tuple]
  show (!PySem.W.rowLt ((setI b).map .int) ((setI a).map .int)) = _
  rw [PySem.W.dataLt_ints]
  rfl
theorem sort_sets (ns : List Nat) : (ns.map encS).mergeSort (PySem.W.dataLe false kdS) = (sortS ns).map encS := by
  unfold sortS
  rw [List.map_mergeSort (s := PySem.W.dataLe false kdS)]
  exact fun a _ b _ => (le_sets a b).symm
theorem setI_ne {n : Nat} (hn : n < 256) (n0 : n ≠ 0) : ∃ x r, setI n = x :: r := by
  cases e : setI n with
  | nil => have := bits_set hn; rw [e] at this; exact absurd this.symm n0
  | cons x r => exact ⟨x, r, rfl⟩
theorem sortOk_sets {ns : List Nat} (h : ∀ n ∈ ns, n ≠ 0 ∧ n < 256) : SortOk (ns.map encS) kdS := by
  refine ⟨fun w hw => ?_, fun d hd d' hd' => ?_, .inl fun d hd => ?_, fun w hw => ?_⟩
  · obtain ⟨n, _, rfl⟩ := List.mem_map.mp hw
    rw [dat_encS, kdS_enc]
  · rw [List.map_map] at hd hd'
    obtain ⟨n, _, rfl⟩ := List.mem_map.mp hd
    obtain ⟨n', _, rfl⟩ := List.mem_map.mp hd'
    simp only [Function.comp, kdS_enc]
    rw [PySem.W.alike]
    exact PySem.W.alike_ints _ _
  · rw [List.map_map] at hd
    obtain ⟨n, hn, rfl⟩ := List.mem_map.mp hd
    obtain ⟨x, r, e⟩ := setI_ne (h n hn).2 (h n hn).1
    exact ⟨.int x, r.map .int, by simp only [Function.comp, kdS_enc, e]; rfl⟩
  · obtain ⟨n, _, rfl⟩ := List.mem_map.mp hw
    rw [kdS_enc]
    rw [PyData.depth, PySem.W.depth_ints]
    decide
theorem leSet_tot (a b : Nat) : (leSet a b || leSet b a) = true := by
  unfold leSet
  by_cases h : setI b < setI a
  · have : ¬ setI a < setI b := fun h' => List.lt_irrefl _ (List.lt_trans h h')
    simp [h, this]
  · simp [h]
theorem leSet_tr {a b c : Nat} (h : leSet a b = true) (h' : leSet b c = true) : leSet a c = true := by
  unfold leSet at *
  simp only [Bool.not_eq_true', decide_eq_false_iff_not] at *
  exact List.not_lt.mpr (List.le_trans (List.not_lt.mp h) (List.not_lt.mp h'))
theorem leSet_as {a b : Nat} (ha : a < 256) (hb : b < 256) (h : leSet a b = true) (h' : leSet b a = true) : a = b := by
  unfold leSet at *
  simp only [Bool.not_eq_true', decide_eq_false_iff_not] at *
  exact setI_inj ha hb (List.le_antisymm (List.not_lt.mp h) (List.not_lt.mp h'))
theorem sortS_perm (ns : List Nat) : (sortS ns).Perm ns := List.mergeSort_perm _ _
theorem sortS_up (ns : List Nat) : (sortS ns).Pairwise fun a b => leSet a b = true := List.pairwise_mergeSort (le := leSet) (fun a b c h h' => leSet_tr h h') leSet_tot ns
/-- sorted lists of the same sets are one -/
theorem up_unique : ∀ {xs ys : List Nat}, (∀ n ∈ xs, n < 256) → xs.Perm ys → xs.Pairwise (fun a b => leSet a b = true) → ys.Pairwise (fun a b => leSet a b = true) → xs = ys
  | [], ys, _, p, _, _ => (List.Perm.eq_nil p.symm).symm
  | x :: xs, [], _, p, _, _ => absurd p.length_eq (by simp)
  | x :: xs, y :: ys, lt, p, hx, hy => by
    have ly : ∀ n ∈ y :: ys, n < 256 := fun n hn => lt n (p.mem_iff.mpr hn)
    have e : x = y := by
      rcases List.mem_cons.mp (p.mem_iff.mp (List.mem_cons_self (a := x) (l := xs))) with e | h1
      · exact e
      · rcases List.mem_cons.mp (p.mem_iff.mpr (List.mem_cons_self (a := y) (l := ys))) with e | h2
        · exact e.symm
        · exact leSet_as (lt x List.mem_cons_self) (ly y List.mem_cons_self) ((List.pairwise_cons.mp hx).1 y h2) ((List.pairwise_cons.mp hy).1 x h1)
    subst e
    rw [up_unique (fun n hn => lt n (List.mem_cons_of_mem _ hn)) p.cons_inv (List.pairwise_cons.mp hx).2 (List.pairwise_cons.mp hy).2]
theorem perm_of_mem {xs ys : List Nat} (hx : xs.Nodup) (hy : ys.Nodup) (h : ∀ n, n ∈ xs ↔ n ∈ ys) : xs.Perm ys := (List.perm_ext_iff_of_nodup hx hy).mpr h
theorem sortS_congr {xs ys : List Nat} (lt : ∀ n ∈ xs, n < 256) (hx : xs.Nodup) (hy : ys.Nodup) (h : ∀ n, n ∈ xs ↔ n ∈ ys) : sortS xs = sortS ys :=
  up_unique (fun n hn => lt n ((sortS_perm xs).mem_iff.mp hn)) ((sortS_perm xs).trans ((perm_of_mem hx hy h).trans (sortS_perm ys).symm)) (sortS_up xs) (sortS_up ys)
theorem canL_nodup (b : Book) (hp : Heap') (z : Str) : (canL b hp z).Nodup := List.nodup_range.filter _
/-- [f(k) for k in d] -/
theorem lc_dkeys {α : Type} {de : ED} {t : Tg} {te : ED} {vs : List Nat} {ρ : Sl} {h : Hv} {Q : PV} {E : PX} {d : Addr} {kvs : List (Key × Val)} (xs : List α) (f g : α → Val) (hde : EvE ρ h E de (.ref d)) (e : h d = some (.dK kvs)) (ek : kvs.map (fun p => keyV p.1) = xs.map f) (hl : xs.length ≤ sizeLine)
    (he : ∀ x ∈ xs, ∃ ρ', bT t (f x) (wipeA ρ vs) = some ρ' ∧ ∀ h', EvE ρ' h' EF te (g x)) (q : ∀ (o : Obj) (ys : List (Key × V)), Q (.lst (xs.map g)) (put h d (.dF o ys kvs))) : dLc (dKeys de) t tTrue te vs ρ h Q E := by
  refine hde _ ?_
  show match h d with | some (.dK kvs) => _ | some (.dF o xs kvs) => _ | _ => False
  rw [e]
  intro o ys
  show ∀ D, put h d (.dF o ys kvs) D = none → lcL (fun h2 => h2 d = some (.dF o ys kvs)) t tTrue te (wipeA ρ vs) (kvs.map fun p => keyV p.1) [] (put (put h d (.dF o ys kvs)) D .busy) _
  intro D nD
  rw [ek]
  have ne : d ≠ D := fun z => by rw [← z, put_same] at nD; cases nD
  refine lcL_filtT f (fun _ => true) g (by rw [put_ne ne, put_same]) xs [] _ (by simpa using hl) (fun x hx => ?_) ?_
  · obtain ⟨ρ', e1, e2⟩ := he x hx
    exact ⟨ρ', e1, fun Q' q' => q', fun _ Q' q' => e2 _ Q' q'⟩
  · rw [List.nil_append, drop_put nD, List.filter_eq_self.mpr (fun _ _ => rfl)]
    exact q o ys
theorem bo_table_of (G : Gx) (N : List Str) (hN : N.length = 5) : ∀ as h Q E, as.length = 2 → S_table_of G as h Q E → den_table_of G (startA N as) h (endsR Q) (RX E) := by
  rintro as h Q E - ⟨b, hp, rfl, pre, q⟩
  unfold den_table_of
  simp only [startA, hN]
  have wf := pre.1
  refine s_seq (n_table pre (eva2 ev_var ev_var) fun a h1 A gs js t ti l fr => ?_)
  dsimp only
  show dCB fTuple _ _ _ _ _
  simp only [dCB, aCons, aNil]
  have l4 : b.names.length ≤ 4 := by have := wf.n4; unfold Book.names; rw [List.length_map]; exact this
  have eq : ∀ z ∈ b.names, sortS (gs z) = sortS (canL b hp z) := fun z hz => sortS_congr (t.sg z hz).lt (t.sg z hz).nd (canL_nodup b hp z) fun n => by
    rw [ti.g z hz, mem_canL]
    exact ⟨fun h => ⟨h.1.2, h.1.1, h.2⟩, fun h => ⟨⟨h.2.1, h.1⟩, h.2.2⟩⟩
  have nd := names_nodup wf
  refine lc_ind (fun D r acc h' => ∃ done L : List Str, b.names = done ++ L ∧ r = L.map .str ∧ acc = done.map (fun z => Val.tup ((sortS (canL b hp z)).map encS)) ∧ h1 D = none ∧ h' D = some .busy ∧ (∀ c, c ≠ D → (∀ z ∈ done, c ≠ A.ga z) → h' c = h1 c) ∧ ∀ z ∈ done, h' (A.ga z) ≠ some .busy) (ok := fun _ => True) (evi_it (t_fld t (Sub.refl _) ev_var tf_names) rfl) (fun D nD => ⟨[], b.names, rfl, rfl, rfl, nD, put_same, fun c hc _ => put_ne hc, fun _ h => absurd h (by simp)⟩) ?_ ?_
  · rintro D acc h' ⟨done, L, e, el, rfl, nD, hD, k1, k2⟩
    have := map_nil_str el
    subst this
    rw [List.append_nil] at e
    refine ⟨trivial, ?_⟩
    show fTuple [.lst _] _ _
    simp only [fTuple, seqOf]
    refine RT.less (h2 := h) ⟨fun c => ?_, fun c hc => ?_⟩ (Qv q (by unfold tabV; rw [e]))
    · cases ec : h c with
      | none => exact .inl rfl
      | some o =>
        have n1 : ∀ z ∈ done, c ≠ A.ga z := fun z hz e2 => by rw [e2, fr z (e ▸ hz)] at ec; cases ec
        have n2 : c ≠ D := fun z => by
          rcases l.l c with z1 | z1
          · rw [z1] at ec; cases ec
          · rw [z1, z, nD] at ec; cases ec
        refine .inr ?_
        rw [drop_ne n2, k1 c n2 n1, ← ec]
        rcases l.l c with z1 | z1
        · rw [z1] at ec; cases ec
        · exact z1
    · by_cases n2 : c = D
      · subst n2; rw [drop_same] at hc; cases hc
      · rw [drop_ne n2] at hc
        by_cases n1 : ∃ z ∈ done, c = A.ga z
        · obtain ⟨z, hz, rfl⟩ := n1; exact absurd hc (k2 z hz)
        · rw [k1 c n2 fun z hz e2 => n1 ⟨z, hz, e2⟩] at hc
          exact l.b c hc
  · rintro D v r acc h' ⟨done, L, e, el, rfl, nD, hD, k1, k2⟩
    obtain ⟨z, L', rfl, rfl, rfl⟩ := map_cons_str el
    have hz : z ∈ b.names := by rw [e]; simp
    rw [e] at nd
    have zd : z ∉ done := fun hd => (List.nodup_append.mp nd).2.2 z hd z List.mem_cons_self rfl
    have old : ∀ c o, h1 c = some o → (∀ y ∈ done, c ≠ A.ga y) → h' c = some o := fun c o hc hn => by
      rw [k1 c (fun z => by rw [z, nD] at hc; cases hc) hn]; exact hc
    have dn : ∀ y ∈ done, y ∈ b.names := fun y hy => by rw [e]; exact List.mem_append_left _ hy
    have a' : h' a = some (.ins (G.C "Table") (tabF b hp A)) := old a _ t.ins fun y hy => (t.neJ (dn y hy)).2
    have gd' : h' A.gd = some (.dK (refD b A.ga)) := old _ _ t.gd fun y hy e2 => (t.ngt y (dn y hy)).2.1 e2.symm
    have gz' : h' (A.ga z) = some (.dK (encD (gs z))) := old _ _ (t.ga z hz) fun y hy e2 => t.ng z hz y (dn y hy) (fun e3 => zd (e3 ▸ hy)) e2
    refine ⟨trivial, _, rfl, fun Nx hNx => ?_⟩
    simp only [tTrue, if_true, dCB, aCons, aNil]
    refine lc_dkeys (gs z) (fun n => .int ((n : Nat) : Int)) encS (ev_dget (ev_fld (u := .ref A.gd) ev_var a' tf_good) ev_var (by simp only [dgetA, gd', keyOf]; unfold refD; rw [val_names hz])) gz' (by unfold encD; rw [List.map_map]; rfl) (by rw [sizeLine_eq]; have := (t.sg z hz).len; omega) (fun n hn => ⟨_, rfl, fun h2 => ev_call (eva1 ev_var) rfl fun Q q => ⟨n, rfl, q⟩⟩) fun o ys => ?_
    show fSortedD [.lst _] _ _
    refine ⟨_, _, kdS, rfl, rfl, sortOk_sets fun n hn => ⟨?_, (t.sg z hz).lt n hn⟩, ?_⟩
    · exact ((ti.g z hz n).mp hn).1.1
    rw [sort_sets]
    show fTuple [.lst _] _ _
    simp only [fTuple, seqOf]
    refine ⟨by rw [List.length_map, sizeLine_eq]; have := congrArg List.length e; rw [List.length_append, List.length_cons] at this; omega, hNx _ _ ⟨done ++ [z], L', by rw [e]; simp, rfl, by rw [List.map_append, eq z hz]; rfl, nD, ?_, fun c hc hn => ?_, fun y hy => ?_⟩⟩
    · rw [put_ne (fun z => by rw [z, gz'] at hD; cases hD)]; exact hD
    · rw [put_ne (hn z (by simp))]; exact k1 c hc fun y hy => hn y (List.mem_append_left _ hy)
    · by_cases ey : A.ga y = A.ga z
      · rw [ey, put_same]; exact fun z => nomatch z
      · rw [put_ne ey]
        rcases List.mem_append.mp hy with hy | hy
        · exact k2 y hy
        · rw [List.mem_singleton.mp hy] at ey; exact absurd rfl ey
end DL
namespace DL
open PySem PySem.Spec PyProof.Rows L2
theorem encS_zero : encS 0 = .tup [] := by
  have : setI 0 = [] := by decide
  unfold encS; rw [this]; rfl
theorem f_addL {h : Hv} {v w : Val} {xs ys : List Val} (e1 : listOf v h = some xs) (e2 : listOf w h = some ys) (hl : xs.length + ys.length ≤ sizeLine) : EvF h fAdd v w (.lst (xs ++ ys)) := fun Q q => by
  unfold fAdd
  split
  · cases e1
  · cases e1
  · cases e1
  · rw [e1, e2]; exact ⟨hl, q⟩
theorem f_addT {h : Hv} {xs ys : List Val} (hl : xs.length + ys.length ≤ sizeLine) : EvF h fAdd (.tup xs) (.tup ys) (.tup (xs ++ ys)) := fun Q q => ⟨hl, q⟩
def lenV : Val → Nat
  | .tup vs => vs.length
  | _ => 0
theorem lenV_encS (n : Nat) : lenV (encS n) = (setI n).length := by unfold lenV encS; simp
def kdK (v : Val) : PyData := .tuple [.int (lenV v), kdS v]
theorem kdS_enc' (n : Nat) : kdS (encS n) = .tuple ((setI n).map .int) := by
  unfold kdS encS
  rw [dat, dats_ints]
  rfl
theorem le_keys (a b : Nat) : PySem.W.dataLe false kdK (encS a) (encS b) = leK a b := by
  show (!PySem.W.dataLt (kdK (encS b)) (kdK (encS a))) = _
  unfold kdK
  rw [kdS_enc', kdS_enc', lenV_encS, lenV_encS]
  rw [PySem.W.dataLt_pair (by rw [PySem.W.alike]) (by rw [PySem.W.alike]; exact PySem.W.alike_ints _ _)]
  have e1 : PyData.eqv (.int ((setI b).length : Int)) (.int ((setI a).length : Int)) = decide ((setI b).length = (setI a).length) := by
    rw [PyData.eqv, Bool.eq_iff_iff]; simp; omega
  have e2 : PyData.eqv (.tuple ((setI b).map .int)) (.tuple ((setI a).map .int)) = decide (setI b = setI a) := by
    rw [PyData.eqv]; exact eqvAll_ints _ _
  have e3 : PySem.W.dataLt (.tuple ((setI b).map .int)) (.tuple ((setI a).map .int)) = decide (setI b < setI a) := by
    rw [PySem.W.dataLt_tuple]; exact PySem.W.dataLt_ints _ _
  rw [e1, e2, e3, PySem.W.dataLt_int]
  unfold leK ltK
  congr 1
  by_cases h1 : (setI b).length = (setI a).length
  · have : ¬ (setI b).length < (setI a).length := by omega
    simp only [h1, decide_true, if_true, this, decide_false, Bool.false_or, Bool.true_and]
    by_cases h2 : setI b = setI a
    · have : ¬ setI b < setI a := by rw [h2]; exact List.lt_irrefl _
      simp [h2]
    · simp [h2]
  · simp [h1]
theorem sort_keys (ns : List Nat) : (ns.map encS).mergeSort (PySem.W.dataLe false kdK) = (ns.mergeSort leK).map encS := by
  rw [List.map_mergeSort (s := PySem.W.dataLe false kdK)]
  exact fun a _ b _ => (le_keys a b).symm
theorem keys_sets {h1 : Hv} {ns : List Nat} : KeysOk h1 (dTup (aCons (dCB fLen (aCons (dVar 0) aNil)) (aCons (dVar 0) aNil))) (ns.map encS) (fun v => .tup [.int (lenV v), v]) kdK := by
  refine ⟨fun w hw => ?_, fun d hd d' hd' => ?_, .inl fun d hd => ?_, fun w hw => ?_, fun w hw Q' q' => ?_⟩
  · obtain ⟨n, hn, rfl⟩ := List.mem_map.mp hw
    have : dat (encS n) = some (kdS (encS n)) := by
      rw [kdS_enc']; unfold encS; rw [dat, dats_ints]; rfl
    rw [dat, dats, dats, this]
    rfl
  · rw [List.map_map] at hd hd'
    obtain ⟨n, _, rfl⟩ := List.mem_map.mp hd
    obtain ⟨n', _, rfl⟩ := List.mem_map.mp hd'
    simp only [Function.comp, kdK, kdS_enc']
    simp only [PySem.W.alike, PySem.W.alikeAll, PySem.W.alike_ints, Bool.and_self]
  · rw [List.map_map] at hd
    obtain ⟨n, hn, rfl⟩ := List.mem_map.mp hd
    exact ⟨_, _, rfl⟩
  · obtain ⟨n, _, rfl⟩ := List.mem_map.mp hw
    simp only [kdK, kdS_enc']
    simp only [PyData.depth, PyData.depthAll, PySem.W.depth_ints]
    decide
  · obtain ⟨n, hn, rfl⟩ := List.mem_map.mp hw
    refine (ev_tup (eva2 (ev_cb (eva1 (ev_var (v := encS n))) (c_len (n := lenV (encS n)) (by unfold lenV encS; simp))) (ev_var (v := encS n))) (by rw [sizeLine_eq]; simp)) Q' q'
theorem range_dbl (i : Nat) : List.range (2 ^ (i + 1)) = List.range (2 ^ i) ++ (List.range (2 ^ i)).map (2 ^ i + ·) := by
  rw [Nat.pow_succ, Nat.mul_two, List.range_add]
theorem range_drop (n : Nat) : (List.range n).drop 1 = List.range' 1 (n - 1) := by
  rw [List.range_eq_range', List.drop_range']
theorem bo__law_sets (G : Gx) (N : List Str) (hN : N.length = 4) : ∀ as h Q E, as.length = 1 → S__law_sets G as h Q E → den__law_sets G (startA N as) h (endsR Q) (RX E) := by
  rintro as h Q E - ⟨k, rfl, k8, tb, hns, q⟩
  unfold den__law_sets
  simp only [startA, hN]
  have s3 : ∀ j, j ≤ 8 → 2 ^ j ≤ 256 := fun j hj => (Nat.pow_le_pow_right (by decide) hj : 2 ^ j ≤ 2 ^ 8)
  refine ss_set (v := .lst ((List.range (2 ^ 0)).map encS)) ((ev_lst (eva1 (ev_tup eva_nil (by simp))) (by rw [sizeLine_eq]; simp)).cast (by show Val.lst [.tup []] = .lst [encS 0]; rw [encS_zero])) ?_
  refine ss_for (evi_range1 (n := k) ev_var (by omega)) fun dd hdd => ?_
  refine for_ind (fun vs ρ h' => ∃ (i : Nat) (x2 x3 : Option Val), i ≤ k ∧ vs = (List.range' i (k - i)).map (fun (i : Nat) => .int (0 + (i : Nat))) ∧ ρ = [some (.int (k : Int)), some (.lst ((List.range (2 ^ i)).map encS)), x2, x3] ∧ h' = h) ?_ ?_ _ _ _ ⟨0, none, none, Nat.zero_le _, by rw [List.range_eq_range']; rfl, rfl, rfl⟩
  · rintro ρ h' ⟨i, x2, x3, hi, el, rfl, rfl⟩
    have : k - i = 0 := by
      have := congrArg List.length el
      simpa using this.symm
    have : i = k := by omega
    subst this
    refine ⟨trivial, ?_⟩
    dsimp only
    refine s_ret (s_sortK tb (Gx.mem hns) (eva1 (v := .lst ((List.range' 1 (2 ^ i - 1)).map encS)) (ev_sl (v := .lst ((List.range (2 ^ i)).map encS)) ev_var (evo_some ev_c) evo_none fun Q q => ?_)) rfl keys_sets) (RT.same (Qv q ?_))
    · show Q (.lst (cutA ((List.range (2 ^ i)).map encS) (some 1) none)) h'
      refine Qv q ?_
      congr 1
      have p1 : 1 ≤ 2 ^ i := Nat.one_le_two_pow
      unfold cutA
      have e1 : HT.sIx ((List.range (2 ^ i)).map encS).length 0 (some 1) = 1 := by
        unfold HT.sIx; simp; omega
      have e2 : HT.sIx ((List.range (2 ^ i)).map encS).length ((List.range (2 ^ i)).map encS).length none = 2 ^ i := by
        unfold HT.sIx; simp
      rw [e1, e2, ← List.map_drop, range_drop, List.take_of_length_le (by simp)]
    · rw [sort_keys]; rfl
  · rintro v vs ρ h' ⟨i, x2, x3, hi, el, rfl, rfl⟩
    have hk : i < k := by
      have := congrArg List.length el
      simp at this
      omega
    have er : List.range' i (k - i) = i :: List.range' (i + 1) (k - (i + 1)) := by
      rw [show k - i = (k - (i + 1)) + 1 by omega, List.range'_succ]
    rw [er, List.map_cons] at el
    obtain ⟨e1, e2⟩ := List.cons.inj el
    subst e1
    refine ⟨trivial, _, rfl, fun Nx hNx => ?_⟩
    subst hdd
    have l1 := s3 i (by omega)
    have l2 := s3 (i + 1) (by omega)
    refine s_set (v := .lst ((List.range (2 ^ (i + 1))).map encS)) ((ev_bin (ev_var (v := .lst ((List.range (2 ^ i)).map encS))) (ev_lc (ok := fun _ => True) (List.range (2 ^ i)) encS (fun j => encS (2 ^ i + j)) (evi_it (ev_var (v := .lst ((List.range (2 ^ i)).map encS))) rfl) (fun _ _ => trivial) (by rw [List.length_range, sizeLine_eq]; omega) (fun j hj => ⟨_, rfl, fun h2 _ => (ev_bin (ev_var (v := encS j)) (ev_tup (eva1 (ev_var (v := .int (0 + (i : Nat))))) (by rw [sizeLine_eq]; simp)) (f_addT (by have := setI_len j; rw [sizeLine_eq]; simp; omega))).cast ?_⟩)) (f_addL rfl rfl (by simp; rw [sizeLine_eq]; omega))).cast (by rw [range_dbl, List.map_append, List.map_map]; rfl)) ?_
    · unfold encS
      rw [set_dbl (by omega) (List.mem_range.mp hj), List.map_append]
      simp
    · exact hNx _ _ ⟨i + 1, _, x3, by omega, e2, rfl, rfl⟩
end DL
namespace DL
open PySem PySem.Spec PyProof.Rows L2
theorem inA_ints {i : Int} {xs : List Int} : inA (.int i) (xs.map .int) = decide (i ∈ xs) := by
  unfold inA
  rw [List.any_map, Bool.eq_iff_iff, List.any_eq_true, decide_eq_true_eq]
  constructor
  · rintro ⟨x, hx, e⟩
    have : (x == i) = true := e
    rw [← eq_of_beq this]; exact hx
  · intro h
    exact ⟨i, h, show (i == i) = true from beq_self_eq_true i⟩
theorem flat_ints (xs : List Int) : (xs.map Val.int).all flatA = true := by
  rw [List.all_map, List.all_eq_true]; intro x _; rfl
theorem f_notInI {h : Hv} {i : Int} {v : Val} {xs : List Int} (e : seqOf v h = some (xs.map .int)) : EvF h fNotIn (.int i) v (.bl (!decide (i ∈ xs))) := fun Q q => by
  show match seqOf v h with | some vs => flatA (.int i) = true ∧ vs.all flatA = true ∧ Q (.bl (!inA (.int i) vs)) h | none => False
  rw [e]
  exact ⟨rfl, flat_ints xs, by rw [inA_ints]; exact q⟩
theorem f_inI {h : Hv} {i : Int} {v : Val} {xs : List Int} (e : seqOf v h = some (xs.map .int)) : EvF h fIn (.int i) v (.bl (decide (i ∈ xs))) := fun Q q => by
  show match seqOf v h with | some vs => flatA (.int i) = true ∧ vs.all flatA = true ∧ Q (.bl (inA (.int i) vs)) h | none => False
  rw [e]
  exact ⟨rfl, flat_ints xs, by rw [inA_ints]; exact q⟩
theorem f_eqT0 {h : Hv} {xs : List Int} (hl : xs.length ≤ 1000) : EvF h fEq (.tup (xs.map .int)) (.tup []) (.bl (decide (xs = []))) := fun Q q => by
  refine fEq_dat (okN_ints hl 63) (okN_ints (xs := []) (by simp) 63) ?_
  have := eqD_ints xs []
  rw [List.map_nil] at this
  rw [this]; exact q
theorem okN_lints {xs : List Int} (h : xs.length ≤ 1000) (d : Nat) : okN (d + 1) (.lst (xs.map .int)) = true := by
  rw [okN_lst]
  refine ⟨fun v hv => ?_, by rw [List.length_map]; exact h⟩
  obtain ⟨n, -, rfl⟩ := List.mem_map.mp hv
  cases d <;> rfl
theorem f_eqL0 {h : Hv} {xs : List Int} (hl : xs.length ≤ 1000) : EvF h fEq (.lst (xs.map .int)) (.lst []) (.bl (decide (xs = []))) := fun Q q => by
  refine fEq_dat (okN_lints hl 63) (okN_lints (xs := []) (by simp) 63) ?_
  have : eqD (.lst (xs.map .int)) (.lst []) = decide (xs = []) := by
    unfold eqD
    rw [dat, dat, dats_ints]
    exact eqvAll_ints xs []
  rw [this]; exact q
theorem c_tuple {h : Hv} {vs : List Val} : EvC h fTuple [.lst vs] (.tup vs) := fun Q q => by
  show match seqOf (.lst vs) h with | some ws => Q (.tup ws) h | none => False
  exact q
theorem map_cons_nat' {v : Val} {vs : List Val} {L : List Nat} (e : v :: vs = L.map encS) : ∃ p L', L = p :: L' ∧ v = encS p ∧ vs = L'.map encS := map_cons_nat e
theorem jnd_step {xs : List Nat} {n : Nat} (hn : n < 256) (n0 : n ≠ 0) : Jnd (fun p => p ∈ xs) n ↔ ∃ p ∈ xs, p ≠ 0 ∧ (sub p n = true ∧ (setI p).head? = (setI n).head?) ∧ (n - p = 0 ∨ Jnd (fun p => p ∈ xs) (n - p)) := by
  rw [jnd_iff n0 (low_self hn n0)]
  constructor
  · rintro ⟨p, p0, s, l, r, hp⟩
    exact ⟨p, hp, p0, ⟨s, (head_low hn p0 s).1.mpr l⟩, r⟩
  · rintro ⟨p, hp, p0, ⟨s, l⟩, r⟩
    exact ⟨p, p0, s, (head_low hn p0 s).1.mp l, r, hp⟩
theorem bo__law_parted (N : List Str) (hN : N.length = 4) (d : Nat) : ∀ as h Q E, as.length = 2 → SR__law_parted (d + 1) as h Q E → den__law_parted (SR__law_parted d) (startA N as) h (endsR Q) (RX E) := by
  rintro as h Q E - ⟨n, xs, rfl, hn, hx, xl, hd, q⟩
  have q := RT.same q
  unfold den__law_parted
  simp only [startA, hN]
  have sl := setI_len n
  refine ss_if (evt_test (ev_bin (ev_var (v := encS n)) (ev_tup eva_nil (by simp)) (f_eqT0 (by omega)))) (fun k => ?_) (fun k => ?_)
  · rw [decide_eq_true_eq] at k
    have : n = 0 := by rw [← bits_set hn, k]; rfl
    refine s_ret ev_c (Qv q ?_)
    congr 1
    exact dec_iff.mpr (.inl this)
  · rw [decide_eq_false_iff_not] at k
    have n0 : n ≠ 0 := fun e => k (by rw [e]; decide)
    simp only [sNext]
    obtain ⟨x0, r0, e0⟩ := setI_ne hn n0
    refine ss_for (evi_it (ev_var (v := .lst (xs.map encS))) rfl) fun dd hdd => ?_
    refine for_ind (fun vs ρ h' => ∃ (done L : List Nat) (x2 x3 : Option Val), xs = done ++ L ∧ vs = L.map encS ∧ ρ = [some (encS n), some (.lst (xs.map encS)), x2, x3] ∧ h' = h ∧ ∀ p ∈ done, ¬ ((sub p n = true ∧ (setI p).head? = (setI n).head?) ∧ (n - p = 0 ∨ Jnd (fun p => p ∈ xs) (n - p)))) ?_ ?_ _ _ _ ⟨[], xs, none, none, rfl, rfl, rfl, rfl, fun _ h => absurd h (by simp)⟩
    · rintro ρ h' ⟨done, L, x2, x3, e, el, rfl, rfl, hno⟩
      have := map_nil_nat el
      subst this
      rw [List.append_nil] at e
      refine ⟨trivial, ?_⟩
      dsimp only
      refine s_ret ev_c (Qv q ?_)
      congr 1
      rw [← Bool.not_eq_true, dec_iff]
      rintro (h | h)
      · exact n0 h
      · obtain ⟨p, hp, p0, c⟩ := (jnd_step hn n0).mp h
        exact hno p (e ▸ hp) c
    · rintro v vs ρ h' ⟨done, L, x2, x3, e, el, rfl, rfl, hno⟩
      obtain ⟨p, L', rfl, rfl, rfl⟩ := map_cons_nat el
      have hpx : p ∈ xs := by rw [e]; simp
      obtain ⟨p0, hp⟩ := hx p hpx
      obtain ⟨y0, s0, ep⟩ := setI_ne hp p0
      have pl := setI_len p
      refine ⟨trivial, _, rfl, fun Nx hNx => ?_⟩
      subst hdd
      have no : ¬ ((sub p n = true ∧ (setI p).head? = (setI n).head?) ∧ (n - p = 0 ∨ Jnd (fun p => p ∈ xs) (n - p))) → ∀ x3, Nx [some (encS n), some (.lst (xs.map encS)), some (encS p), x3] h' := fun hn' x3 =>
        hNx _ _ ⟨done ++ [p], L', _, x3, by rw [e]; simp, rfl, rfl, rfl, fun r hr => by
          rcases List.mem_append.mp hr with hr | hr
          · exact hno r hr
          · rw [List.mem_singleton.mp hr]; exact hn'⟩
      refine s_if (evt_and (evt_test (ev_bin (ev_bin (ev_var (v := encS p)) ev_c (f_ix0 (u := .int y0) (vs := (setI p).map .int) rfl (by rw [ep]; rfl))) (ev_bin (ev_var (v := encS n)) ev_c (f_ix0 (u := .int x0) (vs := (setI n).map .int) rfl (by rw [e0]; rfl))) f_eqI)) fun _ => evt_test (ev_bin (ev_lcF (ok := fun _ => True) (setI p) .int (fun i => !decide (i ∈ setI n)) .int (evi_it (ev_var (v := encS p)) rfl) (fun _ _ => trivial) (by rw [sizeLine_eq]; omega) (fun i hi => ⟨_, rfl, fun h2 _ => evt_test (ev_bin ev_var (ev_var (v := encS n)) (f_notInI rfl)), fun _ h2 _ => ev_var⟩)) (ev_lst eva_nil (by simp)) (f_eqL0 (by have := List.length_filter_le (fun i => !decide (i ∈ setI n)) (setI p); omega)))) (fun kk => ?_) (fun kk => ?_)
      · rw [Bool.and_eq_true, decide_eq_true_eq, decide_eq_true_eq, List.filter_eq_nil_iff] at kk
        have sp : sub p n = true := (sub_mem hn hp).mpr fun i hi => by
          have := kk.2 i hi
          simpa using this
        have hh : (setI p).head? = (setI n).head? := by rw [ep, e0, kk.1]; rfl
        have er : Val.tup (((setI n).filter fun i => !decide (i ∈ setI p)).map .int) = encS (n - p) := by
          unfold encS
          rw [(head_low hn p0 sp).2]
          congr 3
          funext i
          simp [List.contains_eq_mem]
        have rl : (setI (n - p)).length < (setI n).length := by
          rw [(head_low hn p0 sp).2]
          have h1 : y0 ∈ setI n := by rw [e0, ← kk.1]; simp
          have h2 : y0 ∈ setI p := by rw [ep]; simp
          refine List.length_filter_lt_length_iff_exists.mpr ⟨y0, h1, by simp [h2]⟩
        refine s_if (evt_truthB (k := dec (n - p = 0 ∨ Jnd (fun p => p ∈ xs) (n - p))) (ev_call (eva2 (ev_cb (eva1 (ev_lcF (ok := fun _ => True) (setI n) .int (fun i => !decide (i ∈ setI p)) .int (evi_it (ev_var (v := encS n)) rfl) (fun _ _ => trivial) (by rw [sizeLine_eq]; omega) (fun i hi => ⟨_, rfl, fun h2 _ => evt_test (ev_bin ev_var (ev_var (v := encS p)) (f_notInI rfl)), fun _ h2 _ => ev_var⟩))) (c_tuple)) (ev_var (v := .lst (xs.map encS)))) rfl fun Q q => ⟨n - p, xs, by rw [er], lt_of_sub hn (rest_sub hn sp), hx, xl, by omega, q⟩)) (fun k2 => ?_) (fun k2 => ?_)
        · refine s_ret ev_c (Qv q ?_)
          congr 1
          refine dec_iff.mpr (.inr ((jnd_step hn n0).mpr ⟨p, hpx, p0, ⟨sp, hh⟩, dec_iff.mp k2⟩))
        · refine no (fun c => ?_) _
          rw [dec_iff.mpr c.2] at k2
          cases k2
      · refine no (fun c => ?_) _
        have : (decide (y0 = x0) && decide ((setI p).filter (fun i => !decide (i ∈ setI n)) = [])) = true := by
          rw [Bool.and_eq_true, decide_eq_true_eq, decide_eq_true_eq, List.filter_eq_nil_iff]
          refine ⟨?_, fun i hi => ?_⟩
          · have := c.1.2
            rw [ep, e0] at this
            exact Option.some.inj this
          · have := (sub_mem hn hp).mp c.1.1 i hi
            simp [this]
        rw [this] at kk
        cases kk
end DL
namespace DL
open PySem PySem.Spec PyProof.Rows L2
theorem dget_dv {h : Hv} {d : Addr} {kvs : List (Key × Val)} {k : Val} {kk : Key} (v : DV h d kvs) (e : keyOf k = some kk) : dgetA (.ref d) k h = some (valA kvs kk) := by
  rcases v with v | ⟨o, xs, v⟩
  · simp only [dgetA, v, e]
  · simp only [dgetA, v, e]
section
variable {h h' : Hv} {d : Addr} {la : Str → Addr} {b : Book} {fs : Str → List Nat} {ρ : Sl} {E : PX} {dd dz : ED}
theorem DV.sub {kvs : List (Key × Val)} (v : DV h d kvs) (sb : Sub h h') : DV h' d kvs := v.imp (sb d _) fun ⟨o, xs, e⟩ => ⟨o, xs, sb d _ e⟩
theorem fd_get (f : FndAt h d la b fs) (sb : Sub h h') {z : Str} (hz : z ∈ b.names) (hd : EvE ρ h' E dd (.ref d)) (hk : EvE ρ h' E dz (.str z)) : EvE ρ h' E (dDGet dd dz) (.ref (la z)) :=
  ev_dget hd hk (by rw [dget_dv (f.d.sub sb) (kk := .inr z) rfl]; unfold refD; rw [val_names hz])
end
theorem ev_wt {ρ : Sl} {h : Hv} {E : PX} {de : ED} {i j k : Nat} {hp : Heap'} {n : Nat} {dh : ED} (hn : inH hp n) (hde : EvE ρ h E de (encS n)) (hr : ∀ x : Int, ((wipeA ρ [i]).set i (some (.int x)))[i]? = some (some (.int x))) (hh : ∀ (x : Int) (h' : Hv), EvE ((wipeA ρ [i]).set i (some (.int x))) h' EF dh (encH hp)) :
    EvE ρ h E (dCB fSum (aCons (dLc (dIt de) (.nm i) tTrue (dBin fIx (dBin fIx dh (dVar i)) (dC (.int 0))) [i]) aNil)) (.int (wt hp n)) := by
  have rg := inH_rg hn
  refine ev_sum (ok := fun _ => True) (setI n) .int (rawW hp) (evi_it hde rfl) (fun _ _ => trivial) (by have := setI_len n; rw [sizeLine_eq]; omega) (fun x hx => ⟨_, rfl, fun h' _ => ?_⟩)
  exact ev_bin (ev_bin (hh x h') (ev_var (hr x)) (f_heap (rg x hx).1 (rg x hx).2)) ev_c (f_ix0 rfl rfl)
theorem pickL_at {n s : Nat} (hs : s < 2 ^ (setI n).length) (hl : (setI n).length ≤ 8) : ∀ i ∈ setI s, 0 ≤ i ∧ ((setI n).map Val.int)[i.toNat]? = some (.int ((setI n).getD i.toNat 0)) := by
  intro i hi
  unfold setI at hi
  obtain ⟨j, hj, rfl⟩ := List.mem_map.mp hi
  have hb := (List.mem_filter.mp hj).2
  have hjl : j < (setI n).length := by
    apply Nat.lt_of_not_le
    intro hle
    rw [Nat.testBit_lt_two_pow (Nat.lt_of_lt_of_le hs (Nat.pow_le_pow_right (by decide) hle))] at hb
    cases hb
  refine ⟨by omega, ?_⟩
  rw [Int.toNat_natCast, List.getElem?_map, List.getElem?_eq_getElem hjl, List.getD_eq_getElem?_getD, List.getElem?_eq_getElem hjl]
  rfl
theorem bo__law_is_made (G : Gx) (N : List Str) (hN : N.length = 12) : ∀ as h Q E, as.length = 5 → S__law_is_made G as h Q E → den__law_is_made G (startA N as) h (endsR Q) (RX E) := by
  rintro as h Q E - ⟨b, hp, d, la, fs, m, z, rfl, wf, h6, f, m0, hm, hz, tb, hns, q⟩
  have q := RT.same q
  unfold den__law_is_made
  simp only [startA, hN]
  have hm64 : m < 64 := Nat.lt_of_lt_of_le hm (Nat.pow_le_pow_right (by decide) h6 : 2 ^ hp.length ≤ 2 ^ 6)
  have hlt : m < 256 := by omega
  have ml := setI_len m
  refine ss_set (v := .lst (([] : List Nat).map encS)) (ev_lst eva_nil (by simp)) ?_
  have tl : (takesL b z).length ≤ 17 := Nat.le_trans (takes_len b z) (by have := wf.pl; omega)
  refine ss_for (evi_it (ev_call (u := .lst ((takesL b z).map .str)) (eva2 ev_var ev_var) rfl fun Q q => ⟨b, z, rfl, wf.pl, q⟩) rfl) fun dd hdd => ?_
  refine for_ind (fun vs ρ h' => ∃ (done L : List Str) (acc : List Nat) (x6 : Option Val), takesL b z = done ++ L ∧ vs = L.map .str ∧ (∀ p, p ∈ acc ↔ ∃ t ∈ done, p ∈ fs t) ∧ acc.length ≤ 256 * done.length ∧ ρ = [some (encB b), some (encH hp), some (.ref d), some (encS m), some (.str z), some (.lst (acc.map encS)), x6, none, none, none, none, none] ∧ h' = h) ?_ ?_ _ _ _ ⟨[], takesL b z, [], none, rfl, rfl, fun p => by simp, by simp, rfl, rfl⟩
  · rintro ρ h' ⟨done, acc, L, x6, e, el, hacc, al, rfl, rfl⟩
    have := map_nil_str el
    subst this
    rw [List.append_nil] at e
    subst e
    refine ⟨trivial, ?_⟩
    dsimp only
    subst hdd
    have accn : ∀ x ∈ L, x ≠ 0 ∧ x < 256 := fun x hx => by
      obtain ⟨t, ht, hf⟩ := (hacc x).mp hx
      have htn := takes_names wf hz ht
      exact ⟨f.z t htn x hf, (f.s t htn).lt x hf⟩
    refine ss_set (v := .int (wt hp m)) (ev_wt (j := 0) (k := 0) hm (ev_var (v := encS m)) (fun x => rfl) (fun x h' => ev_var)) ?_
    refine ss_for (evi_it (ev_call (u := .lst ((setsL (setI m).length).map encS)) (eva1 (ev_cb (eva1 (ev_var (v := encS m))) (c_len (n := (setI m).length) (by unfold encS; simp)))) rfl fun Q q => ⟨_, rfl, ml, tb, hns, q⟩) rfl) fun dd hdd => ?_
    refine for_ind (fun vs ρ h2 => ∃ (dn R : List Nat) (x8 x9 x10 : Option Val), setsL (setI m).length = dn ++ R ∧ vs = R.map encS ∧ ρ = [some (encB b), some (encH hp), some (.ref d), some (encS m), some (.str z), some (.lst (L.map encS)), x6, some (.int (wt hp m)), x8, x9, x10, none] ∧ h2 = h' ∧ ∀ s ∈ dn, ¬ (enough b z (wt hp (pick m s)) (wt hp m) = true ∧ Jnd (fun p => p ∈ L) (pick m s))) ?_ ?_ _ _ _ ⟨[], _, none, none, none, rfl, rfl, rfl, rfl, fun _ h => absurd h (by simp)⟩
    · rintro ρ h2 ⟨dn, R, x8, x9, x10, e, el, rfl, rfl, hno⟩
      have := map_nil_nat el
      subst this
      rw [List.append_nil] at e
      refine ⟨trivial, ?_⟩
      dsimp only
      refine s_ret ev_c (Qv q ?_)
      congr 1
      rw [← Bool.not_eq_true, dec_iff]
      rintro ⟨p, sp, j, en⟩
      obtain ⟨s, s0, hs, rfl⟩ := pick_sur hm64 j.pos sp
      refine hno s ?_ ⟨en, j.mono fun q ⟨t, ht, hq⟩ => (hacc q).mpr ⟨t, ht, hq⟩⟩
      rw [← e]
      exact mem_setsL.mpr ⟨s0, hs⟩
    · rintro v vs ρ h2 ⟨dn, R, x8, x9, x10, e, el, rfl, rfl, hno⟩
      obtain ⟨s, R', rfl, rfl, rfl⟩ := map_cons_nat el
      have hs : s ∈ setsL (setI m).length := by rw [e]; simp
      obtain ⟨s0, hs⟩ := mem_setsL.mp hs
      obtain ⟨pe, p0, sp⟩ := pick_ok hm64 s0 hs
      have plt := lt_of_sub hlt sp
      have sll := setI_len s
      refine ⟨trivial, _, rfl, fun Nx hNx => ?_⟩
      subst hdd
      refine ss_set (v := encS (pick m s)) ((ev_cb (eva1 (ev_lc (ok := fun _ => True) (setI s) .int (fun i => .int ((setI m).getD i.toNat 0)) (evi_it (ev_var (v := encS s)) rfl) (fun _ _ => trivial) (by rw [sizeLine_eq]; omega) (fun i hi => ⟨_, rfl, fun h3 _ => ?_⟩))) c_tuple).cast ?_) ?_
      · obtain ⟨i0, ie⟩ := pickL_at hs ml i hi
        have : i = ((i.toNat : Nat) : Int) := by omega
        refine ev_bin (ev_var (v := encS m)) (ev_var (v := .int i)) ?_
        rw [this]
        rw [this] at ie
        exact f_ixL rfl ie
      · unfold encS
        rw [pe]
        unfold pickL
        rw [List.map_map]
        rfl
      refine ss_set (v := .int (wt hp (pick m s))) (ev_wt (j := 0) (k := 0) (inH_sub hm sp) (ev_var (v := encS (pick m s))) (fun x => rfl) (fun x h' => ev_var)) ?_
      refine s_if (evt_and (evt_truthB (ev_call (eva_cons ev_var (eva_cons ev_var (eva2 ev_var ev_var))) rfl fun Q q => ⟨b, z, _, _, rfl, wf, hz, q⟩)) fun _ => evt_truthB (k := dec (pick m s = 0 ∨ Jnd (fun p => p ∈ L) (pick m s))) (ev_call (eva2 (ev_var (v := encS (pick m s))) (ev_var (v := .lst (L.map encS)))) rfl fun Q q => ⟨pick m s, L, rfl, plt, accn, by omega, by have := setI_len (pick m s); omega, q⟩)) (fun k => ?_) (fun k => ?_)
      · rw [Bool.and_eq_true, dec_iff] at k
        refine s_ret ev_c (Qv q ?_)
        congr 1
        exact dec_iff.mpr ⟨pick m s, sp, (k.2.resolve_left p0).mono fun q hq => (hacc q).mp hq, k.1⟩
      · refine hNx _ _ ⟨dn ++ [s], R', _, _, _, by rw [e]; simp, rfl, rfl, rfl, fun r hr => ?_⟩
        rcases List.mem_append.mp hr with hr | hr
        · exact hno r hr
        · rw [List.mem_singleton.mp hr]
          rintro ⟨c1, c2⟩
          rw [c1, Bool.true_and, dec_iff.mpr (.inr c2)] at k
          cases k
  · rintro v vs ρ h' ⟨done, L, acc, x6, e, el, hacc, al, rfl, rfl⟩
    obtain ⟨y, L', rfl, rfl, rfl⟩ := map_cons_str el
    have hy : y ∈ takesL b z := by rw [e]; simp
    have hyn := takes_names wf hz hy
    have dl : done.length ≤ 17 := by rw [e] at tl; simp at tl; omega
    have yl := (f.s y hyn).len
    refine ⟨trivial, _, rfl, fun Nx hNx => ?_⟩
    subst hdd
    refine s_set (v := .lst ((acc ++ fs y).map encS)) ((ev_bin (ev_var (v := .lst (acc.map encS))) (fd_get f (Sub.refl _) hyn (ev_var (v := .ref d)) (ev_var (v := .str y))) (f_addL (ys := (fs y).map encS) rfl (by simp only [listOf, f.l y hyn]) (by simp; rw [sizeLine_eq]; omega))).cast (by rw [List.map_append])) ?_
    refine hNx _ _ ⟨done ++ [y], L', acc ++ fs y, _, by rw [e]; simp, rfl, fun p => ?_, by simp; omega, rfl, rfl⟩
    rw [List.mem_append, hacc]
    constructor
    · rintro (⟨t, ht, hp⟩ | hp)
      · exact ⟨t, List.mem_append_left _ ht, hp⟩
      · exact ⟨y, by simp, hp⟩
    · rintro ⟨t, ht, hp⟩
      rcases List.mem_append.mp ht with ht | ht
      · exact .inl ⟨t, ht, hp⟩
      · rw [List.mem_singleton.mp ht] at hp; exact .inr hp
end DL
namespace DL
open PySem PySem.Spec PyProof.Rows L2
/-! sets in lists of sets -/
def dS (n : Nat) : PyData := .tuple ((setI n).map .int)
theorem dats_sets : ∀ xs : List Nat, dats (xs.map encS) = some (xs.map dS)
  | [] => rfl
  | n :: xs => by
    rw [List.map_cons, dats, dat_encS, dats_sets xs]
    rfl
theorem okN_encS (n d : Nat) : okN (d + 1) (encS n) = true := okN_ints (by have := setI_len n; omega) d
theorem okN_sets {xs : List Nat} (h : xs.length ≤ 1000) (d : Nat) : okN (d + 2) (.lst (xs.map encS)) = true := by
  rw [okN_lst]
  refine ⟨fun v hv => ?_, by rw [List.length_map]; exact h⟩
  obtain ⟨n, -, rfl⟩ := List.mem_map.mp hv
  exact okN_encS n d
theorem any_sets {m : Nat} {xs : List Nat} (hm : m < 256) (hx : ∀ n ∈ xs, n < 256) : ((xs.map dS).any fun z => PyData.eqv z (dS m)) = decide (m ∈ xs) := by
  rw [List.any_map, Bool.eq_iff_iff, List.any_eq_true, decide_eq_true_eq]
  have key : ∀ n, PyData.eqv (dS n) (dS m) = decide (setI n = setI m) := fun n => by
    unfold dS; rw [PyData.eqv]; exact eqvAll_ints _ _
  constructor
  · rintro ⟨n, hn, e⟩
    rw [Function.comp_apply, key, decide_eq_true_eq] at e
    rw [← setI_inj (hx n hn) hm e]; exact hn
  · intro h
    exact ⟨m, h, by rw [Function.comp_apply, key, decide_eq_true_eq]⟩
theorem sets_ask {h : Hv} {m : Nat} {w : Val} {xs : List Nat} (hw : w = .lst (xs.map encS) ∨ ∃ a, w = .ref a ∧ h a = some (.lst (xs.map encS))) (hl : xs.length ≤ 1000) :
    datH (encS m) h = some (dS m) ∧ datH w h = some (.list (xs.map dS)) ∧ SeqAt.shaped (dS m) = true ∧ SeqAt.shaped (.list (xs.map dS)) = true := by
  obtain ⟨d, e1, c1, d1⟩ := dat_of (okN_encS m 63)
  obtain ⟨e, e2, c2, d2⟩ := dat_of (okN_sets hl 62)
  have hd : d = dS m := by rw [dat_encS] at e1; exact (Option.some.inj e1).symm
  have he : e = .list (xs.map dS) := by rw [dat, dats_sets] at e2; exact (Option.some.inj e2).symm
  subst hd he
  refine ⟨(datH_of (okN_encS m 63)).trans e1, ?_, ?_, ?_⟩
  · rcases hw with rfl | ⟨a, rfl, ha⟩
    · exact (datH_of (okN_sets hl 62)).trans e2
    · simp only [datH, ha, dats_sets]; rfl
  · unfold SeqAt.shaped; rw [c1, decide_eq_true d1]; rfl
  · unfold SeqAt.shaped; rw [c2, decide_eq_true d2]; rfl
theorem f_notInS {h : Hv} {m : Nat} {w : Val} {xs : List Nat} (hw : w = .lst (xs.map encS) ∨ ∃ a, w = .ref a ∧ h a = some (.lst (xs.map encS))) (hl : xs.length ≤ 1000) (hm : m < 256) (hx : ∀ n ∈ xs, n < 256) : EvF h fNotInD (encS m) w (.bl (!decide (m ∈ xs))) := fun Q q => by
  obtain ⟨a, b, c, d⟩ := sets_ask (m := m) hw hl
  exact ⟨_, _, a, b, c, d, by rw [any_sets hm hx]; exact q⟩
theorem f_inS {h : Hv} {m : Nat} {w : Val} {xs : List Nat} (hw : w = .lst (xs.map encS) ∨ ∃ a, w = .ref a ∧ h a = some (.lst (xs.map encS))) (hl : xs.length ≤ 1000) (hm : m < 256) (hx : ∀ n ∈ xs, n < 256) : EvF h fInD (encS m) w (.bl (decide (m ∈ xs))) := fun Q q => by
  obtain ⟨a, b, c, d⟩ := sets_ask (m := m) hw hl
  exact ⟨_, _, a, b, c, d, by rw [any_sets hm hx]; exact q⟩
/-! what is found so far -/
structure FB (G : Gx) (h0 h : Hv) (d : Addr) (la : Str → Addr) (b : Book) (fs : Str → List Nat) : Prop where
  f : FndAt h d la b fs
  g : Grw G h0 h
  nd : h0 d = none
  nl : ∀ z ∈ b.names, h0 (la z) = none ∧ la z ≠ d
section
variable {G : Gx} {h0 h : Hv} {d : Addr} {la : Str → Addr} {b : Book} {fs : Str → List Nat} {z : Str} {n : Nat}
theorem FB.app (t : FB G h0 h d la b fs) (hz : z ∈ b.names) (hn : n < 256) (n0 : n ≠ 0) (nf : n ∉ fs z) : FB G h0 (put h (la z) (.lst ((fs z).map encS ++ [encS n]))) d la b (upS fs z (fs z ++ [n])) := by
  refine ⟨⟨?_, fun y hy => ?_, t.f.nl, fun y hy => ?_, fun y hy => ?_⟩, t.g.write (t.nl z hz).1 (t.f.l z hz) (fun _ z => nomatch z) (fun z => nomatch z) (fun _ z => nomatch z), t.nd, t.nl⟩
  · rcases t.f.d with v | ⟨o, xs, v⟩
    · exact .inl (by rw [put_ne (t.nl z hz).2.symm]; exact v)
    · exact .inr ⟨o, xs, by rw [put_ne (t.nl z hz).2.symm]; exact v⟩
  · by_cases e : y = z
    · subst e; rw [put_same, upS_same, List.map_append]; rfl
    · rw [put_ne (t.f.nl y hy z hz e), upS_ne e]; exact t.f.l y hy
  · by_cases e : y = z
    · subst e; rw [upS_same]
      refine ⟨List.nodup_append.mpr ⟨(t.f.s y hy).nd, by simp, fun a ha c hc => ?_⟩, fun k hk => ?_⟩
      · rw [List.mem_singleton.mp hc]; exact fun e => nf (e ▸ ha)
      · rcases List.mem_append.mp hk with hk | hk
        · exact (t.f.s y hy).lt k hk
        · rw [List.mem_singleton.mp hk]; exact hn
    · rw [upS_ne e]; exact t.f.s y hy
  · by_cases e : y = z
    · subst e; rw [upS_same]
      intro k hk
      rcases List.mem_append.mp hk with hk | hk
      · exact t.f.z y hy k hk
      · rw [List.mem_singleton.mp hk]; exact n0
    · rw [upS_ne e]; exact t.f.z y hy
theorem FB.frz (t : FB G h0 h d la b fs) {kvs : List (Key × Val)} (e : h d = some (.dK kvs)) (o : Obj) (xs : List (Key × V)) : FB G h0 (put h d (.dF o xs (refD b la))) d la b fs := by
  refine ⟨⟨.inr ⟨o, xs, put_same⟩, fun y hy => ?_, t.f.nl, t.f.s, t.f.z⟩, t.g.write t.nd e (fun _ z => nomatch z) (fun z => nomatch z) (fun _ z => nomatch z), t.nd, t.nl⟩
  rw [put_ne (t.nl y hy).2]; exact t.f.l y hy
/-- found[z].append(things) -/
theorem fd_app {ρ : Sl} {E : PX} {dd dz dx : ED} {Q : PV} (t : FB G h0 h d la b fs) (hz : z ∈ b.names) (hd : EvE ρ h E dd (.ref d)) (hk : EvE ρ h E dz (.str z)) (hx : EvE ρ h E dx (encS n)) (q : Q .non (put h (la z) (.lst ((fs z).map encS ++ [encS n])))) :
    dBM "list" fAppend (dDGet dd dz) (aCons dx aNil) ρ h Q E := by
  refine fd_get t.f (Sub.refl h) hz hd hk _ ⟨by simp only [tyA, t.f.l z hz], eva1 hx _ ?_⟩
  simp only [fAppend, t.f.l z hz]
  refine ⟨?_, q⟩
  rw [List.length_map, sizeLine_eq]
  have := (t.f.s z hz).len
  omega
/-- for z in found -/
theorem evi_found {ρ : Sl} {E : PX} {dd : ED} {Q : Itr → Hv → Prop} (t : FB G h0 h d la b fs) (hd : EvE ρ h E dd (.ref d))
    (q : ∀ o xs h', FB G h0 h' d la b fs → h' d = some (.dF o xs (refD b la)) → Q ⟨b.names.map .str, fun h2 => h2 d = some (.dF o xs (refD b la))⟩ h') : dKeys dd ρ h Q E := by
  refine hd _ ?_
  have ek : (refD b la).map (fun p => keyV p.1) = b.names.map .str := by unfold refD; rw [List.map_map]; rfl
  show match h d with | some (.dK kvs) => _ | some (.dF o xs kvs) => _ | _ => False
  rcases t.f.d with v | ⟨o, xs, v⟩
  · rw [v]
    intro o xs
    have := q o xs _ (t.frz v o xs) put_same
    rw [← ek] at this
    exact this
  · rw [v]
    have := q o xs h t v
    rw [← ek] at this
    exact this
end
/-! the raw things -/
def fsR (hp : Heap') (i : Nat) (z : Str) : List Nat := ((List.range i).filter fun (j : Nat) => decide (rawL hp (j : Int) = some z)).map fun j => 2 ^ j
theorem fsR_succ (hp : Heap') (i : Nat) (z : Str) : fsR hp (i + 1) z = fsR hp i z ++ (if rawL hp (i : Int) = some z then [2 ^ i] else []) := by
  unfold fsR
  rw [List.range_succ, List.filter_append, List.map_append]
  congr 1
  by_cases e : rawL hp (i : Int) = some z
  · rw [if_pos e]; simp [e]
  · rw [if_neg e]; simp [e]
theorem fsR_up {hp : Heap'} {i : Nat} {z : Str} (e : rawL hp (i : Int) = some z) : fsR hp (i + 1) = upS (fsR hp i) z (fsR hp i z ++ [2 ^ i]) := by
  funext y
  rw [fsR_succ]
  by_cases ey : y = z
  · subst ey; rw [upS_same, if_pos e]
  · rw [upS_ne ey, if_neg (fun h => ey (by rw [e] at h; exact (Option.some.inj h).symm)), List.append_nil]
theorem fsR_same {hp : Heap'} {i : Nat} (e : rawL hp (i : Int) = none) : fsR hp (i + 1) = fsR hp i := by
  funext y
  rw [fsR_succ, if_neg (by rw [e]; exact fun z => nomatch z), List.append_nil]
theorem mem_fsR {hp : Heap'} {i : Nat} {z : Str} {n : Nat} : n ∈ fsR hp i z ↔ ∃ j, j < i ∧ rawL hp (j : Int) = some z ∧ n = 2 ^ j := by
  unfold fsR
  rw [List.mem_map]
  constructor
  · rintro ⟨j, hj, rfl⟩
    rw [List.mem_filter, List.mem_range, decide_eq_true_eq] at hj
    exact ⟨j, hj.1, hj.2, rfl⟩
  · rintro ⟨j, h1, h2, rfl⟩
    exact ⟨j, by rw [List.mem_filter, List.mem_range, decide_eq_true_eq]; exact ⟨h1, h2⟩, rfl⟩
theorem raw_iff {hp : Heap'} {j : Nat} {z : Str} : rawL hp (j : Int) = some z ↔ ∃ w, hp[j]? = some (w, some z) := by
  constructor
  · intro h
    cases e : hp[j]? with
    | none => unfold rawL at h; simp [e] at h
    | some p =>
      have := rawL_at (z := p.2) (w := p.1) (k := j) e
      rw [h] at this
      exact ⟨p.1, by rw [this]⟩
  · rintro ⟨w, h⟩; exact rawL_at h
theorem fsR_inv {b : Book} {hp : Heap'} : LInv b hp (fun _ => False) (fsR hp hp.length) := by
  refine ⟨fun z _ n => ?_⟩
  rw [mem_fsR]
  constructor
  · rintro ⟨j, _, h, rfl⟩
    obtain ⟨w, h⟩ := raw_iff.mp h
    exact .inr ⟨j, w, h, rfl⟩
  · rintro (h | ⟨j, w, h, rfl⟩)
    · exact h.1.elim
    · exact ⟨j, (List.getElem?_eq_some_iff.mp h).1, raw_iff.mpr ⟨w, h⟩, rfl⟩
theorem pow_ne : ∀ i j : Nat, i ≠ j → 2 ^ i ≠ 2 ^ j := fun i j h e => h ((Nat.pow_right_inj (by decide)).mp e)
theorem fsR_new {hp : Heap'} {i : Nat} {z : Str} : 2 ^ i ∉ fsR hp i z := fun h => by
  obtain ⟨j, h1, _, e⟩ := mem_fsR.mp h
  exact pow_ne i j (by omega) e
/-- what is due at m, when all lesser sets are done -/
theorem fill_sets {b : Book} {hp : Heap'} {done R : List Nat} {m : Nat} (wf : WFB b) (ho : HpOk b hp) (e : setsL hp.length = done ++ m :: R) : FillOk b hp (fun n => n ∈ done) m := by
  have hm : m ∈ setsL hp.length := by rw [e]; simp
  obtain ⟨m0, ml⟩ := mem_setsL.mp hm
  have nd := setsL_nodup hp.length
  have up := setsL_up hp.length
  rw [e] at nd up
  refine ⟨wf, ho, m0, ml, fun hd => (List.nodup_append.mp nd).2.2 m hd m List.mem_cons_self rfl, fun p p0 pm s => ?_⟩
  have hp' : p ∈ setsL hp.length := mem_setsL.mpr ⟨p0, Nat.lt_of_le_of_lt (sub_le s) ml⟩
  rw [e] at hp'
  rcases List.mem_append.mp hp' with h | h
  · exact h
  · rcases List.mem_cons.mp h with h | h
    · exact absurd h pm
    · have := (List.pairwise_cons.mp (List.pairwise_append.mp up).2.1).1 p h
      have l := pop_lt (inH_lt ho.n8 ml) p0 s pm
      omega
end DL
namespace DL
open PySem PySem.Spec PyProof.Rows L2
theorem merge_new : ∀ (more kvs : List (Key × Val)), ((kvs ++ more).map (·.1)).Nodup → mergeA kvs more = kvs ++ more
  | [], kvs, _ => by simp
  | p :: more, kvs, nd => by
    have e : putA kvs p.1 p.2 = kvs ++ [p] := putA_new (fun q hq h => by
      rw [List.map_append, List.nodup_append] at nd
      exact nd.2.2 q.1 (List.mem_map_of_mem hq) p.1 (List.mem_map_of_mem List.mem_cons_self) h)
    show mergeA (putA kvs p.1 p.2) more = _
    rw [e, merge_new more (kvs ++ [p]) (by rw [List.append_assoc]; exact nd), List.append_assoc]
    rfl
theorem tup2 {d e : ED} {ρ : Sl} {h : Hv} {Q : PV} {E : PX} (q : d ρ h (fun v h1 => e ρ h1 (fun w h2 => [v, w].length ≤ sizeLine ∧ Q (.tup [v, w]) h2) E) E) : dTup (aCons d (aCons e aNil)) ρ h Q E := q
theorem cb1 {f : FA} {d : ED} {ρ : Sl} {h : Hv} {Q : PV} {E : PX} (q : d ρ h (fun v h1 => f [v] h1 Q) E) : dCB f (aCons d aNil) ρ h Q E := q
/-- dict([(land[0], []) for land in book[0]]) -/
theorem new_lists {G : Gx} {h0 h : Hv} {ρ : Sl} {E : PX} {di : ID} {i : Nat} {Q : PV} {b : Book} {vs : List Nat} (wf : WFB b) (g : Grw G h0 h) (hdi : EvI ρ h E di ⟨b.lands.map encL, fun _ => True⟩) (hvr : ∀ z, ((wipeA ρ vs).set i (some (encL z)))[i]? = some (some (encL z)))
    (q : ∀ (d : Addr) (la : Str → Addr) (h' : Hv), FB G h0 h' d la b (fun _ => []) → Q (.ref d) h') :
    dCB fDictP (aCons (dLc di (.nm i) tTrue (dTup (aCons (dBin fIx (dVar i) (dC (.int 0))) (aCons (dLstH aNil) aNil))) vs) aNil) ρ h Q E := by
  have nd := names_nodup wf
  unfold Book.names at nd
  have old : ∀ {c}, h c = none → h0 c = none := fun {c} hc => by
    cases e : h0 c with
    | none => rfl
    | some o => rw [g.sub c o e] at hc; cases hc
  refine cb1 ?_
  refine lc_ind (fun D r acc h' => ∃ (done L : List Land) (f : Str → Addr), b.lands = done ++ L ∧ r = L.map encL ∧ acc = done.map (fun l => Val.tup [.str l.nm, .ref (f l.nm)]) ∧ h D = none ∧ h' D = some .busy ∧ (∀ l ∈ done, h (f l.nm) = none ∧ f l.nm ≠ D ∧ h' (f l.nm) = some (.lst [])) ∧ (∀ l ∈ done, ∀ k ∈ done, l.nm ≠ k.nm → f l.nm ≠ f k.nm) ∧ Sub h h' ∧ (∀ c, c ≠ D → h' c = some .busy → h0 c = some .busy) ∧ Tbs G.Ts h') hdi ?_ ?_ ?_
  · intro D nD
    refine ⟨[], b.lands, fun _ => D, rfl, rfl, rfl, nD, put_same, fun z hz => absurd hz (by simp), fun z hz => absurd hz (by simp), Sub.put nD, fun c hc e => by rw [put_ne hc] at e; exact g.bz c e, g.tb.put nD (fun _ z => nomatch z)⟩
  · rintro D acc h' ⟨done, L, f, e, el, rfl, nD, hD, k1, k2, sb, bz, tb⟩
    have : L = [] := by cases L with
      | nil => rfl
      | cons _ _ => cases el
    subst this
    rw [List.append_nil] at e
    subst e
    refine ⟨trivial, _, (b.lands.map fun l => ((Sum.inr l.nm : Key), Val.ref (f l.nm))), rfl, by rw [List.map_map]; rfl, fun d nd' => ?_⟩
    rw [merge_new _ [] (by rw [List.nil_append, List.map_map]; exact (List.pairwise_map.mpr ((List.pairwise_map.mp nd).imp fun h e => h (Sum.inr.inj e)))), List.nil_append]
    have er : (b.lands.map fun l => ((Sum.inr l.nm : Key), Val.ref (f l.nm))) = refD b f := by unfold refD Book.names; rw [List.map_map]; rfl
    rw [er]
    have sb' : Sub h (drop h' D) := fun c o hc => by rw [drop_ne (fun z => by rw [z, nD] at hc; cases hc)]; exact sb c o hc
    have dn : h d = none := by
      cases e : h d with
      | none => rfl
      | some o => rw [sb' d o e] at nd'; cases nd'
    have at' : ∀ z ∈ b.names, h (f z) = none ∧ f z ≠ D ∧ h' (f z) = some (.lst []) := fun z hz => by
      obtain ⟨l, hl, rfl⟩ := List.mem_map.mp hz
      exact k1 l hl
    have nfd : ∀ z ∈ b.names, f z ≠ d := fun z hz e => by
      have := at' z hz
      rw [← e, drop_ne this.2.1, this.2.2] at nd'
      cases nd'
    refine q d f _ ⟨⟨.inl put_same, fun z hz => ?_, fun z hz y hy => ?_, fun z hz => ⟨by simp, fun _ h => absurd h (by simp)⟩, fun _ _ _ h => absurd h (by simp)⟩, ⟨fun c o hc => ?_, fun c hc => ?_, (tb.drop hD (fun _ z => nomatch z)).put nd' (fun _ z => nomatch z)⟩, old dn, fun z hz => ⟨old (at' z hz).1, nfd z hz⟩⟩
    · rw [put_ne (nfd z hz), drop_ne (at' z hz).2.1, (at' z hz).2.2]; rfl
    · obtain ⟨l, hl, rfl⟩ := List.mem_map.mp hz
      obtain ⟨k, hk, rfl⟩ := List.mem_map.mp hy
      exact k2 l hl k hk
    · have := g.sub c o hc
      rw [put_ne (fun z => by rw [z, dn] at this; cases this)]; exact sb' c o this
    · by_cases z : c = d
      · subst z; rw [put_same] at hc; cases hc
      · rw [put_ne z] at hc
        by_cases z2 : c = D
        · subst z2; rw [drop_same] at hc; cases hc
        · rw [drop_ne z2] at hc; exact bz c z2 hc
  · rintro D v r acc h' ⟨done, L, f, e, el, rfl, nD, hD, k1, k2, sb, bz, tb⟩
    obtain ⟨l, L', rfl, rfl, rfl⟩ : ∃ l L', L = l :: L' ∧ v = encL l ∧ r = L'.map encL := by
      cases L with
      | nil => cases el
      | cons l L' => rw [List.map_cons] at el; cases el; exact ⟨l, L', rfl, rfl, rfl⟩
    rw [e, List.map_append, List.map_cons] at nd
    have zd : ∀ k ∈ done, k.nm ≠ l.nm := fun k hk h => (List.nodup_append.mp nd).2.2 k.nm (List.mem_map_of_mem hk) l.nm List.mem_cons_self h
    have dl : done.length < 5 := by
      have := congrArg List.length e
      rw [List.length_append, List.length_cons] at this
      have l4 := wf.n4
      omega
    refine ⟨trivial, _, rfl, fun Nx hNx => ?_⟩
    simp only [tTrue, if_true]
    refine tup2 ?_
    refine ev_bin (ev_var (hvr l)) ev_c (f_ix0 (u := .str l.nm) rfl rfl) _ ?_
    refine ⟨by simp, fun p np => ?_⟩
    show _ ∧ _ ∧ _
    refine ⟨by simp [sizeLine_eq], by rw [List.length_map, sizeLine_eq]; omega, hNx _ _ ⟨done ++ [l], L', fun y => if y = l.nm then p else f y, by rw [e]; simp, rfl, ?_, nD, ?_, fun y hy => ?_, fun y hy w hw hne => ?_, sb.trans (Sub.put np), fun c hc hb => ?_, tb.put np (fun _ z => nomatch z)⟩⟩
    · rw [List.map_append]
      congr 1
      · refine List.map_congr_left fun y hy => ?_
        simp only [if_neg (zd y hy)]
      · simp
    · rw [put_ne (fun z => by rw [z, np] at hD; cases hD)]; exact hD
    · rcases List.mem_append.mp hy with hy | hy
      · have := k1 y hy
        simp only [if_neg (zd y hy)]
        exact ⟨this.1, this.2.1, by rw [put_ne (fun z => by rw [z, np] at this; cases this.2.2)]; exact this.2.2⟩
      · rw [List.mem_singleton.mp hy]
        simp only [if_pos]
        refine ⟨?_, fun e => (by rw [e, hD] at np; cases np), put_same⟩
        cases e : h p with
        | none => rfl
        | some o => rw [sb p o e] at np; cases np
    · have pn : ∀ y ∈ done, f y.nm ≠ p := fun y hy e => by have := (k1 y hy).2.2; rw [e, np] at this; cases this
      rcases List.mem_append.mp hy with hy | hy
      · rcases List.mem_append.mp hw with hw | hw
        · simp only [if_neg (zd y hy), if_neg (zd w hw)]
          exact k2 y hy w hw hne
        · rw [List.mem_singleton.mp hw]
          simp only [if_neg (zd y hy), if_pos]
          exact pn y hy
      · rw [List.mem_singleton.mp hy]
        rcases List.mem_append.mp hw with hw | hw
        · simp only [if_neg (zd w hw), if_pos]
          exact fun e => pn w hw e.symm
        · rw [List.mem_singleton.mp hy, List.mem_singleton.mp hw] at hne
          exact absurd rfl hne
    · by_cases z : c = p
      · subst z; rw [put_same] at hb; cases hb
      · rw [put_ne z] at hb; exact bz c hc hb
end DL
namespace DL
open PySem PySem.Spec PyProof.Rows L2
theorem evi_enum {ρ : Sl} {h : Hv} {E : PX} {da : ED} {us : List Val} (ha : EvE ρ h E da (.tup us)) : EvI ρ h E (dEnum (aCons da aNil)) ⟨enumV us, fun _ => True⟩ := fun Q q => ha _ q
theorem bo__law_table (G : Gx) (N : List Str) (hN : N.length = 8) : ∀ as h Q E, as.length = 2 → S__law_table G as h Q E → den__law_table G (startA N as) h (endsR Q) (RX E) := by
  rintro as h Q E - ⟨b, hp, rfl, wf, ho, h6, tb, hns, q⟩
  unfold den__law_table
  simp only [startA, hN]
  have nd := names_nodup wf
  refine s_seq (new_lists (h0 := h) wf ⟨Sub.refl h, fun c hc => hc, tb⟩ (evi_it (ev_bin (ev_var (v := encB b)) ev_c (f_ix0 rfl rfl)) rfl) (fun z => rfl) fun d la h1 t1 => ?_)
  dsimp only
  refine ss_for (evi_enum (ev_var (v := encH hp))) fun dd hdd => ?_
  refine for_ind (fun vs ρ h' => ∃ (i : Nat) (x4 x5 : Option Val), i ≤ hp.length ∧ vs = (enumV (hp.map encR)).drop i ∧ ρ = [some (encB b), some (encH hp), none, some (.ref d), x4, x5, none, none] ∧ FB G h h' d la b (fsR hp i)) ?_ ?_ _ _ _ ⟨0, none, none, Nat.zero_le _, rfl, rfl, t1⟩
  · rintro ρ h' ⟨i, x4, x5, il, ev, rfl, t⟩
    have il2 : i = hp.length := by
      have := List.drop_eq_nil_iff.mp ev.symm
      unfold enumV at this
      simp at this
      omega
    subst il2
    refine ⟨trivial, ?_⟩
    dsimp only
    subst hdd
    refine ss_for (evi_it (ev_call (u := .lst ((setsL hp.length).map encS)) (eva1 (ev_cb (eva1 (ev_var (v := encH hp))) (c_len (n := hp.length) (by unfold encH; simp)))) rfl fun Q q => ⟨_, rfl, by omega, t.g.tb, hns, q⟩) rfl) fun dd hdd => ?_
    refine for_ind (fun vs ρ h2 => ∃ (done R : List Nat) (x2 x6 x7 : Option Val) (fs : Str → List Nat), setsL hp.length = done ++ R ∧ vs = R.map encS ∧ ρ = [some (encB b), some (encH hp), x2, some (.ref d), x4, x5, x6, x7] ∧ FB G h h2 d la b fs ∧ LInv b hp (fun n => n ∈ done) fs) ?_ ?_ _ _ _ ⟨[], _, none, none, none, fsR hp hp.length, rfl, rfl, rfl, t, ?_⟩
    · rintro ρ h2 ⟨done, R, x2, x6, x7, fs, e, el, rfl, t2, li⟩
      have := map_nil_nat el
      subst this
      rw [List.append_nil] at e
      refine ⟨trivial, ?_⟩
      dsimp only
      refine s_ret (ev_var (v := .ref d)) ?_
      refine RT.same (q h2 d la fs t2.f ⟨fun z hz n => ?_⟩ t2.g t2.nd t2.nl)
      rw [li.f z hz n, ← e, mem_setsL]
      rfl
    · rintro v vs ρ h2 ⟨done, R, x2, x6, x7, fs, e, el, rfl, t2, li⟩
      obtain ⟨m, R', rfl, rfl, rfl⟩ := map_cons_nat el
      have fo := fill_sets wf ho e
      have hm := fo.lt
      refine ⟨trivial, _, rfl, fun Nx hNx => ?_⟩
      subst hdd
      refine ss_set ev_c ?_
      refine while_of (fun n ρ h' => ∃ (gs : Str → List Nat) (f : Bool) (x2 : Option Val), ρ = [some (encB b), some (encH hp), x2, some (.ref d), x4, x5, some (encS m), some (.bl f)] ∧ n = 2 * lack b gs m + (if f = true then 1 else 0) ∧ FB G h h' d la b gs ∧ LMid b hp (fun n => n ∈ done) m gs ∧ (f = false → ∀ z ∈ b.names, m ∈ gs z ∨ ¬ CMade b hp gs z m)) ⟨fs, true, x2, rfl, rfl, t2, li.mid m, fun z => nomatch z⟩ ?_
      rintro n ρ h' ⟨gs, f, x2, rfl, rfl, t', mi, ex⟩ Ny hNy
      refine evt_truthB (k := f) ev_var _ ?_
      cases f with
      | false =>
        rw [if_neg Bool.false_ne_true]
        refine hNx _ _ ⟨done ++ [m], R', x2, _, _, gs, by rw [e]; simp, rfl, rfl, t', ?_⟩
        have := law_end fo mi (ex rfl)
        exact ⟨fun z hz n => by rw [this.f z hz n]; simp⟩
      | true =>
        rw [if_pos rfl]
        refine ss_set ev_c ?_
        refine evi_found t' (ev_var (v := .ref d)) fun o xs h3 t3 hd3 => ?_
        refine for_ind (fun vs ρ h2 => ∃ (dn L : List Str) (g2 : Str → List Nat) (f : Bool) (x2 : Option Val), b.names = dn ++ L ∧ vs = L.map .str ∧ ρ = [some (encB b), some (encH hp), x2, some (.ref d), x4, x5, some (encS m), some (.bl f)] ∧ FB G h h2 d la b g2 ∧ h2 d = some (.dF o xs (refD b la)) ∧ LMid b hp (fun n => n ∈ done) m g2 ∧ lack b g2 m ≤ lack b gs m ∧ (f = true → lack b g2 m < lack b gs m) ∧ (f = false → ∀ z ∈ dn, m ∈ g2 z ∨ ¬ CMade b hp g2 z m)) ?_ ?_ _ _ _ ⟨[], b.names, gs, false, x2, rfl, rfl, rfl, t3, hd3, mi, Nat.le_refl _, fun z => (nomatch z), fun _ z hz => absurd hz (by simp)⟩
        · rintro ρ h2 ⟨dn, L, g2, f, x2, e2, el, rfl, t2, hd2, mi2, l1, l2, ex2⟩
          have := map_nil_str el
          subst this
          rw [List.append_nil] at e2
          refine ⟨hd2, hNy (2 * lack b g2 m + (if f = true then 1 else 0)) _ _ ?_ ⟨g2, f, x2, rfl, rfl, t2, mi2, fun ef z hz => ex2 ef z (e2 ▸ hz)⟩⟩
          cases f with
          | false => simp; omega
          | true => have := l2 rfl; simp; omega
        · rintro v vs ρ h2 ⟨dn, L, g2, f, x2, e2, el, rfl, t2, hd2, mi2, l1, l2, ex2⟩
          obtain ⟨z, L', rfl, rfl, rfl⟩ := map_cons_str el
          have hz : z ∈ b.names := by rw [e2]; simp
          refine ⟨hd2, _, rfl, fun Nz hNz => ?_⟩
          refine s_if (evt_and (evt_test (ev_bin (ev_var (v := encS m)) (fd_get t2.f (Sub.refl h2) hz (ev_var (v := .ref d)) (ev_var (v := .str z))) (f_notInS (xs := g2 z) (.inr ⟨_, rfl, t2.f.l z hz⟩) (by have := (t2.f.s z hz).len; omega) hm (t2.f.s z hz).lt))) fun _ => evt_truthB (k := dec (CMade b hp g2 z m)) (ev_call (eva_cons ev_var (eva_cons ev_var (eva_cons ev_var (eva2 ev_var ev_var)))) rfl fun Q q => ⟨b, hp, d, la, g2, m, z, rfl, wf, h6, t2.f, fo.m0, fo.mH, hz, t2.g.tb, hns, q⟩)) (fun k => ?_) (fun k => ?_)
          · rw [Bool.and_eq_true, Bool.not_eq_true', decide_eq_false_iff_not, dec_iff] at k
            have cz : Can b hp z m := cmade_sound fo mi2 hz k.2
            have gm : ∀ y n, n ∈ upS g2 z (g2 z ++ [m]) y ↔ n ∈ g2 y ∨ (y = z ∧ n = m) := fun y n => by
              by_cases ey : y = z
              · subst ey; rw [upS_same]; simp
              · rw [upS_ne ey]; simp [ey]
            refine s_seq (fd_app (n := m) t2 hz (ev_var (v := .ref d)) (ev_var (v := .str z)) (ev_var (v := encS m)) ?_)
            dsimp only
            refine s_set ev_c ?_
            refine hNz _ _ ⟨dn ++ [z], L', upS g2 z (g2 z ++ [m]), true, _, by rw [e2]; simp, rfl, rfl, t2.app hz hm fo.m0 k.1, by rw [put_ne (t2.nl z hz).2.symm]; exact hd2, ⟨fun y hy n hn => ?_, fun y hy h => ?_, fun y hy h => (gm y m).mpr (.inl (mi2.r y hy h))⟩, ?_, fun _ => ?_, fun z => nomatch z⟩
            · rw [gm, ← mi2.f y hy n hn]
              exact ⟨fun h => h.resolve_right fun c => hn c.2, .inl⟩
            · rcases (gm y m).mp h with h | h
              · exact mi2.mc y hy h
              · rw [h.1]; exact cz
            · refine Nat.le_trans (count_le fun y hy h => ?_) l1
              rw [Bool.not_eq_true', decide_eq_false_iff_not] at h ⊢
              exact fun c => h ((gm y m).mpr (.inl c))
            · refine Nat.lt_of_lt_of_le (count_lt (fun y hy h => ?_) hz (y := z) ?_ ?_) l1
              · rw [Bool.not_eq_true', decide_eq_false_iff_not] at h ⊢
                exact fun c => h ((gm y m).mpr (.inl c))
              · rw [Bool.not_eq_true', decide_eq_false_iff_not]; exact k.1
              · rw [Bool.not_eq_false', decide_eq_true_eq]; exact (gm z m).mpr (.inr ⟨rfl, rfl⟩)
          · refine hNz _ _ ⟨dn ++ [z], L', g2, f, _, by rw [e2]; simp, rfl, rfl, t2, hd2, mi2, l1, l2, fun ef y hy => ?_⟩
            rcases List.mem_append.mp hy with hy | hy
            · exact ex2 ef y hy
            · rw [List.mem_singleton.mp hy]
              rw [Bool.and_eq_false_iff, Bool.not_eq_false', decide_eq_true_eq] at k
              refine k.imp id fun k c => ?_
              rw [dec_iff.mpr c] at k
              cases k
    · have := fsR_inv (b := b) (hp := hp)
      exact ⟨fun z hz n => by rw [this.f z hz n]; simp⟩
  · rintro v vs ρ h' ⟨i, x4, x5, il, ev, rfl, t⟩
    have h0 : (enumV (hp.map encR))[i]? = some v := by
      have := congrArg (·[0]?) ev
      simpa using this.symm
    obtain ⟨w, hw, rfl⟩ := enumV_get h0
    rw [List.getElem?_map] at hw
    obtain ⟨p, hp', rfl⟩ := Option.map_eq_some_iff.mp hw
    have hr := rawL_at (z := p.2) (w := p.1) hp'
    have ilt := (List.getElem?_eq_some_iff.mp hp').1
    have ev' : vs = (enumV (hp.map encR)).drop (i + 1) := by
      rw [← List.drop_drop, ← ev]; rfl
    refine ⟨trivial, _, rfl, fun Nx hNx => ?_⟩
    subst hdd
    refine s_if (evt_test (ev_bin (ev_bin (ev_var (v := encR p)) ev_c (f_ix1 (u := encO p.2) rfl rfl)) ev_c f_notN)) (fun k => ?_) (fun k => ?_)
    · obtain ⟨z, ez⟩ := Option.isSome_iff_exists.mp k
      have hz : z ∈ b.names := ho.fr _ (List.mem_of_getElem? hp') z ez
      have i8 : i < 8 := by omega
      have es : encS (2 ^ i) = .tup [.int (i : Int)] := by unfold encS; rw [set_one i8]; rfl
      refine fd_app (n := 2 ^ i) t hz (ev_var (v := .ref d)) ((ev_bin (ev_var (v := encR p)) ev_c (f_ix1 (u := encO p.2) rfl rfl)).cast (by rw [ez]; rfl)) (by rw [es]; exact ev_tup (eva1 (ev_var (v := .int (i : Int)))) (by simp [sizeLine_eq])) ?_
      refine hNx _ _ ⟨i + 1, _, _, ilt, ev', rfl, ?_⟩
      rw [fsR_up (hr.trans ez)]
      exact t.app hz (Nat.lt_of_lt_of_le (Nat.pow_lt_pow_right (by decide) i8) (Nat.le_refl _)) (Nat.pos_iff_ne_zero.mp (Nat.two_pow_pos i)) fsR_new
    · simp only [sNext]
      refine hNx _ _ ⟨i + 1, _, _, ilt, ev', rfl, ?_⟩
      rw [fsR_same (hr.trans (by cases e : p.2 with
        | none => rfl
        | some z => rw [e] at k; cases k))]
      exact t
end DL
namespace DL
open PySem PySem.Spec PyProof.Rows L2
/-! ## what law bodies ask -/
section
variable {ρ : Sl} {h : Hv} {E : PX} {aa ab : AD} {vs ws : List Val} {u v : Val} {da : ED} {s2 : SD} {D : AE}
theorem ev_callK {n k : Nat} {fs : SpF} (ha : EvA ρ h E aa vs) (hb : EvA ρ h E ab ws) (hn : vs.length = n) (hk : ws.length = k) (hf : ∀ Q : PV, Q u h → fs (vs ++ ws) h Q (fun nm pl h' => E nm pl ρ h')) : EvE ρ h E (dCallK n k fs aa ab) u := fun Q q => ha _ (hb _ ⟨⟨hn, hk⟩, hf _ q⟩)
theorem f_neS (ok : okN 64 v = true) (hs : scA v v = none := by rfl) : EvF h fNe v v (.bl false) := fun Q q => fNe_dat ok ok (by rw [eqD_refl ok]; exact q) hs
theorem f_eqS (ok : okN 64 v = true) (hs : scA v v = none := by rfl) : EvF h fEq v v (.bl true) := fun Q q => fEq_dat ok ok (by rw [eqD_refl ok]; exact q) hs
/-- if a != a: .. -/
theorem ss_ne {s1 s3 : SD} (ha : EvE ρ h E da (.bl false)) (q : s3 ρ h { D with nx := fun ρ h => s2 ρ h D E } E) : sSeq (sIf (dTest da) s1 s3) s2 ρ h D E := ss_if (evt_test ha) (fun z => nomatch z) fun _ => q
theorem ev_is {a b : Bool} (ha : EvA ρ h E aa [.bl a, .bl b]) : EvE ρ h E (dCall 2 S__law_is aa) (.bl (a == b)) := ev_call ha rfl fun Q q => ⟨a, b, rfl, q⟩
theorem ev_heard {Ts : List (Addr × Str)} {P : Addr} {q : Str} {rs : List Str} {nm : Str} {d : ED} (tb : Tbs Ts h) (hm : (P, q) ∈ Ts) (hr : nm ∈ rs) (hd : ∀ (Q : PV) (E' : PX), E' nm none ρ h → d ρ h Q E') : EvE ρ h E (dHeard Ts P q rs d) (.tup [.str (heardW nm)]) := fun Q q => ⟨tb, hm, hd _ _ ⟨hr, rfl, q⟩⟩
end
theorem e_call {n : Nat} {fs : SpF} {ρ : Sl} {h : Hv} {E : PX} {aa : AD} {vs : List Val} {Q : PV} (ha : EvA ρ h E aa vs) (hn : vs.length = n) (hf : fs vs h Q (fun nm pl h' => E nm pl ρ h')) : dCall n fs aa ρ h Q E := ha _ ⟨hn, hf⟩
theorem x_set {i : Nat} {d : ED} {s2 : SD} {ρ : Sl} {h : Hv} {E : PX} {D : AE} (q : d ρ h (fun v h => s2 (ρ.set i (some v)) h D E) E) : sSeq (sSet i d) s2 ρ h D E := q
theorem Town.sub {t r : Addr} {h h' : Hv} (T : Town t r h) (s : Sub h h') : Town t r h' := by
  obtain ⟨c, c0, e1⟩ := T.tc
  obtain ⟨rs, e2, k⟩ := T.rc
  exact ⟨T.ne, ⟨c, c0, s _ _ e1⟩, rs, s _ _ e2, k⟩
section
variable {ρ : Sl} {h : Hv} {E : PX} {s2 : SD} {D : AE} {ns : List Int} {t r : Addr} {Ts : List (Addr × Str)}
/-- town = _law_begun() -/
theorem ss_begun {i : Nat} (tb : Tbs Ts h) (q : ∀ t r h', Town t r h' → Tbs Ts h' → s2 (ρ.set i (some (.ref t))) h' D E) : sSeq (sSet i (dCall 0 S__law_begun aNil)) s2 ρ h D E :=
  s_seq (show _ ∧ _ from ⟨rfl, rfl, fun t r h1 ht hr T1 o1 => q t r h1 T1 (tb.begin ht hr T1 o1)⟩)
/-- book = _law_a_book(script, town) -/
theorem ss_book {i : Nat} {ds dt : ED} (nl : ns.length ≤ 63) (T : Town t r h) (tb : Tbs Ts h) (hs : EvE ρ h E ds (.scr ns)) (ht : EvE ρ h E dt (.ref t)) (q : ∀ b h', Drawn b → Town t r h' → Tbs Ts h' → Only t r h h' → s2 (ρ.set i (some (encB b))) h' D E) : sSeq (sSet i (dCall 2 S__law_a_book (aCons ds (aCons dt aNil)))) s2 ρ h D E :=
  x_set (e_call (eva2 hs ht) rfl ⟨ns, t, r, rfl, nl, T, fun b h' db T' o' => q b h' db T' (tb.town T T' o') o'⟩)
/-- heap = _law_a_heap(script, town, book, most) -/
theorem ss_heap {i : Nat} {ds dt db dm : ED} {b : Book} {most : Int} (nl : ns.length ≤ 63) (m1 : 1 ≤ most) (m8 : most ≤ 8) (bl : b.lands.length ≤ 4) (T : Town t r h) (tb : Tbs Ts h) (hs : EvE ρ h E ds (.scr ns)) (ht : EvE ρ h E dt (.ref t)) (hb : EvE ρ h E db (encB b)) (hm : EvE ρ h E dm (.int most)) (q : ∀ hp h', DrawnH b hp most → Town t r h' → Tbs Ts h' → Only t r h h' → s2 (ρ.set i (some (encH hp))) h' D E) : sSeq (sSet i (dCall 4 S__law_a_heap (aCons ds (aCons dt (aCons db (aCons dm aNil)))))) s2 ρ h D E :=
  x_set (e_call (eva_cons hs (eva_cons ht (eva2 hb hm))) rfl ⟨ns, t, r, b, most, rfl, nl, m1, m8, bl, T, fun b h' db T' o' => q b h' db T' (tb.town T T' o') o'⟩)
/-- _law_draw(script, town, m) -/
theorem e_draw {ds dt dm : ED} {m : Int} {Q : PV} (nl : ns.length ≤ 63) (m0 : 0 < m) (m1 : m < 1073741824) (T : Town t r h) (tb : Tbs Ts h) (hs : EvE ρ h E ds (.scr ns)) (ht : EvE ρ h E dt (.ref t)) (hm : EvE ρ h E dm (.int m)) (q : ∀ n h', 0 ≤ n → n < m → Town t r h' → Tbs Ts h' → Only t r h h' → Q (.int n) h') : dCall 3 S__law_draw (aCons ds (aCons dt (aCons dm aNil))) ρ h Q E :=
  (eva_cons hs (eva2 ht hm)) _ ⟨rfl, ns, t, r, m, rfl, m0, m1, nl, T, fun n h' n0 n1 T' o' => q n h' n0 n1 T' (tb.town T T' o') o'⟩
/-- book[0][_law_draw(script, town, len(book[0]))][0] -/
theorem e_drawName {ds dt db db2 : ED} {b : Book} {Q : PV} (wf : WFB b) (nl : ns.length ≤ 63) (T : Town t r h) (tb : Tbs Ts h) (hs : EvE ρ h E ds (.scr ns)) (ht : EvE ρ h E dt (.ref t)) (hb : EvE ρ h E db (encB b)) (hb2 : EvE ρ h E db2 (encB b)) (q : ∀ z h', z ∈ b.names → Town t r h' → Tbs Ts h' → Only t r h h' → Q (.str z) h') :
    dBin fIx (dBin fIx (dBin fIx db (dC (.int 0))) (dCall 3 S__law_draw (aCons ds (aCons dt (aCons (dCB fLen (aCons (dBin fIx db2 (dC (.int 0))) aNil)) aNil))))) (dC (.int 0)) ρ h Q E := by
  have n4 := wf.n4
  have n1 := wf.n1
  have lb : ∀ {d : ED}, EvE ρ h E d (encB b) → EvE ρ h E (dBin fIx d (dC (.int 0))) (.tup (b.lands.map encL)) := fun hd => ev_bin hd ev_c (f_ix0 rfl rfl)
  show dBin fIx (dBin fIx db (dC (.int 0))) _ ρ h _ E
  refine lb hb _ ?_
  refine e_draw (m := (b.lands.length : Int)) nl (by omega) (by omega) T tb hs ht (ev_cb (eva1 (lb hb2)) (c_len (by simp))) fun n h' n0 n1 T' tb' o' => ?_
  obtain ⟨k, rfl⟩ := Int.eq_ofNat_of_zero_le n0
  have hk : k < b.lands.length := by omega
  refine f_ixL (u := encL b.lands[k]) (vs := b.lands.map encL) rfl (by rw [List.getElem?_map, List.getElem?_eq_getElem hk]; rfl) _ ?_
  exact f_ix0 (v := encL b.lands[k]) (vs := [.str b.lands[k].nm, .int b.lands[k].p, .int b.lands[k].q, .int b.lands[k].pr]) (u := .str b.lands[k].nm) rfl rfl Q (q _ _ (List.mem_map.mpr ⟨_, List.getElem_mem hk, rfl⟩) T' tb' o')
end
theorem drawn_hp {b : Book} {hp : Heap'} {m : Int} (dh : DrawnH b hp m) (hm : m ≤ 8) : HpOk b hp := ⟨by have := dh.nm; omega, dh.fr⟩
theorem zz_odd {b : Book} (db : Drawn b) : odd b (.str "zz") := by
  refine ⟨rfl, ?_⟩
  rw [inA_str]
  obtain ⟨k, k1, k3, e⟩ := db.nm
  rw [decide_eq_false_iff_not, e]
  intro h
  have := List.mem_of_mem_take h
  revert this
  decide
theorem names_len {b : Book} (wf : WFB b) : b.names.length ≤ 4 := by have := wf.n4; unfold Book.names; rw [List.length_map]; exact this
theorem FndAt.only {h h' : Hv} {d : Addr} {la : Str → Addr} {b : Book} {fs : Str → List Nat} {t r : Addr} (f : FndAt h d la b fs) (nd : d ≠ t ∧ d ≠ r) (nl : ∀ z ∈ b.names, la z ≠ t ∧ la z ≠ r) (on : Only t r h h') : FndAt h' d la b fs :=
  ⟨f.d.imp (fun e => (on d nd.1 nd.2).trans e) fun ⟨o, xs, e⟩ => ⟨o, xs, (on d nd.1 nd.2).trans e⟩, fun z hz => (on _ (nl z hz).1 (nl z hz).2).trans (f.l z hz), f.nl, f.s, f.z⟩
theorem FndAt.sub {h h' : Hv} {d : Addr} {la : Str → Addr} {b : Book} {fs : Str → List Nat} (f : FndAt h d la b fs) (s : Sub h h') : FndAt h' d la b fs :=
  ⟨f.d.sub s, fun z hz => s _ _ (f.l z hz), f.nl, f.s, f.z⟩
/-! tables -/
theorem linv_can {b : Book} {hp : Heap'} {fs : Str → List Nat} (li : LInv b hp (fun n => n ≠ 0 ∧ inH hp n) fs) {z : Str} (hz : z ∈ b.names) (n : Nat) : n ∈ fs z ↔ n ∈ canL b hp z := by
  rw [li.f z hz n, mem_canL]
  constructor
  · rintro (h | ⟨i, w, h, rfl⟩)
    · exact ⟨h.1.2, h.1.1, h.2⟩
    · have := (List.getElem?_eq_some_iff.mp h).1
      exact ⟨Nat.pow_lt_pow_right (by decide) this, Nat.pos_iff_ne_zero.mp (Nat.two_pow_pos i), raw_can ⟨i, w, h, rfl⟩⟩
  · exact fun h => .inl ⟨⟨h.2.1, h.1⟩, h.2.2⟩
theorem set_full_all : ((List.range 9).all fun k => setI (2 ^ k - 1) == (List.range k).map fun (i : Nat) => (i : Int)) = true := by decide +kernel
theorem set_full {k : Nat} (h : k ≤ 8) : setI (2 ^ k - 1) = (List.range k).map fun (i : Nat) => (i : Int) := beq_iff_eq.mp (List.all_eq_true.mp set_full_all k (List.mem_range.mpr (by omega)))
theorem canL_lt {b : Book} {hp : Heap'} (h8 : hp.length ≤ 8) {z : Str} : ∀ n ∈ canL b hp z, n ≠ 0 ∧ n < 256 := fun n h => ⟨(mem_canL.mp h).2.1, inH_lt h8 (mem_canL.mp h).1⟩
theorem canL_len {b : Book} {hp : Heap'} (h8 : hp.length ≤ 8) {z : Str} : (sortS (canL b hp z)).length ≤ 256 := by
  unfold sortS
  rw [List.length_mergeSort]
  exact nodup_le 256 _ (canL_nodup b hp z) fun n hn => (canL_lt h8 n hn).2
theorem okN_tabV {b : Book} {hp : Heap'} (wf : WFB b) (h8 : hp.length ≤ 8) (d : Nat) : okN (d + 3) (tabV b hp) = true := by
  unfold tabV
  rw [okN_tup]
  refine ⟨fun v hv => ?_, by rw [List.length_map]; have := names_len wf; omega⟩
  obtain ⟨z, -, rfl⟩ := List.mem_map.mp hv
  rw [okN_tup]
  refine ⟨fun v hv => ?_, by rw [List.length_map]; have := canL_len (b := b) (z := z) h8; omega⟩
  obtain ⟨n, -, rfl⟩ := List.mem_map.mp hv
  exact okN_encS n d
end DL
namespace DL
open PySem PySem.Spec PyProof.Rows L2
def den_law (G : Gx) : SD := (sSeq (sSet 1 (dCall 0 S__law_begun aNil)) (sSeq (sFor (dRange1 (aCons (dC (.int 3)) aNil)) (.nm 2) (sSeq (sSet 9 (dCall 2 S__law_a_book (aCons (dVar 0) (aCons (dVar 1) aNil)))) (sSeq (sSet 10 (dCall 4 S__law_a_heap (aCons (dVar 0) (aCons (dVar 1) (aCons (dVar 9) (aCons (dC (.int 4)) aNil)))))) (sSeq (sAsg (.tp [(.nm 3), (.nm 4)]) (dTup (aCons (dCall 2 (S__law_table G) (aCons (dVar 9) (aCons (dVar 10) aNil))) (aCons (dTupRange (dCB fLen (aCons (dVar 10) aNil))) aNil)))) (sSeq (sSet 5 (dCB fTuple (aCons (dLc (dIt (dBin fIx (dVar 9) (dC (.int 0)))) (.nm 11) tTrue (dCB fTuple (aCons (dCB fSortedD (aCons (dDGet (dVar 3) (dBin fIx (dVar 11) (dC (.int 0)))) aNil)) aNil)) [11]) aNil))) (sSeq (sIf (dTest (dBin fNe (dCallK 1 1 (S_table_of G) (aCons (dVar 9) aNil) (aCons (dVar 10) aNil)) (dVar 5))) (sRet (dC (.bl false))) sNext) (sSeq (sSet 6 (dCB fTuple (aCons (dLc (dIt (dBin fIx (dVar 9) (dC (.int 0)))) (.nm 11) (dTest (dBin fInD (dVar 4) (dDGet (dVar 3) (dBin fIx (dVar 11) (dC (.int 0)))))) (dBin fIx (dVar 11) (dC (.int 0))) [11]) aNil))) (sSeq (sIf (dTest (dBin fNe (dCallK 1 1 (S_all_lands G) (aCons (dVar 9) aNil) (aCons (dVar 10) aNil)) (dVar 6))) (sRet (dC (.bl false))) sNext) (sSeq (sFor (dIt (dCall 1 (S__law_sets G) (aCons (dCB fLen (aCons (dVar 10) aNil)) aNil))) (.nm 7) (sSeq (sSet 8 (dBin fIx (dBin fIx (dBin fIx (dVar 9) (dC (.int 0))) (dCall 3 S__law_draw (aCons (dVar 0) (aCons (dVar 1) (aCons (dCB fLen (aCons (dBin fIx (dVar 9) (dC (.int 0))) aNil)) aNil))))) (dC (.int 0)))) (sIf (dNot (dTruth (dCall 2 S__law_is (aCons (dCallK 3 1 (S_can_count G) (aCons (dVar 9) (aCons (dVar 10) (aCons (dVar 7) aNil))) (aCons (dVar 8) aNil)) (aCons (dBin fInD (dVar 7) (dDGet (dVar 3) (dVar 8))) aNil))))) (sRet (dC (.bl false))) sNext))) (sIf (dTest (dBin fNe (dHeard G.Ts (G.T "law") LQ ["NoLand"] (dCall 4 (S_can_count G) (aCons (dVar 9) (aCons (dVar 10) (aCons (dTup (aCons (dC (.int 0)) aNil)) (aCons (dC (.str "zz")) aNil)))))) (dTup (aCons (dC (.str "no land")) aNil)))) (sRet (dC (.bl false))) sNext)))))))))) (sRet (dC (.bl true)))))
end DL
namespace DL
open PySem PySem.Spec PyProof.Rows L2
theorem bo_law (G : Gx) (N : List Str) (hN : N.length = 12) : ∀ as h Q E, as.length = 1 → S_lawN ["_law_sets", "Table.__init__", "law"] G as h Q E → den_law G (startA N as) h (endsR Q) (RX E) := by
  rintro as h0 Q E - ⟨ns, rfl, nl, gns, tb0, q⟩
  have i1 : ("_law_sets" : Str) ∈ G.ns := by rw [gns]; decide
  have i2 : ("Table.__init__" : Str) ∈ G.ns := by rw [gns]; decide
  have i3 : ("law" : Str) ∈ G.ns := by rw [gns]; decide
  unfold den_law
  simp only [startA, hN]
  refine ss_begun tb0 fun t r h1 T1 tb1 => ?_
  refine ss_for (evi_range1 (n := 3) ev_c (by decide)) fun dd hdd => ?_
  refine for_ind (fun vs ρ h => Town t r h ∧ Tbs G.Ts h ∧ ∃ x2 x3 x4 x5 x6 x7 x8 x9 x10 x11 : Option Val, ρ = [some (.scr ns), some (.ref t), x2, x3, x4, x5, x6, x7, x8, x9, x10, x11]) ?_ ?_ _ _ _ ⟨T1, tb1, none, none, none, none, none, none, none, none, none, none, rfl⟩
  · rintro ρ h ⟨_, _, x2, x3, x4, x5, x6, x7, x8, x9, x10, x11, rfl⟩
    refine ⟨trivial, ?_⟩
    dsimp only
    exact s_ret ev_c (RT.same (q _))
  · rintro v vs ρ h ⟨T1, tb1, x2, x3, x4, x5, x6, x7, x8, x9, x10, x11, rfl⟩
    refine ⟨trivial, _, rfl, fun N hN => ?_⟩
    subst hdd
    refine ss_book nl T1 tb1 ev_var ev_var fun b h2 db T2 tb2 _ => ?_
    have wf := db.wf
    refine ss_heap (most := 4) (b := b) nl (by decide) (by decide) wf.n4 T2 tb2 ev_var ev_var ev_var ev_c fun hp h3 dh T3 tb3 _ => ?_
    have ho := drawn_hp dh (by decide)
    have h4' : hp.length ≤ 4 := by have := dh.nm; omega
    have h1' := dh.n1
    refine s_seq (tup2 (e_call (eva2 (ev_var (v := encB b)) (ev_var (v := encH hp))) rfl ⟨b, hp, rfl, wf, ho, by omega, tb3, i1, fun h4 d la fs f li g nd nl' => ?_⟩))
    have T4 := T3.sub g.sub
    refine ev_cb (eva1 (ev_var (v := encH hp))) (c_len (n := hp.length) (by unfold encH; simp)) _ ?_
    refine ⟨by omega, by omega, by simp [sizeLine_eq], ?_⟩
    have ew : (Val.tup (((List.range ((hp.length : Nat) : Int).toNat).map fun (i : Nat) => (i : Int)).map .int)) = encS (2 ^ hp.length - 1) := by
      rw [Int.toNat_natCast]
      unfold encS
      rw [set_full (by omega)]
    rw [ew]
    have tf := T3.fresh nd
    have nlt : ∀ z ∈ b.names, la z ≠ t ∧ la z ≠ r := fun z hz => T3.fresh (nl' z hz).1
    have pre : ∀ {h : Hv}, Tbs G.Ts h → TabPre G h b hp := fun tb => ⟨wf, ho, tb, i2⟩
    have wl : 2 ^ hp.length - 1 < 2 ^ hp.length := by have := Nat.two_pow_pos hp.length; omega
    have w256 : 2 ^ hp.length - 1 < 256 := inH_lt ho.n8 wl
    have w0 : 2 ^ hp.length - 1 ≠ 0 := by have : 2 ^ 1 ≤ 2 ^ hp.length := Nat.pow_le_pow_right (by decide) h1'; omega
    simp only [bT, bTs, List.length, Option.bind_some]
    -- due
    refine ss_set (v := tabV b hp) ((ev_cb (eva1 (ev_lc (ok := fun _ => True) b.lands encL (fun l => .tup ((sortS (fs l.nm)).map encS)) (evi_it (ev_bin (ev_var (v := encB b)) ev_c (f_ix0 rfl rfl)) rfl) (fun _ _ => trivial) (by rw [sizeLine_eq]; have := wf.n4; omega) fun l hl => ⟨_, rfl, fun h5 s5 => ?_⟩)) c_tuple).cast ?_) ?_
    · have hz : l.nm ∈ b.names := List.mem_map.mpr ⟨l, hl, rfl⟩
      refine ev_cb (eva1 (ev_cb (eva1 (fd_get f s5 hz (ev_var (v := .ref d)) (ev_bin (ev_var (v := encL l)) ev_c (f_ix0 (u := .str l.nm) rfl rfl)))) (u := .lst ((sortS (fs l.nm)).map encS)) fun Q q => ?_)) c_tuple
      refine ⟨_, _, kdS, rfl, by simp only [listOf, s5 _ _ (f.l l.nm hz)], sortOk_sets fun n hn => ⟨f.z _ hz n hn, (f.s _ hz).lt n hn⟩, ?_⟩
      rw [sort_sets]; exact q
    · unfold tabV Book.names
      rw [List.map_map]
      congr 1
      refine List.map_congr_left fun l hl => ?_
      have hz : l.nm ∈ b.names := List.mem_map.mpr ⟨l, hl, rfl⟩
      show Val.tup _ = Val.tup _
      rw [sortS_congr (f.s _ hz).lt (f.s _ hz).nd (canL_nodup b hp l.nm) (linv_can li hz)]
    refine ss_ne (ev_bin (ev_callK (u := tabV b hp) (eva1 (ev_var (v := encB b))) (eva1 (ev_var (v := encH hp))) rfl rfl fun Q q => ⟨b, hp, rfl, pre g.tb, q⟩) (ev_var (v := tabV b hp)) (f_neS (okN_tabV wf ho.n8 61))) ?_
    simp only [sNext]
    -- lands
    have hlands : ∀ z ∈ b.names, decide (2 ^ hp.length - 1 ∈ fs z) = dec (Can b hp z (2 ^ hp.length - 1)) := fun z hz => by
      rw [Bool.eq_iff_iff, decide_eq_true_eq, dec_iff, linv_can li hz, mem_canL]
      exact ⟨fun h => h.2.2, fun h => ⟨wl, w0, h⟩⟩
    refine ss_set (v := .tup ((b.names.filter fun z => dec (Can b hp z (2 ^ hp.length - 1))).map .str)) ((ev_cb (eva1 (ev_lcF (ok := fun _ => True) b.lands encL (fun l => decide (2 ^ hp.length - 1 ∈ fs l.nm)) (fun l => .str l.nm) (evi_it (ev_bin (ev_var (v := encB b)) ev_c (f_ix0 rfl rfl)) rfl) (fun _ _ => trivial) (by rw [sizeLine_eq]; have := wf.n4; omega) fun l hl => ⟨_, rfl, fun h5 s5 => ?_, fun _ h5 s5 => ?_⟩)) c_tuple).cast ?_) ?_
    · have hz : l.nm ∈ b.names := List.mem_map.mpr ⟨l, hl, rfl⟩
      exact evt_test (ev_bin (ev_var (v := encS (2 ^ hp.length - 1))) (fd_get f s5 hz (ev_var (v := .ref d)) (ev_bin (ev_var (v := encL l)) ev_c (f_ix0 (u := .str l.nm) rfl rfl))) (f_inS (xs := fs l.nm) (.inr ⟨_, rfl, s5 _ _ (f.l _ hz)⟩) (by have := (f.s _ hz).len; omega) w256 (f.s _ hz).lt))
    · exact ev_bin (ev_var (v := encL l)) ev_c (f_ix0 (u := .str l.nm) rfl rfl)
    · congr 1
      unfold Book.names
      rw [List.filter_map, List.map_map]
      congr 1
      refine List.filter_congr fun l hl => ?_
      exact hlands l.nm (List.mem_map.mpr ⟨l, hl, rfl⟩)
    have okl : okN 64 (.tup ((b.names.filter fun z => dec (Can b hp z (2 ^ hp.length - 1))).map .str)) = true := by
      rw [okN_tup]
      refine ⟨fun v hv => ?_, ?_⟩
      · obtain ⟨z, hz, rfl⟩ := List.mem_map.mp hv
        obtain ⟨k, k1, k3, e⟩ := db.nm
        have := List.mem_of_mem_take (e ▸ (List.mem_filter.mp hz).1)
        simp at this
        rcases this with rfl | rfl | rfl <;> decide +kernel
      · rw [List.length_map]
        have := List.length_filter_le (fun z => dec (Can b hp z (2 ^ hp.length - 1))) b.names
        have := names_len wf
        omega
    refine ss_ne (ev_bin (ev_callK (u := .tup ((b.names.filter fun z => dec (Can b hp z (2 ^ hp.length - 1))).map .str)) (eva1 (ev_var (v := encB b))) (eva1 (ev_var (v := encH hp))) rfl rfl fun Q q => ⟨b, hp, rfl, pre g.tb, h1', q⟩) (ev_var (v := .tup ((b.names.filter fun z => dec (Can b hp z (2 ^ hp.length - 1))).map .str))) (f_neS okl)) ?_
    simp only [sNext]
    refine ss_for (evi_it (ev_call (u := .lst ((setsL hp.length).map encS)) (eva1 (ev_cb (eva1 (ev_var (v := encH hp))) (c_len (n := hp.length) (by unfold encH; simp)))) rfl fun Q q => ⟨_, rfl, by omega, g.tb, i1, q⟩) rfl) fun dd hdd => ?_
    refine for_ind (fun vs ρ h => ∃ (R : List Nat) (x7 x8 : Option Val), vs = R.map encS ∧ (∀ n ∈ R, n ≠ 0 ∧ inH hp n) ∧ Town t r h ∧ Tbs G.Ts h ∧ FndAt h d la b fs ∧ ρ = [some (.scr ns), some (.ref t), some v, some (.ref d), some (encS (2 ^ hp.length - 1)), some (tabV b hp), some (.tup ((b.names.filter fun z => dec (Can b hp z (2 ^ hp.length - 1))).map .str)), x7, x8, some (encB b), some (encH hp), x11]) ?_ ?_ _ _ _ ⟨setsL hp.length, x7, x8, rfl, fun n hn => mem_setsL.mp hn, T4, g.tb, f, rfl⟩
    · rintro ρ h5 ⟨R, x7, x8, el, hR, T5, tb5, f5, rfl⟩
      refine ⟨trivial, ?_⟩
      dsimp only
      refine s_if (evt_test (ev_bin (ev_heard (nm := "NoLand") tb5 (G.mem i3) (by decide) fun Q E' e' => ?_) (ev_tup (eva1 ev_c) (by simp [sizeLine_eq])) (f_neS (by decide +kernel)))) (fun z => nomatch z) fun _ => ?_
      · refine e_call (eva_cons (ev_var (v := encB b)) (eva_cons (ev_var (v := encH hp)) (eva2 (ev_tup (eva1 ev_c) (by simp [sizeLine_eq])) ev_c))) rfl ⟨b, hp, .str "zz", 1, rfl, pre tb5, by decide, ?_, .inr ⟨zz_odd db, e'⟩⟩
        exact Nat.lt_of_lt_of_le (by decide : 1 < 2 ^ 1) (Nat.pow_le_pow_right (by decide) h1')
      · simp only [sNext]
        exact hN _ _ ⟨T5, tb5, _, _, _, _, _, _, _, _, _, _, rfl⟩
    · rintro v vs ρ h5 ⟨R, x7, x8, el, hR, T5, tb5, f5, rfl⟩
      obtain ⟨n, R', rfl, rfl, rfl⟩ := map_cons_nat el
      obtain ⟨n0, nH⟩ := hR n List.mem_cons_self
      refine ⟨trivial, _, rfl, fun Nx hNx => ?_⟩
      subst hdd
      refine x_set (e_drawName wf nl T5 tb5 ev_var ev_var ev_var ev_var fun z h6 hz T6 tb6 o6 => ?_)
      have f6 := f5.only tf nlt o6
      have ec : (dec (Can b hp z n) == decide (n ∈ fs z)) = true := by
        rw [beq_iff_eq, Bool.eq_iff_iff, decide_eq_true_eq, dec_iff, linv_can li hz, mem_canL]
        exact ⟨fun h => ⟨nH, n0, h⟩, fun h => h.2.2⟩
      refine s_if (k := false) ((evt_not (evt_truthB (ev_is (eva2 (ev_callK (u := .bl (dec (Can b hp z n))) (eva_cons (ev_var (v := encB b)) (eva2 (ev_var (v := encH hp)) (ev_var (v := encS n)))) (eva1 (ev_var (v := .str z))) rfl rfl fun Q q => ⟨b, hp, .str z, n, rfl, pre tb6, n0, nH, .inl ⟨z, rfl, hz, q⟩⟩) (ev_bin (ev_var (v := encS n)) (fd_get f6 (Sub.refl _) hz (ev_var (v := .ref d)) (ev_var (v := .str z))) (f_inS (xs := fs z) (.inr ⟨_, rfl, f6.l z hz⟩) (by have := (f6.s z hz).len; omega) (inH_lt ho.n8 nH) (f6.s z hz).lt)))))).cast (by rw [ec]; rfl)) (fun z => nomatch z) fun _ => ?_
      simp only [sNext]
      exact hNx _ _ ⟨R', _, _, rfl, fun k hk => hR k (List.mem_cons_of_mem _ hk), T6, tb6, f6, rfl⟩
end DL
namespace DL
open PySem PySem.Spec PyProof.Rows L2
def topS (i : Nat) : Stmt := PySem.Challenge.pw_countsfrom_k07_tables.main.body.getD i (.Pass ⟨0, 0, 0, 0⟩)
abbrev s__law_heard : Stmt := topS 28
abbrev N__law_heard : List Str := NH
theorem sc__law_heard : FnScope NH ["deed"] (defScope s__law_heard) := ⟨rfl, rfl, rfl, by decide +kernel, rfl, by decide +kernel, by decide +kernel⟩
abbrev s_law : Stmt := topS 41
abbrev N_law : List Str := ["script", "town", "k", "told", "whole", "due", "lands", "things", "name", "book", "heap_here", "land_here"]
theorem hd_law {P : Program} {w : World} {K : PySem.W.Frag} {mg : Str → Option Value} {base : Heap} {f fh c T : Addr} {fdh : FuncData} {cdv : Value} {A : Around} {outer : List Env} {s : Shared} {H : Hp} {E : XK} {cs : Str → Addr} (Fh : Fun K "_law_heard" "_law_heard" s__law_heard fh fdh) (mh : mg "_law_heard" = some (.ref fh)) (HC : HCls K mg cs ["NoLand"]) (m_isinstance : mg "isinstance" = none) (m_len : mg "len" = none) (m_ValueError : mg "ValueError" = none)
    (TB : LamX.TabB base mg c T) (hcode : cdv = .ref c) (hr : Room 28 (A.deeper (envOfC "law" (defScope s_law) s.heap.objs.size f cdv))) : Heard (cxOf (L2.CX P w) P w K mg base N_law "law" (defScope s_law) f cdv A outer s H E) 26 T ["NoLand"] := by
  have hb := Fh.binds (ps := ["deed"]) fun _ _ _ _ _ _ us hl => match us, hl with | [_], _ => rfl
  obtain ⟨oc, od, kV, doc, pm, an, cdg, ct, osl, rfl, lk, hcd⟩ := Fh.ex
  have nd := sc__law_heard.nd
  refine ⟨fh, c, _, _, _, _, kV, doc, pm, cdg, ct, oc, an, od, osl, mh, Fh.kp, lk, hcd, hb, sc__law_heard, Or.inl rfl, heard_gives HC (tail_ok HC) rfl rfl rfl rfl (fun s' H' => ps_asg (pe_tup (pa_cons pe_non (pa_cons pe_non pa_nil))) (pg_tup rfl (pgs_cons (pg_name (i := 1) nd rfl (Or.inl rfl)) (pgs_cons (pg_name (i := 2) nd rfl (Or.inl rfl)) pgs_nil)))) (fun s' H' B => ?_), TB, hcode, hr⟩
  have hr := (hr.deeper (envOfC "_law_heard" (defScope s__law_heard) s'.heap.objs.size fh cdg) : Room 27 _)
  have hu := hu_of hr
  exact (dss_cons (ds_if (dt_cmp op_isN ol_isN (de_var 1) de_non) (dss_one (ds_ret (de_tup (da_cons de_str (da_cons (de_var 2) da_nil))))) dss_nil) (dss_cons (ds_if (dt_truth (de_callB call_isK cl_isK (by rfl) m_isinstance bt_isinstance (da_cons (de_var 1) (da_cons (de_gref (by rfl) (HC.mg "NotOf" (by decide +kernel))) da_nil)))) (dss_one ds_dead) dss_nil) (dss_cons (ds_set (i := 4) nd rfl (Or.inr rfl) (de_disp (ps := [((dC (.str "no land")), (dCB (fIsK K) (aCons (dVar 1) (aCons (dC (.ref (cs "NoLand"))) aNil)))), ((dC (.str "no path")), (dCB (fIsK K) (aCons (dVar 1) (aCons (dC (.ref (cs "NoPath"))) aNil))))]) (pps_cons de_str (de_callB call_isK cl_isK (by rfl) m_isinstance bt_isinstance (da_cons (de_var 1) (da_cons (de_gref (by rfl) (HC.mg "NoLand" (by decide +kernel))) da_nil))) (pps_cons de_str (de_callB call_isK cl_isK (by rfl) m_isinstance bt_isinstance (da_cons (de_var 1) (da_cons (de_gref (by rfl) (HC.mg "NoPath" (by decide +kernel))) da_nil))) pps_nil)))) (dss_cons (ds_expr (de_bm PySem.F.plainAttrs_dict PySem.F.slot_dict_update PySem.F.type_dict_update mt_update ml_update (de_var 4) (da_cons (de_disp (ps := [((dC (.str "too many")), (dCB (fIsK K) (aCons (dVar 1) (aCons (dC (.ref (cs "TooMany"))) aNil)))), ((dC (.str "no claims")), (dCB (fIsK K) (aCons (dVar 1) (aCons (dC (.ref (cs "NoClaims"))) aNil))))]) (pps_cons de_str (de_callB call_isK cl_isK (by rfl) m_isinstance bt_isinstance (da_cons (de_var 1) (da_cons (de_gref (by rfl) (HC.mg "TooMany" (by decide +kernel))) da_nil))) (pps_cons de_str (de_callB call_isK cl_isK (by rfl) m_isinstance bt_isinstance (da_cons (de_var 1) (da_cons (de_gref (by rfl) (HC.mg "NoClaims" (by decide +kernel))) da_nil))) pps_nil))) da_nil))) (dss_cons (ds_expr (de_bm PySem.F.plainAttrs_dict PySem.F.slot_dict_update PySem.F.type_dict_update mt_update ml_update (de_var 4) (da_cons (de_disp (ps := [((dC (.str "no thing")), (dCB (fIsK K) (aCons (dVar 1) (aCons (dC (.ref (cs "NoThing"))) aNil)))), ((dC (.str "no worth")), (dCB (fIsK K) (aCons (dVar 1) (aCons (dC (.ref (cs "NoWorth"))) aNil))))]) (pps_cons de_str (de_callB call_isK cl_isK (by rfl) m_isinstance bt_isinstance (da_cons (de_var 1) (da_cons (de_gref (by rfl) (HC.mg "NoThing" (by decide +kernel))) da_nil))) (pps_cons de_str (de_callB call_isK cl_isK (by rfl) m_isinstance bt_isinstance (da_cons (de_var 1) (da_cons (de_gref (by rfl) (HC.mg "NoWorth" (by decide +kernel))) da_nil))) pps_nil))) da_nil))) (dss_cons (ds_expr (de_bm PySem.F.plainAttrs_dict PySem.F.slot_dict_update PySem.F.type_dict_update mt_update ml_update (de_var 4) (da_cons (de_disp (ps := [((dC (.str "no book")), (dCB (fIsK K) (aCons (dVar 1) (aCons (dC (.ref (cs "BadBook"))) aNil)))), ((dC (.str "no back")), (dCB (fIsK K) (aCons (dVar 1) (aCons (dC (.ref (cs "NoBack"))) aNil))))]) (pps_cons de_str (de_callB call_isK cl_isK (by rfl) m_isinstance bt_isinstance (da_cons (de_var 1) (da_cons (de_gref (by rfl) (HC.mg "BadBook" (by decide +kernel))) da_nil))) (pps_cons de_str (de_callB call_isK cl_isK (by rfl) m_isinstance bt_isinstance (da_cons (de_var 1) (da_cons (de_gref (by rfl) (HC.mg "NoBack" (by decide +kernel))) da_nil))) pps_nil))) da_nil))) (dss_cons (ds_dput hu (de_var 4) de_str (de_callB call_isK cl_isK (by rfl) m_isinstance bt_isinstance (da_cons (de_var 1) (da_cons (de_gref (by rfl) (HC.mg "NoText" (by decide +kernel))) da_nil)))) (dss_cons (ds_setLc (i := 5) (own := [("word", 6)]) (t := (.nm 6)) false rfl rfl nd rfl rfl (sw_true rfl rfl rfl (by decide +kernel)) (di_keys (de_var 4)) (blkOk_by (N := N__law_heard) (sc := defScope s__law_heard) (by decide +kernel)) (by decide) (fun _ _ _ _ _ => (gt_name (i := 6) nd rfl (Or.inl rfl))) (fun _ _ _ _ _ => (dts_one (dt_truth (de_dget hu (de_var 4) (de_var 6))))) (fun _ _ _ _ _ => (de_var 6))) (dss_one (ds_ret (de_if (dt_w (dw_and (dt_cmp (or_eq hr.units) ol_eq (de_callB call_len cl_len rfl m_len bt_len (da_cons (de_var 5) da_nil)) de_int) (dw_and1 (dt_truth (de_callB call_isK cl_isK (by rfl) m_isinstance bt_isinstance (da_cons (de_var 1) (da_cons (de_ty rfl m_ValueError bt_ValueError) da_nil))))))) (de_tup (da_cons (de_ix (de_var 5) de_int) da_nil)) (de_tup (da_cons de_str da_nil)))))))))))))

abbrev s_names_of : Stmt := topS 13
abbrev N_names_of : List Str := ["book", "land"]
theorem sc_names_of : FnScope N_names_of ["book"] (defScope s_names_of) := ⟨rfl, rfl, rfl, by decide +kernel, rfl, by decide +kernel, by decide +kernel⟩
theorem ok_names_of {P : Program} {w : World} {K : PySem.W.Frag} {mg : Str → Option Value} {base : Heap} {f : Addr} {fd : FuncData} (F : Fun K "names_of" "names_of" s_names_of f fd)  :
    FnOk P w K mg base (L2.CX P w) 1 f fd ["book"] (spA K mg 1 S_names_of) := by
  refine fn_mk (den := den_names_of) F sc_names_of (fun cdv A outer s H E B hr tk => ?_) (bo_names_of N_names_of rfl)
  have nd := sc_names_of.nd
  exact (dss_one (ds_ret (de_lc (own := [("land", 1)]) (t := (.nm 1)) rfl nd (di_any (de_ix (de_var 0) de_int)) (blkOk_by (N := N_names_of) (sc := defScope s_names_of) (by decide +kernel)) (by decide) (fun _ _ _ _ _ => (gt_name (i := 1) nd rfl (Or.inl rfl))) (fun _ _ _ _ _ => dts_nil) (fun _ _ _ _ _ => (de_ix (de_var 1) de_int)))))

abbrev s_row_of : Stmt := topS 15
abbrev N_row_of : List Str := ["book", "land", "row"]
theorem sc_row_of : FnScope N_row_of ["book", "land"] (defScope s_row_of) := ⟨rfl, rfl, rfl, by decide +kernel, rfl, by decide +kernel, by decide +kernel⟩
theorem ok_row_of {P : Program} {w : World} {K : PySem.W.Frag} {mg : Str → Option Value} {base : Heap} {f : Addr} {fd : FuncData} (F : Fun K "row_of" "row_of" s_row_of f fd)  :
    FnOk P w K mg base (L2.CX P w) 1 f fd ["book", "land"] (spA K mg 2 S_row_of) := by
  refine fn_mk (den := den_row_of) F sc_row_of (fun cdv A outer s H E B hr tk => ?_) (bo_row_of N_row_of rfl)
  have nd := sc_row_of.nd
  exact (dss_one (ds_ret (de_ix (de_lc (own := [("row", 2)]) (t := (.nm 2)) rfl nd (di_any (de_ix (de_var 0) de_int)) (blkOk_by (N := N_row_of) (sc := defScope s_row_of) (by decide +kernel)) (by decide) (fun _ _ _ _ _ => (gt_name (i := 2) nd rfl (Or.inl rfl))) (fun _ _ _ _ _ => (dts_one (dt_cmp (or_eq hr.units) ol_eq (de_ix (de_var 2) de_int) (de_var 1)))) (fun _ _ _ _ _ => (de_var 2))) de_int)))

abbrev s_takes : Stmt := topS 16
abbrev N_takes : List Str := ["book", "land", "taker", "giver"]
theorem sc_takes : FnScope N_takes ["book", "land"] (defScope s_takes) := ⟨rfl, rfl, rfl, by decide +kernel, rfl, by decide +kernel, by decide +kernel⟩
theorem ok_takes {P : Program} {w : World} {K : PySem.W.Frag} {mg : Str → Option Value} {base : Heap} {f : Addr} {fd : FuncData} (F : Fun K "takes" "takes" s_takes f fd) (m_sorted : mg "sorted" = none) (m_tuple : mg "tuple" = none) :
    FnOk P w K mg base (L2.CX P w) 1 f fd ["book", "land"] (spA K mg 2 S_takes) := by
  refine fn_mk (den := den_takes) F sc_takes (fun cdv A outer s H E B hr tk => ?_) (bo_takes N_takes rfl)
  have nd := sc_takes.nd
  exact (dss_one (ds_ret (de_callTy call_tuple_of cl_tuple rfl m_tuple bt_tuple (da_cons (de_callB cr_sortedAll cl_sorted rfl m_sorted bt_sorted (da_cons (de_op or_add ol_add (de_lst (da_cons (de_var 1) da_nil)) (de_lc (own := [("taker", 2), ("giver", 3)]) (t := (.tp [(.nm 2), (.nm 3)])) rfl nd (di_any (de_ix (de_var 0) de_int)) (blkOk_by (N := N_takes) (sc := defScope s_takes) (by decide +kernel)) (by decide) (fun _ _ _ _ _ => (gt_tup rfl (gts_cons (gt_name (i := 2) nd rfl (Or.inl rfl)) (gts_cons (gt_name (i := 3) nd rfl (Or.inl rfl)) gts_nil)))) (fun _ _ _ _ _ => (dts_one (dt_cmp (or_eq hr.units) ol_eq (de_var 2) (de_var 1)))) (fun _ _ _ _ _ => (de_var 3)))) da_nil)) da_nil))))

abbrev s_worth_of : Stmt := topS 17
abbrev N_worth_of : List Str := ["heap", "things", "n"]
theorem sc_worth_of : FnScope N_worth_of ["heap", "things"] (defScope s_worth_of) := ⟨rfl, rfl, rfl, by decide +kernel, rfl, by decide +kernel, by decide +kernel⟩
theorem ok_worth_of {P : Program} {w : World} {K : PySem.W.Frag} {mg : Str → Option Value} {base : Heap} {f : Addr} {fd : FuncData} (F : Fun K "worth_of" "worth_of" s_worth_of f fd) (m_sum : mg "sum" = none) :
    FnOk P w K mg base (L2.CX P w) 1 f fd ["heap", "things"] (spA K mg 2 S_worth_of) := by
  refine fn_mk (den := den_worth_of) F sc_worth_of (fun cdv A outer s H E B hr tk => ?_) (bo_worth_of N_worth_of rfl)
  have nd := sc_worth_of.nd
  exact (dss_one (ds_ret (de_callB (cr_sum rfl) cl_sum rfl m_sum bt_sum (da_cons (de_lc (own := [("n", 2)]) (t := (.nm 2)) rfl nd (di_any (de_var 1)) (blkOk_by (N := N_worth_of) (sc := defScope s_worth_of) (by decide +kernel)) (by decide) (fun _ _ _ _ _ => (gt_name (i := 2) nd rfl (Or.inl rfl))) (fun _ _ _ _ _ => dts_nil) (fun _ _ _ _ _ => (de_ix (de_ix (de_var 0) (de_var 2)) de_int))) da_nil))))

abbrev s_bits_of : Stmt := topS 20
abbrev N_bits_of : List Str := ["things", "n"]
theorem sc_bits_of : FnScope N_bits_of ["things"] (defScope s_bits_of) := ⟨rfl, rfl, rfl, by decide +kernel, rfl, by decide +kernel, by decide +kernel⟩
theorem ok_bits_of {P : Program} {w : World} {K : PySem.W.Frag} {mg : Str → Option Value} {base : Heap} {f : Addr} {fd : FuncData} (F : Fun K "bits_of" "bits_of" s_bits_of f fd) (m_sum : mg "sum" = none) :
    FnOk P w K mg base (L2.CX P w) 1 f fd ["things"] (spA K mg 1 S_bits_of) := by
  refine fn_mk (den := den_bits_of) F sc_bits_of (fun cdv A outer s H E B hr tk => ?_) (bo_bits_of N_bits_of rfl)
  have nd := sc_bits_of.nd
  exact (dss_one (ds_ret (de_callB (cr_sum rfl) cl_sum rfl m_sum bt_sum (da_cons (de_lc (own := [("n", 1)]) (t := (.nm 1)) rfl nd (di_any (de_var 0)) (blkOk_by (N := N_bits_of) (sc := defScope s_bits_of) (by decide +kernel)) (by decide) (fun _ _ _ _ _ => (gt_name (i := 1) nd rfl (Or.inl rfl))) (fun _ _ _ _ _ => dts_nil) (fun _ _ _ _ _ => (de_op op_shl ol_I de_int (de_var 1)))) da_nil))))

abbrev s_set_of : Stmt := topS 21
abbrev N_set_of : List Str := ["bits", "n"]
theorem sc_set_of : FnScope N_set_of ["bits"] (defScope s_set_of) := ⟨rfl, rfl, rfl, by decide +kernel, rfl, by decide +kernel, by decide +kernel⟩
theorem ok_set_of {P : Program} {w : World} {K : PySem.W.Frag} {mg : Str → Option Value} {base : Heap} {f : Addr} {fd : FuncData} (F : Fun K "set_of" "set_of" s_set_of f fd) (m_range : mg "range" = none) (m_tuple : mg "tuple" = none) :
    FnOk P w K mg base (L2.CX P w) 1 f fd ["bits"] (spA K mg 1 S_set_of) := by
  refine fn_mk (den := den_set_of) F sc_set_of (fun cdv A outer s H E B hr tk => ?_) (bo_set_of N_set_of rfl)
  have nd := sc_set_of.nd
  exact (dss_one (ds_ret (de_callTy call_tuple_of cl_tuple rfl m_tuple bt_tuple (da_cons (de_lc (own := [("n", 1)]) (t := (.nm 1)) rfl nd (di_range1 rfl m_range (da_cons de_int da_nil)) (blkOk_by (N := N_set_of) (sc := defScope s_set_of) (by decide +kernel)) (by decide) (fun _ _ _ _ _ => (gt_name (i := 1) nd rfl (Or.inl rfl))) (fun _ _ _ _ _ => (dts_one (dt_truth (de_op op_and ol_I0 (de_op op_shr ol_I (de_var 0) (de_var 1)) de_int)))) (fun _ _ _ _ _ => (de_var 1))) da_nil))))

abbrev s_parts_of : Stmt := topS 22
abbrev N_parts_of : List Str := ["bits", "found", "part"]
theorem sc_parts_of : FnScope N_parts_of ["bits"] (defScope s_parts_of) := ⟨rfl, rfl, rfl, by decide +kernel, rfl, by decide +kernel, by decide +kernel⟩
theorem ok_parts_of {P : Program} {w : World} {K : PySem.W.Frag} {mg : Str → Option Value} {base : Heap} {f : Addr} {fd : FuncData} (F : Fun K "parts_of" "parts_of" s_parts_of f fd)  :
    FnOk P w K mg base (L2.CX P w) 1 f fd ["bits"] (spA K mg 1 S_parts_of) := by
  refine fn_mk (den := den_parts_of) F sc_parts_of (fun cdv A outer s H E B hr tk => ?_) (bo_parts_of N_parts_of rfl)
  have nd := sc_parts_of.nd
  exact (dss_cons (ds_par2 (i := 1) (j := 2) rfl nd rfl rfl (by decide) rfl rfl (da_cons (de_lstH da_nil) (da_cons (de_var 0) da_nil))) (dss_cons (ds_while (passes_of rfl) (dt_truth (de_var 2)) (dss_cons (ds_expr (de_bm PySem.F.plainAttrs_list PySem.F.slot_list_append PySem.F.type_list_append mt_append ml_append (de_var 1) (da_cons (de_var 2) da_nil))) (dss_one (ds_set (i := 2) nd rfl (Or.inl rfl) (de_op op_and ol_I0 (de_op op_sub ol_I0 (de_var 2) de_int) (de_var 0)))))) (dss_one (ds_ret (de_var 1)))))

abbrev s__law_is : Stmt := topS 29
abbrev N__law_is : List Str := ["told", "due"]
theorem sc__law_is : FnScope N__law_is ["told", "due"] (defScope s__law_is) := ⟨rfl, rfl, rfl, by decide +kernel, rfl, by decide +kernel, by decide +kernel⟩
theorem ok__law_is {P : Program} {w : World} {K : PySem.W.Frag} {mg : Str → Option Value} {base : Heap} {f : Addr} {fd : FuncData} (F : Fun K "_law_is" "_law_is" s__law_is f fd) (m_bool : mg "bool" = none) (m_isinstance : mg "isinstance" = none) :
    FnOk P w K mg base (L2.CX P w) 1 f fd ["told", "due"] (spA K mg 2 S__law_is) := by
  refine fn_mk (den := den__law_is) F sc__law_is (fun cdv A outer s H E B hr tk => ?_) (bo__law_is N__law_is rfl)
  have nd := sc__law_is.nd
  exact (dss_one (ds_ret (de_and (de_callB call_isi cl_isi rfl m_isinstance bt_isinstance (da_cons (de_var 0) (da_cons (de_ty rfl m_bool bt_bool) da_nil))) (de_one (de_cmp (or_eq hr.units) ol_eq (de_var 0) (de_var 1))))))

abbrev s__law_draw : Stmt := topS 30
abbrev N__law_draw : List Str := ["script", "town", "many", "at", "rest", "number"]
theorem sc__law_draw : FnScope N__law_draw ["script", "town", "many"] (defScope s__law_draw) := ⟨rfl, rfl, rfl, by decide +kernel, rfl, by decide +kernel, by decide +kernel⟩
theorem ok__law_draw {P : Program} {w : World} {K : PySem.W.Frag} {mg : Str → Option Value} {base : Heap} {f : Addr} {fd : FuncData} (F : Fun K "_law_draw" "_law_draw" s__law_draw f fd) (m_len : mg "len" = none) :
    FnOk P w K mg base (L2.CX P w) 1 f fd ["script", "town", "many"] (spA K mg 3 S__law_draw) := by
  refine fn_mk (den := den__law_draw) F sc__law_draw (fun cdv A outer s H E B hr tk => ?_) (bo__law_draw N__law_draw rfl)
  have nd := sc__law_draw.nd
  have hu := hu_of hr
  exact (dss_cons (ds_dput hu (de_var 1) de_str (de_op or_add ol_add (de_dget hu (de_var 1) de_str) de_int)) (dss_cons (ds_set (i := 3) nd rfl (Or.inl rfl) (de_if (dt_truth (de_var 0)) (de_op op_mod ol_I (de_dget hu (de_var 1) de_str) (de_callB call_len cl_len rfl m_len bt_len (da_cons (de_var 0) da_nil))) de_int)) (dss_cons (ds_set (i := 4) nd rfl (Or.inl rfl) (de_dget2 hu (de_dget hu (de_var 1) de_str) (de_var 3) (de_if (dt_truth (de_var 0)) (de_ix (de_var 0) (de_var 3)) de_int) ⟨rfl, rfl, rfl, rfl⟩)) (dss_cons (ds_if (dt_cmp op_ge ol_B0 (de_var 4) (de_op op_pow ol_I de_int de_int)) (dss_cons (ds_dput hu (de_dget hu (de_var 1) de_str) (de_var 3) (de_op op_fdiv ol_I (de_var 4) (de_var 2))) (dss_one (ds_ret (de_op op_mod ol_I (de_var 4) (de_var 2))))) dss_nil) (dss_cons (ds_set (i := 5) nd rfl (Or.inl rfl) (de_op op_mod ol_I (de_op or_add ol_add (de_var 4) (de_op or_mul ol_mul de_int (de_dget hu (de_var 1) de_str))) de_int)) (dss_cons (ds_set (i := 5) nd rfl (Or.inl rfl) (de_op op_mod ol_I (de_op op_pow ol_I (de_var 5) de_int) de_int)) (dss_one (ds_ret (de_op op_mod ol_I (de_op op_fdiv ol_I (de_op op_mod ol_I (de_op or_add ol_add (de_op or_mul ol_mul (de_op op_fdiv ol_I (de_var 5) de_int) de_int) (de_var 5)) de_int) de_int) (de_var 2))))))))))

abbrev s__law_begun : Stmt := topS 31
abbrev N__law_begun : List Str := []
theorem sc__law_begun : FnScope N__law_begun [] (defScope s__law_begun) := ⟨rfl, rfl, rfl, by decide +kernel, rfl, by decide +kernel, by decide +kernel⟩
theorem ok__law_begun {P : Program} {w : World} {K : PySem.W.Frag} {mg : Str → Option Value} {base : Heap} {f : Addr} {fd : FuncData} (F : Fun K "_law_begun" "_law_begun" s__law_begun f fd)  :
    FnOk P w K mg base (L2.CX P w) 1 f fd [] (spA K mg 0 S__law_begun) := by
  refine fn_mk (den := den__law_begun) F sc__law_begun (fun cdv A outer s H E B hr tk => ?_) (bo__law_begun N__law_begun rfl)
  have nd := sc__law_begun.nd
  exact (dss_one (ds_ret (de_disp (ps := [((dC (.str "count")), (dC (.int 0))), ((dC (.str "rests")), dNewK)]) (pps_cons de_str de_int (pps_cons de_str de_dnewK pps_nil)))))

abbrev s__law_row : Stmt := topS 34
abbrev N__law_row : List Str := ["book", "land_here", "row"]
theorem sc__law_row : FnScope N__law_row ["book", "land_here"] (defScope s__law_row) := ⟨rfl, rfl, rfl, by decide +kernel, rfl, by decide +kernel, by decide +kernel⟩
theorem ok__law_row {P : Program} {w : World} {K : PySem.W.Frag} {mg : Str → Option Value} {base : Heap} {f : Addr} {fd : FuncData} (F : Fun K "_law_row" "_law_row" s__law_row f fd)  :
    FnOk P w K mg base (L2.CX P w) 1 f fd ["book", "land_here"] (spA K mg 2 S__law_row) := by
  refine fn_mk (den := den__law_row) F sc__law_row (fun cdv A outer s H E B hr tk => ?_) (bo__law_row N__law_row rfl)
  have nd := sc__law_row.nd
  exact (dss_one (ds_ret (de_ix (de_lc (own := [("row", 2)]) (t := (.nm 2)) rfl nd (di_any (de_ix (de_var 0) de_int)) (blkOk_by (N := N__law_row) (sc := defScope s__law_row) (by decide +kernel)) (by decide) (fun _ _ _ _ _ => (gt_name (i := 2) nd rfl (Or.inl rfl))) (fun _ _ _ _ _ => (dts_one (dt_cmp (or_eq hr.units) ol_eq (de_ix (de_var 2) de_int) (de_var 1)))) (fun _ _ _ _ _ => (de_var 2))) de_int)))

abbrev s__law_takes : Stmt := topS 35
abbrev N__law_takes : List Str := ["book", "land_here", "pact"]
theorem sc__law_takes : FnScope N__law_takes ["book", "land_here"] (defScope s__law_takes) := ⟨rfl, rfl, rfl, by decide +kernel, rfl, by decide +kernel, by decide +kernel⟩
theorem ok__law_takes {P : Program} {w : World} {K : PySem.W.Frag} {mg : Str → Option Value} {base : Heap} {f : Addr} {fd : FuncData} (F : Fun K "_law_takes" "_law_takes" s__law_takes f fd) (m_sorted : mg "sorted" = none) :
    FnOk P w K mg base (L2.CX P w) 1 f fd ["book", "land_here"] (spA K mg 2 S__law_takes) := by
  refine fn_mk (den := den__law_takes) F sc__law_takes (fun cdv A outer s H E B hr tk => ?_) (bo__law_takes N__law_takes rfl)
  have nd := sc__law_takes.nd
  exact (dss_one (ds_ret (de_callB cr_sortedAll cl_sorted rfl m_sorted bt_sorted (da_cons (de_op or_add ol_add (de_lst (da_cons (de_var 1) da_nil)) (de_lc (own := [("pact", 2)]) (t := (.nm 2)) rfl nd (di_any (de_ix (de_var 0) de_int)) (blkOk_by (N := N__law_takes) (sc := defScope s__law_takes) (by decide +kernel)) (by decide) (fun _ _ _ _ _ => (gt_name (i := 2) nd rfl (Or.inl rfl))) (fun _ _ _ _ _ => (dts_one (dt_cmp (or_eq hr.units) ol_eq (de_ix (de_var 2) de_int) (de_var 1)))) (fun _ _ _ _ _ => (de_ix (de_var 2) de_int)))) da_nil))))

abbrev s_look_land : Stmt := topS 14
abbrev N_look_land : List Str := ["book", "land"]
theorem sc_look_land : FnScope N_look_land ["book", "land"] (defScope s_look_land) := ⟨rfl, rfl, rfl, by decide +kernel, rfl, by decide +kernel, by decide +kernel⟩
theorem ok_look_land {P : Program} {w : World} {K : PySem.W.Frag} {mg : Str → Option Value} {base : Heap} {f : Addr} {fd : FuncData} (F : Fun K "look_land" "look_land" s_look_land f fd) (m_isinstance : mg "isinstance" = none) (m_str : mg "str" = none) (F_names_of : FnR P w K mg base 1 "names_of" 1 S_names_of) (x_NoLand : XcR K mg "NoLand") :
    FnOk P w K mg base (L2.CX P w) 2 f fd ["book", "land"] (spA K mg 2 S_look_land) := by
  refine fn_mk (den := den_look_land) F sc_look_land (fun cdv A outer s H E B hr tk => ?_) (bo_look_land N_look_land rfl)
  have nd := sc_look_land.nd
  exact (dss_one (ds_if (dt_w (dw_or (dt_not (dt_truth (de_callB call_isi cl_isi rfl m_isinstance bt_isinstance (da_cons (de_var 1) (da_cons (de_ty rfl m_str bt_str) da_nil))))) (dw_or1 (dt_cmp op_notIn_seq ol_notIn (de_var 1) (de_call (F_names_of.at hr) tk (da_cons (de_var 0) da_nil)))))) (dss_one (ds_raise x_NoLand tk)) dss_nil))

abbrev s_is_enough : Stmt := topS 18
abbrev N_is_enough : List Str := ["book", "land", "counting", "whole", "name", "part", "parts", "price"]
theorem sc_is_enough : FnScope N_is_enough ["book", "land", "counting", "whole"] (defScope s_is_enough) := ⟨rfl, rfl, rfl, by decide +kernel, rfl, by decide +kernel, by decide +kernel⟩
theorem ok_is_enough {P : Program} {w : World} {K : PySem.W.Frag} {mg : Str → Option Value} {base : Heap} {f : Addr} {fd : FuncData} (F : Fun K "is_enough" "is_enough" s_is_enough f fd) (F_row_of : FnR P w K mg base 1 "row_of" 2 S_row_of) :
    FnOk P w K mg base (L2.CX P w) 2 f fd ["book", "land", "counting", "whole"] (spA K mg 4 S_is_enough) := by
  refine fn_mk (den := den_is_enough) F sc_is_enough (fun cdv A outer s H E B hr tk => ?_) (bo_is_enough N_is_enough rfl)
  have nd := sc_is_enough.nd
  exact (dss_cons (ds_asg (t := (.tp [(.nm 4), (.nm 5), (.nm 6), (.nm 7)])) (de_call (F_row_of.at hr) tk (da_cons (de_var 0) (da_cons (de_var 1) da_nil))) (gt_tup rfl (gts_cons (gt_name (i := 4) nd rfl (Or.inl rfl)) (gts_cons (gt_name (i := 5) nd rfl (Or.inl rfl)) (gts_cons (gt_name (i := 6) nd rfl (Or.inl rfl)) (gts_cons (gt_name (i := 7) nd rfl (Or.inl rfl)) gts_nil)))))) (dss_one (ds_ret (de_cmp op_ge ol_B0 (de_op or_mul ol_mul (de_var 2) (de_var 6)) (de_op or_mul ol_mul (de_var 3) (de_var 5))))))

abbrev s_Table_join : Stmt := inClass (topS 23) 2
abbrev N_Table_join : List Str := ["self", "land", "bits", "low", "part", "rest", "one"]
theorem sc_Table_join : FnScope N_Table_join ["self", "land", "bits"] (defScope s_Table_join) := ⟨rfl, rfl, rfl, by decide +kernel, rfl, by decide +kernel, by decide +kernel⟩
theorem ok_Table_join {P : Program} {w : World} {K : PySem.W.Frag} {mg : Str → Option Value} {base : Heap} {f : Addr} {fd : FuncData} (F : Fun K "join" "Table.join" s_Table_join f fd) {G : Gx} (m_any : mg "any" = none) (F_parts_of : FnR P w K mg base 1 "parts_of" 1 S_parts_of) (cl_Table : Cls K (G.C "Table")) (na_Table_good : NoAttr K (G.C "Table") "good") (na_Table_joined : NoAttr K (G.C "Table") "joined") (na_Table_taken : NoAttr K (G.C "Table") "taken") :
    FnOk P w K mg base (L2.CX P w) 2 f fd ["self", "land", "bits"] (spA K mg 3 (S_Table_join G)) := by
  refine fn_mk (den := (den_Table_join G)) F sc_Table_join (fun cdv A outer s H E B hr tk => ?_) (bo_Table_join G N_Table_join rfl)
  have nd := sc_Table_join.nd
  have hu := hu_of hr
  exact (dss_cons (ds_set (i := 3) nd rfl (Or.inl rfl) (de_op op_and ol_I0 (de_var 2) (de_un un_neg ul_neg (de_var 2)))) (dss_one (ds_for (t := (.nm 4)) (passes_of rfl) rfl (di_any (de_call (F_parts_of.at hr) tk (da_cons (de_var 2) da_nil))) (gt_name (i := 4) nd rfl (Or.inr rfl)) (dss_cons (ds_set (i := 5) nd rfl (Or.inl rfl) (de_op op_xor ol_I0 (de_var 2) (de_var 4))) (dss_one (ds_if (dt_w (dw_and (dt_truth (de_op op_and ol_I0 (de_var 4) (de_var 3))) (dw_and1 (dt_w (dw_or (dt_not (dt_truth (de_var 5))) (dw_or1 (dt_din hu (de_var 5) (de_dget hu (de_fld cl_Table na_Table_joined (de_var 0)) (de_var 1))))))))) (dss_one (ds_if (dt_truth (de_callB (cr_any rfl) cl_any rfl m_any bt_any (da_cons (de_lc (own := [("one", 6)]) (t := (.nm 6)) rfl nd (di_any (de_dget hu (de_fld cl_Table na_Table_taken (de_var 0)) (de_var 1))) (blkOk_by (N := N_Table_join) (sc := defScope s_Table_join) (by decide +kernel)) (by decide) (fun _ _ _ _ _ => (gt_name (i := 6) nd rfl (Or.inl rfl))) (fun _ _ _ _ _ => dts_nil) (fun _ _ _ _ _ => (de_din hu (de_var 4) (de_dget hu (de_fld cl_Table na_Table_good (de_var 0)) (de_var 6))))) da_nil))) (dss_cons (ds_dput hu (de_dget hu (de_fld cl_Table na_Table_joined (de_var 0)) (de_var 1)) (de_var 2) de_bl) (dss_one ds_retN)) dss_nil)) dss_nil))))))

abbrev s__law_a_book : Stmt := topS 32
abbrev N__law_a_book : List Str := ["script", "town", "names", "lands", "pacts", "name", "parts", "taker", "giver"]
theorem sc__law_a_book : FnScope N__law_a_book ["script", "town"] (defScope s__law_a_book) := ⟨rfl, rfl, rfl, by decide +kernel, rfl, by decide +kernel, by decide +kernel⟩
theorem ok__law_a_book {P : Program} {w : World} {K : PySem.W.Frag} {mg : Str → Option Value} {base : Heap} {f : Addr} {fd : FuncData} (F : Fun K "_law_a_book" "_law_a_book" s__law_a_book f fd) (m_tuple : mg "tuple" = none) (F__law_draw : FnR P w K mg base 1 "_law_draw" 3 S__law_draw) :
    FnOk P w K mg base (L2.CX P w) 2 f fd ["script", "town"] (spA K mg 2 S__law_a_book) := by
  refine fn_mk (den := den__law_a_book) F sc__law_a_book (fun cdv A outer s H E B hr tk => ?_) (bo__law_a_book N__law_a_book rfl)
  have nd := sc__law_a_book.nd
  exact (dss_cons (ds_par3 (i := 2) (j := 3) (l := 4) rfl nd rfl rfl rfl (by decide) (by decide) (by decide) rfl rfl rfl (da_cons (de_slice (de_tup (da_cons de_str (da_cons de_str (da_cons de_str da_nil)))) do_none (do_some (de_op or_add ol_add de_int (de_call (F__law_draw.at hr) tk (da_cons (de_var 0) (da_cons (de_var 1) (da_cons de_int da_nil))))))) (da_cons (de_lstH da_nil) (da_cons (de_lstH da_nil) da_nil)))) (dss_cons (ds_for (t := (.nm 5)) (passes_of rfl) rfl (di_any (de_var 2)) (gt_name (i := 5) nd rfl (Or.inl rfl)) (dss_cons (ds_set (i := 6) nd rfl (Or.inl rfl) (de_op or_add ol_add de_int (de_call (F__law_draw.at hr) tk (da_cons (de_var 0) (da_cons (de_var 1) (da_cons de_int da_nil)))))) (dss_one (ds_expr (de_bm PySem.F.plainAttrs_list PySem.F.slot_list_append PySem.F.type_list_append mt_append ml_append (de_var 3) (da_cons (de_tup (da_cons (de_var 5) (da_cons (de_op or_add ol_add de_int (de_call (F__law_draw.at hr) tk (da_cons (de_var 0) (da_cons (de_var 1) (da_cons (de_var 6) da_nil))))) (da_cons (de_var 6) (da_cons (de_call (F__law_draw.at hr) tk (da_cons (de_var 0) (da_cons (de_var 1) (da_cons de_int da_nil)))) da_nil))))) da_nil)))))) (dss_cons (ds_for (t := (.nm 7)) (passes_of rfl) rfl (di_any (de_var 2)) (gt_name (i := 7) nd rfl (Or.inl rfl)) (dss_one (ds_for (t := (.nm 8)) (passes_of rfl) rfl (di_any (de_var 2)) (gt_name (i := 8) nd rfl (Or.inl rfl)) (dss_one (ds_if (dt_w (dw_and (dt_cmp (or_ne hr.units) ol_ne (de_var 7) (de_var 8)) (dw_and1 (dt_cmp (or_eq hr.units) ol_eq (de_call (F__law_draw.at hr) tk (da_cons (de_var 0) (da_cons (de_var 1) (da_cons de_int da_nil)))) de_int)))) (dss_one (ds_expr (de_bm PySem.F.plainAttrs_list PySem.F.slot_list_append PySem.F.type_list_append mt_append ml_append (de_var 4) (da_cons (de_tup (da_cons (de_var 7) (da_cons (de_var 8) da_nil))) da_nil)))) dss_nil))))) (dss_one (ds_ret (de_tup (da_cons (de_callTy call_tuple_of cl_tuple rfl m_tuple bt_tuple (da_cons (de_var 3) da_nil)) (da_cons (de_callTy call_tuple_of cl_tuple rfl m_tuple bt_tuple (da_cons (de_var 4) da_nil)) da_nil))))))))

abbrev s__law_a_heap : Stmt := topS 33
abbrev N__law_a_heap : List Str := ["script", "town", "book", "most", "found", "names", "k", "worth", "land_here"]
theorem sc__law_a_heap : FnScope N__law_a_heap ["script", "town", "book", "most"] (defScope s__law_a_heap) := ⟨rfl, rfl, rfl, by decide +kernel, rfl, by decide +kernel, by decide +kernel⟩
theorem ok__law_a_heap {P : Program} {w : World} {K : PySem.W.Frag} {mg : Str → Option Value} {base : Heap} {f : Addr} {fd : FuncData} (F : Fun K "_law_a_heap" "_law_a_heap" s__law_a_heap f fd) (m_len : mg "len" = none) (m_range : mg "range" = none) (m_tuple : mg "tuple" = none) (F__law_draw : FnR P w K mg base 1 "_law_draw" 3 S__law_draw) :
    FnOk P w K mg base (L2.CX P w) 2 f fd ["script", "town", "book", "most"] (spA K mg 4 S__law_a_heap) := by
  refine fn_mk (den := den__law_a_heap) F sc__law_a_heap (fun cdv A outer s H E B hr tk => ?_) (bo__law_a_heap N__law_a_heap rfl)
  have nd := sc__law_a_heap.nd
  exact (dss_cons (ds_par2 (i := 4) (j := 5) rfl nd rfl rfl (by decide) rfl rfl (da_cons (de_lstH da_nil) (da_cons (de_lc (own := [("land_here", 8)]) (t := (.nm 8)) rfl nd (di_any (de_ix (de_var 2) de_int)) (blkOk_by (N := N__law_a_heap) (sc := defScope s__law_a_heap) (by decide +kernel)) (by decide) (fun _ _ _ _ _ => (gt_name (i := 8) nd rfl (Or.inl rfl))) (fun _ _ _ _ _ => dts_nil) (fun _ _ _ _ _ => (de_ix (de_var 8) de_int))) da_nil))) (dss_cons (ds_for (t := (.nm 6)) (passes_of rfl) rfl (di_range1 rfl m_range (da_cons (de_op or_add ol_add de_int (de_call (F__law_draw.at hr) tk (da_cons (de_var 0) (da_cons (de_var 1) (da_cons (de_var 3) da_nil))))) da_nil)) (gt_name (i := 6) nd rfl (Or.inl rfl)) (dss_cons (ds_set (i := 7) nd rfl (Or.inl rfl) (de_op or_add ol_add de_int (de_call (F__law_draw.at hr) tk (da_cons (de_var 0) (da_cons (de_var 1) (da_cons (de_ix (de_lst (da_cons de_int (da_cons de_int da_nil))) (de_call (F__law_draw.at hr) tk (da_cons (de_var 0) (da_cons (de_var 1) (da_cons de_int da_nil))))) da_nil)))))) (dss_one (ds_expr (de_bm PySem.F.plainAttrs_list PySem.F.slot_list_append PySem.F.type_list_append mt_append ml_append (de_var 4) (da_cons (de_tup (da_cons (de_var 7) (da_cons (de_ix (de_op or_add ol_add (de_op or_add ol_add (de_var 5) (de_var 5)) (de_lst (da_cons de_non da_nil))) (de_call (F__law_draw.at hr) tk (da_cons (de_var 0) (da_cons (de_var 1) (da_cons (de_op or_add ol_add (de_op or_mul ol_mul de_int (de_callB call_len cl_len rfl m_len bt_len (da_cons (de_var 5) da_nil))) de_int) da_nil))))) da_nil))) da_nil)))))) (dss_one (ds_ret (de_callTy call_tuple_of cl_tuple rfl m_tuple bt_tuple (da_cons (de_var 4) da_nil))))))

abbrev s__law_has_share : Stmt := topS 36
abbrev N__law_has_share : List Str := ["book", "land_here", "counting", "whole", "row"]
theorem sc__law_has_share : FnScope N__law_has_share ["book", "land_here", "counting", "whole"] (defScope s__law_has_share) := ⟨rfl, rfl, rfl, by decide +kernel, rfl, by decide +kernel, by decide +kernel⟩
theorem ok__law_has_share {P : Program} {w : World} {K : PySem.W.Frag} {mg : Str → Option Value} {base : Heap} {f : Addr} {fd : FuncData} (F : Fun K "_law_has_share" "_law_has_share" s__law_has_share f fd) (F__law_row : FnR P w K mg base 1 "_law_row" 2 S__law_row) :
    FnOk P w K mg base (L2.CX P w) 2 f fd ["book", "land_here", "counting", "whole"] (spA K mg 4 S__law_has_share) := by
  refine fn_mk (den := den__law_has_share) F sc__law_has_share (fun cdv A outer s H E B hr tk => ?_) (bo__law_has_share N__law_has_share rfl)
  have nd := sc__law_has_share.nd
  exact (dss_cons (ds_set (i := 4) nd rfl (Or.inl rfl) (de_call (F__law_row.at hr) tk (da_cons (de_var 0) (da_cons (de_var 1) da_nil)))) (dss_one (ds_ret (de_cmp op_ge ol_B0 (de_op or_mul ol_mul (de_var 2) (de_ix (de_var 4) de_int)) (de_op or_mul ol_mul (de_var 3) (de_ix (de_var 4) de_int))))))

abbrev s_Table_can_be_made : Stmt := inClass (topS 23) 3
abbrev N_Table_can_be_made : List Str := ["self", "land", "bits", "whole", "part"]
theorem sc_Table_can_be_made : FnScope N_Table_can_be_made ["self", "land", "bits"] (defScope s_Table_can_be_made) := ⟨rfl, rfl, rfl, by decide +kernel, rfl, by decide +kernel, by decide +kernel⟩
theorem ok_Table_can_be_made {P : Program} {w : World} {K : PySem.W.Frag} {mg : Str → Option Value} {base : Heap} {f : Addr} {fd : FuncData} (F : Fun K "can_be_made" "Table.can_be_made" s_Table_can_be_made f fd) {G : Gx} (F_is_enough : FnR P w K mg base 2 "is_enough" 4 S_is_enough) (F_parts_of : FnR P w K mg base 1 "parts_of" 1 S_parts_of) (cl_Table : Cls K (G.C "Table")) (na_Table_book : NoAttr K (G.C "Table") "book") (na_Table_joined : NoAttr K (G.C "Table") "joined") (na_Table_weights : NoAttr K (G.C "Table") "weights") :
    FnOk P w K mg base (L2.CX P w) 3 f fd ["self", "land", "bits"] (spA K mg 3 (S_Table_can_be_made G)) := by
  refine fn_mk (den := (den_Table_can_be_made G)) F sc_Table_can_be_made (fun cdv A outer s H E B hr tk => ?_) (bo_Table_can_be_made G N_Table_can_be_made rfl)
  have nd := sc_Table_can_be_made.nd
  have hu := hu_of hr
  exact (dss_cons (ds_set (i := 3) nd rfl (Or.inl rfl) (de_ix (de_fld cl_Table na_Table_weights (de_var 0)) (de_var 2))) (dss_cons (ds_for (t := (.nm 4)) (passes_of rfl) rfl (di_any (de_call (F_parts_of.at hr) tk (da_cons (de_var 2) da_nil))) (gt_name (i := 4) nd rfl (Or.inl rfl)) (dss_one (ds_if (dt_w (dw_and (dt_din hu (de_var 4) (de_dget hu (de_fld cl_Table na_Table_joined (de_var 0)) (de_var 1))) (dw_and1 (dt_truth (de_call (F_is_enough.at hr) tk (da_cons (de_fld cl_Table na_Table_book (de_var 0)) (da_cons (de_var 1) (da_cons (de_ix (de_fld cl_Table na_Table_weights (de_var 0)) (de_var 4)) (da_cons (de_var 3) da_nil))))))))) (dss_one (ds_ret de_bl)) dss_nil))) (dss_one (ds_ret de_bl))))

abbrev s_Table_fill : Stmt := inClass (topS 23) 1
abbrev N_Table_fill : List Str := ["self", "bits", "things", "fresh", "land", "other"]
theorem sc_Table_fill : FnScope N_Table_fill ["self", "bits"] (defScope s_Table_fill) := ⟨rfl, rfl, rfl, by decide +kernel, rfl, by decide +kernel, by decide +kernel⟩
theorem ok_Table_fill {P : Program} {w : World} {K : PySem.W.Frag} {mg : Str → Option Value} {base : Heap} {f : Addr} {fd : FuncData} (F : Fun K "fill" "Table.fill" s_Table_fill f fd) {G : Gx} (m_len : mg "len" = none) (F_set_of : FnR P w K mg base 1 "set_of" 1 S_set_of) (cl_Table : Cls K (G.C "Table")) (na_Table_good : NoAttr K (G.C "Table") "good") (na_Table_heap : NoAttr K (G.C "Table") "heap") (na_Table_names : NoAttr K (G.C "Table") "names") (M_Table_can_be_made : MtR P w K mg base 3 (G.C "Table") "can_be_made" 3 (S_Table_can_be_made G)) (M_Table_join : MtR P w K mg base 2 (G.C "Table") "join" 3 (S_Table_join G)) :
    FnOk P w K mg base (L2.CX P w) 4 f fd ["self", "bits"] (spA K mg 2 (S_Table_fill G)) := by
  refine fn_mk (den := (den_Table_fill G)) F sc_Table_fill (fun cdv A outer s H E B hr tk => ?_) (bo_Table_fill G N_Table_fill rfl)
  have nd := sc_Table_fill.nd
  have hu := hu_of hr
  exact (dss_cons (ds_par2 (i := 2) (j := 3) rfl nd rfl rfl (by decide) rfl rfl (da_cons (de_call (F_set_of.at hr) tk (da_cons (de_var 1) da_nil)) (da_cons de_bl da_nil))) (dss_cons (ds_if (dt_w (dw_and (dt_cmp (or_eq hr.units) ol_eq (de_callB call_len cl_len rfl m_len bt_len (da_cons (de_var 2) da_nil)) de_int) (dw_and1 (dt_cmp op_notN ol_notN (de_ix (de_ix (de_fld cl_Table na_Table_heap (de_var 0)) (de_ix (de_var 2) de_int)) de_int) de_non)))) (dss_one (ds_dput hu (de_dget hu (de_fld cl_Table na_Table_good (de_var 0)) (de_ix (de_ix (de_fld cl_Table na_Table_heap (de_var 0)) (de_ix (de_var 2) de_int)) de_int)) (de_var 1) de_bl)) dss_nil) (dss_cons (ds_for (t := (.nm 4)) (passes_of rfl) rfl (di_any (de_fld cl_Table na_Table_names (de_var 0))) (gt_name (i := 4) nd rfl (Or.inl rfl)) (dss_one (ds_expr (de_meth cl_Table (M_Table_join.at hr) tk (de_var 0) (da_cons (de_var 4) (da_cons (de_var 1) da_nil)))))) (dss_one (ds_while (passes_of rfl) (dt_truth (de_var 3)) (dss_cons (ds_set (i := 3) nd rfl (Or.inl rfl) de_bl) (dss_one (ds_for (t := (.nm 4)) (passes_of rfl) rfl (di_any (de_fld cl_Table na_Table_names (de_var 0))) (gt_name (i := 4) nd rfl (Or.inl rfl)) (dss_one (ds_if (dt_w (dw_and (dt_dnotin hu (de_var 1) (de_dget hu (de_fld cl_Table na_Table_good (de_var 0)) (de_var 4))) (dw_and1 (dt_truth (de_meth cl_Table (M_Table_can_be_made.at hr) tk (de_var 0) (da_cons (de_var 4) (da_cons (de_var 1) da_nil))))))) (dss_cons (ds_dput hu (de_dget hu (de_fld cl_Table na_Table_good (de_var 0)) (de_var 4)) (de_var 1) de_bl) (dss_cons (ds_set (i := 3) nd rfl (Or.inl rfl) de_bl) (dss_one (ds_for (t := (.nm 5)) (passes_of rfl) rfl (di_any (de_fld cl_Table na_Table_names (de_var 0))) (gt_name (i := 5) nd rfl (Or.inl rfl)) (dss_one (ds_expr (de_meth cl_Table (M_Table_join.at hr) tk (de_var 0) (da_cons (de_var 5) (da_cons (de_var 1) da_nil))))))))) dss_nil))))))))))

abbrev s__law_sets : Stmt := topS 37
abbrev N__law_sets : List Str := ["many", "found", "n", "one"]
theorem sc__law_sets : FnScope N__law_sets ["many"] (defScope s__law_sets) := ⟨rfl, rfl, rfl, by decide +kernel, rfl, by decide +kernel, by decide +kernel⟩
theorem ok__law_sets {P : Program} {w : World} {K : PySem.W.Frag} {mg : Str → Option Value} {base : Heap} {f : Addr} {fd : FuncData} (F : Fun K "_law_sets" "_law_sets" s__law_sets f fd) {G : Gx} (m_len : mg "len" = none) (m_range : mg "range" = none) (m_sorted : mg "sorted" = none) {c : Addr} (hcode : ∀ cdv, fd.code = cdv → cdv = .ref c) (TB : LamX.TabB base mg c (G.T "_law_sets")) :
    FnOk P w K mg base (L2.CX P w) 4 f fd ["many"] (spA K mg 1 (S__law_sets G)) := by
  refine fn_mkC (den := (den__law_sets G)) F sc__law_sets (fun cdv A outer s H E B hc hr tk => ?_) (bo__law_sets G N__law_sets rfl)
  have nd := sc__law_sets.nd
  exact (dss_cons (ds_set (i := 1) nd rfl (Or.inl rfl) (de_lst (da_cons (de_tup da_nil) da_nil))) (dss_cons (ds_for (t := (.nm 2)) (passes_of rfl) rfl (di_range1 rfl m_range (da_cons (de_var 0) da_nil)) (gt_name (i := 2) nd rfl (Or.inr rfl)) (dss_one (ds_set (i := 1) nd rfl (Or.inl rfl) (de_op or_add ol_add (de_var 1) (de_lc (own := [("one", 3)]) (t := (.nm 3)) rfl nd (di_any (de_var 1)) (blkOk_by (N := N__law_sets) (sc := defScope s__law_sets) (by decide +kernel)) (by decide) (fun _ _ _ _ _ => (gt_name (i := 3) nd rfl (Or.inl rfl))) (fun _ _ _ _ _ => dts_nil) (fun _ _ _ _ _ => (de_op or_add ol_add (de_var 3) (de_tup (da_cons (de_var 2) da_nil))))))))) (dss_one (ds_ret (de_sortK (a := "one") m_sorted TB (hcode cdv hc) hr (da_cons (de_slice (de_var 1) (do_some de_int) do_none) da_nil) ⟨rfl, rfl, rfl, by decide +kernel, rfl, by decide +kernel, by decide +kernel⟩ (fun _ => rfl) (fun A outer s H E f c' B' hr tk => (de_tup (da_cons (de_callB call_len cl_len rfl m_len bt_len (da_cons (de_var 0) da_nil)) (da_cons (de_var 0) da_nil)))))))))

abbrev s_Table___init__ : Stmt := inClass (topS 23) 0
abbrev N_Table___init__ : List Str := ["self", "book", "heap", "bits", "land"]
theorem sc_Table___init__ : FnScope N_Table___init__ ["self", "book", "heap"] (defScope s_Table___init__) := ⟨rfl, rfl, rfl, by decide +kernel, rfl, by decide +kernel, by decide +kernel⟩
theorem ok_Table___init__ {P : Program} {w : World} {K : PySem.W.Frag} {mg : Str → Option Value} {base : Heap} {f : Addr} {fd : FuncData} (F : Fun K "__init__" "Table.__init__" s_Table___init__ f fd) {G : Gx} (m_len : mg "len" = none) (m_list : mg "list" = none) (m_range : mg "range" = none) (m_sorted : mg "sorted" = none) (F_names_of : FnR P w K mg base 1 "names_of" 1 S_names_of) (F_set_of : FnR P w K mg base 1 "set_of" 1 S_set_of) (F_takes : FnR P w K mg base 1 "takes" 2 S_takes) (F_worth_of : FnR P w K mg base 1 "worth_of" 2 S_worth_of) (cl_Table : Cls K (G.C "Table")) (na_Table_book : NoAttr K (G.C "Table") "book") (na_Table_good : NoAttr K (G.C "Table") "good") (na_Table_heap : NoAttr K (G.C "Table") "heap") (na_Table_joined : NoAttr K (G.C "Table") "joined") (na_Table_names : NoAttr K (G.C "Table") "names") (na_Table_taken : NoAttr K (G.C "Table") "taken") (na_Table_weights : NoAttr K (G.C "Table") "weights") (na_Table_whole : NoAttr K (G.C "Table") "whole") (M_Table_fill : MtR P w K mg base 4 (G.C "Table") "fill" 2 (S_Table_fill G)) {c : Addr} (hcode : ∀ cdv, fd.code = cdv → cdv = .ref c) (TB : LamX.TabB base mg c (G.T "Table.__init__")) :
    FnOk P w K mg base (L2.CX P w) 5 f fd ["self", "book", "heap"] (spA K mg 3 (S_Table___init__ G)) := by
  refine fn_mkC (den := (den_Table___init__ G)) F sc_Table___init__ (fun cdv A outer s H E B hc hr tk => ?_) (bo_Table___init__ G N_Table___init__ rfl)
  have nd := sc_Table___init__.nd
  exact (dss_cons (ds_flds (fs := ["book", "heap"]) (i := 0) rfl (da_cons (de_var 1) (da_cons (de_var 2) da_nil)) (pgs_cons (pg_fld cl_Table na_Table_book (pe_var (i := 0) rfl (by first | exact Or.inl rfl | exact Or.inr (Or.inl rfl) | exact Or.inr (Or.inr rfl)))) (pgs_cons (pg_fld cl_Table na_Table_heap (pe_var (i := 0) rfl (by first | exact Or.inl rfl | exact Or.inr (Or.inl rfl) | exact Or.inr (Or.inr rfl)))) pgs_nil))) (dss_cons (ds_fld cl_Table na_Table_names (de_var 0) (de_call (F_names_of.at hr) tk (da_cons (de_var 1) da_nil))) (dss_cons (ds_fld cl_Table na_Table_taken (de_var 0) (de_dc (own := [("land", 4)]) (t := (.nm 4)) rfl nd (di_any (de_fld cl_Table na_Table_names (de_var 0))) (blkOk_by (N := N_Table___init__) (sc := defScope s_Table___init__) (by decide +kernel)) (by decide) (fun _ _ _ _ _ => (gt_name (i := 4) nd rfl (Or.inl rfl))) (fun _ _ _ _ _ => dts_nil) (fun _ _ _ _ _ => (de_var 4)) (fun _ _ _ _ _ => (de_call (F_takes.at hr) takesF (da_cons (de_var 1) (da_cons (de_var 4) da_nil)))))) (dss_cons (ds_fld cl_Table na_Table_good (de_var 0) (de_dc (own := [("land", 4)]) (t := (.nm 4)) rfl nd (di_any (de_fld cl_Table na_Table_names (de_var 0))) (blkOk_by (N := N_Table___init__) (sc := defScope s_Table___init__) (by decide +kernel)) (by decide) (fun _ _ _ _ _ => (gt_name (i := 4) nd rfl (Or.inl rfl))) (fun _ _ _ _ _ => dts_nil) (fun _ _ _ _ _ => (de_var 4)) (fun _ _ _ _ _ => de_dnewK))) (dss_cons (ds_fld cl_Table na_Table_joined (de_var 0) (de_dc (own := [("land", 4)]) (t := (.nm 4)) rfl nd (di_any (de_fld cl_Table na_Table_names (de_var 0))) (blkOk_by (N := N_Table___init__) (sc := defScope s_Table___init__) (by decide +kernel)) (by decide) (fun _ _ _ _ _ => (gt_name (i := 4) nd rfl (Or.inl rfl))) (fun _ _ _ _ _ => dts_nil) (fun _ _ _ _ _ => (de_var 4)) (fun _ _ _ _ _ => de_dnewK))) (dss_cons (ds_fld cl_Table na_Table_whole (de_var 0) (de_op op_sub ol_I0 (de_op op_shl ol_I de_int (de_callB call_len cl_len rfl m_len bt_len (da_cons (de_var 2) da_nil))) de_int)) (dss_cons (ds_fld cl_Table na_Table_weights (de_var 0) (de_lc (own := [("bits", 3)]) (t := (.nm 3)) rfl nd (di_range1 rfl m_range (da_cons (de_op or_add ol_add (de_fld cl_Table na_Table_whole (de_var 0)) de_int) da_nil)) (blkOk_by (N := N_Table___init__) (sc := defScope s_Table___init__) (by decide +kernel)) (by decide) (fun _ _ _ _ _ => (gt_name (i := 3) nd rfl (Or.inl rfl))) (fun _ _ _ _ _ => dts_nil) (fun _ _ _ _ _ => (de_call (F_worth_of.at hr) takesF (da_cons (de_var 2) (da_cons (de_call (F_set_of.at hr) takesF (da_cons (de_var 3) da_nil)) da_nil)))))) (dss_one (ds_for (t := (.nm 3)) (passes_of rfl) rfl (di_any (de_sortK (a := "one") m_sorted TB (hcode cdv hc) hr (da_cons (de_listRange2 rfl m_list rfl m_range de_int (de_op or_add ol_add (de_fld cl_Table na_Table_whole (de_var 0)) de_int)) da_nil) ⟨rfl, rfl, rfl, by decide +kernel, rfl, by decide +kernel, by decide +kernel⟩ (fun _ => rfl) (fun A outer s H E f c' B' hr tk => (de_callB call_len cl_len rfl m_len bt_len (da_cons (de_call (F_set_of.at hr) tk (da_cons (de_var 0) da_nil)) da_nil))))) (gt_name (i := 3) nd rfl (Or.inl rfl)) (dss_one (ds_expr (de_meth cl_Table (M_Table_fill.at hr) tk (de_var 0) (da_cons (de_var 3) da_nil)))))))))))))

abbrev s_can_count : Stmt := topS 24
abbrev N_can_count : List Str := ["book", "heap", "things", "land"]
theorem sc_can_count : FnScope N_can_count ["book", "heap", "things", "land"] (defScope s_can_count) := ⟨rfl, rfl, rfl, by decide +kernel, rfl, by decide +kernel, by decide +kernel⟩
theorem ok_can_count {P : Program} {w : World} {K : PySem.W.Frag} {mg : Str → Option Value} {base : Heap} {f : Addr} {fd : FuncData} (F : Fun K "can_count" "can_count" s_can_count f fd) {G : Gx} (F_bits_of : FnR P w K mg base 1 "bits_of" 1 S_bits_of) (F_look_land : FnR P w K mg base 2 "look_land" 2 S_look_land) (cl_Table : Cls K (G.C "Table")) (na_Table_good : NoAttr K (G.C "Table") "good") (MK_Table : MkR P w K mg base 5 "Table" (G.C "Table") 3 (S_Table___init__ G)) :
    FnOk P w K mg base (L2.CX P w) 7 f fd ["book", "heap", "things", "land"] (spA K mg 4 (S_can_count G)) := by
  refine fn_mk (den := (den_can_count G)) F sc_can_count (fun cdv A outer s H E B hr tk => ?_) (bo_can_count G N_can_count rfl)
  have nd := sc_can_count.nd
  have hu := hu_of hr
  exact (dss_cons (ds_expr (de_call (F_look_land.at hr) tk (da_cons (de_var 0) (da_cons (de_var 3) da_nil)))) (dss_one (ds_ret (de_din hu (de_call (F_bits_of.at hr) tk (da_cons (de_var 2) da_nil)) (de_dget hu (de_fld cl_Table na_Table_good (de_new (MK_Table.at hr) tk (da_cons (de_var 0) (da_cons (de_var 1) da_nil)))) (de_var 3))))))

abbrev s_all_lands : Stmt := topS 25
abbrev N_all_lands : List Str := ["book", "heap", "table", "land"]
theorem sc_all_lands : FnScope N_all_lands ["book", "heap"] (defScope s_all_lands) := ⟨rfl, rfl, rfl, by decide +kernel, rfl, by decide +kernel, by decide +kernel⟩
theorem ok_all_lands {P : Program} {w : World} {K : PySem.W.Frag} {mg : Str → Option Value} {base : Heap} {f : Addr} {fd : FuncData} (F : Fun K "all_lands" "all_lands" s_all_lands f fd) {G : Gx} (m_tuple : mg "tuple" = none) (cl_Table : Cls K (G.C "Table")) (na_Table_good : NoAttr K (G.C "Table") "good") (na_Table_names : NoAttr K (G.C "Table") "names") (na_Table_whole : NoAttr K (G.C "Table") "whole") (MK_Table : MkR P w K mg base 5 "Table" (G.C "Table") 3 (S_Table___init__ G)) :
    FnOk P w K mg base (L2.CX P w) 7 f fd ["book", "heap"] (spA K mg 2 (S_all_lands G)) := by
  refine fn_mk (den := (den_all_lands G)) F sc_all_lands (fun cdv A outer s H E B hr tk => ?_) (bo_all_lands G N_all_lands rfl)
  have nd := sc_all_lands.nd
  have hu := hu_of hr
  exact (dss_cons (ds_set (i := 2) nd rfl (Or.inr rfl) (de_new (MK_Table.at hr) tk (da_cons (de_var 0) (da_cons (de_var 1) da_nil)))) (dss_one (ds_ret (de_callTy call_tuple_of cl_tuple rfl m_tuple bt_tuple (da_cons (de_lc (own := [("land", 3)]) (t := (.nm 3)) rfl nd (di_any (de_fld cl_Table na_Table_names (de_var 2))) (blkOk_by (N := N_all_lands) (sc := defScope s_all_lands) (by decide +kernel)) (by decide) (fun _ _ _ _ _ => (gt_name (i := 3) nd rfl (Or.inl rfl))) (fun _ _ _ _ _ => (dts_one (dt_din hu (de_fld cl_Table na_Table_whole (de_var 2)) (de_dget hu (de_fld cl_Table na_Table_good (de_var 2)) (de_var 3))))) (fun _ _ _ _ _ => (de_var 3))) da_nil)))))

abbrev s_table_of : Stmt := topS 26
abbrev N_table_of : List Str := ["book", "heap", "table", "land", "bits"]
theorem sc_table_of : FnScope N_table_of ["book", "heap"] (defScope s_table_of) := ⟨rfl, rfl, rfl, by decide +kernel, rfl, by decide +kernel, by decide +kernel⟩
theorem ok_table_of {P : Program} {w : World} {K : PySem.W.Frag} {mg : Str → Option Value} {base : Heap} {f : Addr} {fd : FuncData} (F : Fun K "table_of" "table_of" s_table_of f fd) {G : Gx} (m_sorted : mg "sorted" = none) (m_tuple : mg "tuple" = none) (F_set_of : FnR P w K mg base 1 "set_of" 1 S_set_of) (cl_Table : Cls K (G.C "Table")) (na_Table_good : NoAttr K (G.C "Table") "good") (na_Table_names : NoAttr K (G.C "Table") "names") (MK_Table : MkR P w K mg base 5 "Table" (G.C "Table") 3 (S_Table___init__ G)) :
    FnOk P w K mg base (L2.CX P w) 7 f fd ["book", "heap"] (spA K mg 2 (S_table_of G)) := by
  refine fn_mk (den := (den_table_of G)) F sc_table_of (fun cdv A outer s H E B hr tk => ?_) (bo_table_of G N_table_of rfl)
  have nd := sc_table_of.nd
  have hu := hu_of hr
  exact (dss_cons (ds_set (i := 2) nd rfl (Or.inr rfl) (de_new (MK_Table.at hr) tk (da_cons (de_var 0) (da_cons (de_var 1) da_nil)))) (dss_one (ds_ret (de_callTy call_tuple_of cl_tuple rfl m_tuple bt_tuple (da_cons (de_lc (own := [("land", 3)]) (t := (.nm 3)) rfl nd (di_any (de_fld cl_Table na_Table_names (de_var 2))) (blkOk_by (N := N_table_of) (sc := defScope s_table_of) (by decide +kernel)) (by decide) (fun _ _ _ _ _ => (gt_name (i := 3) nd rfl (Or.inl rfl))) (fun _ _ _ _ _ => dts_nil) (fun _ _ _ _ _ => (de_callTy call_tuple_of cl_tuple rfl m_tuple bt_tuple (da_cons (de_callB (cr_sortedD hr.units) cl_sortedD rfl m_sorted bt_sorted (da_cons (de_lc (own := [("bits", 4)]) (t := (.nm 4)) rfl nd (di_keys (de_dget hu (de_fld cl_Table na_Table_good (de_var 2)) (de_var 3))) (blkOk_by rfl) (by decide) (fun _ _ _ _ _ => (gt_name (i := 4) nd rfl (Or.inl rfl))) (fun _ _ _ _ _ => dts_nil) (fun _ _ _ _ _ => (de_call (F_set_of.at hr) takesF (da_cons (de_var 4) da_nil)))) da_nil)) da_nil)))) da_nil)))))

abbrev s__law_parted : Stmt := topS 38
abbrev N__law_parted : List Str := ["things", "good", "one", "n"]
theorem sc__law_parted : FnScope N__law_parted ["things", "good"] (defScope s__law_parted) := ⟨rfl, rfl, rfl, by decide +kernel, rfl, by decide +kernel, by decide +kernel⟩
theorem ok__law_parted {P : Program} {w : World} {K : PySem.W.Frag} {mg : Str → Option Value} {base : Heap} {f : Addr} {fd : FuncData} (F : Fun K "_law_parted" "_law_parted" s__law_parted f fd) {R S : SpF} {d : Nat} (bo : ∀ as h Q E, as.length = 2 → S as h Q E → den__law_parted R (startA N__law_parted as) h (endsR Q) (RX E)) (F_R : FnR P w K mg base (0 + d) "_law_parted" 2 R) (m_tuple : mg "tuple" = none) :
    FnOk P w K mg base (L2.CX P w) (0 + d + 1) f fd ["things", "good"] (spA K mg 2 S) := by
  refine fn_mk (den := den__law_parted R) F sc__law_parted (fun cdv A outer s H E B hr tk => ?_) bo
  have nd := sc__law_parted.nd
  exact (dss_cons (ds_if (dt_cmp (or_eq hr.units) ol_eq (de_var 0) (de_tup da_nil)) (dss_one (ds_ret de_bl)) dss_nil) (dss_cons (ds_for (t := (.nm 2)) (passes_of rfl) rfl (di_any (de_var 1)) (gt_name (i := 2) nd rfl (Or.inr rfl)) (dss_one (ds_if (dt_w (dw_and (dt_cmp (or_eq hr.units) ol_eq (de_ix (de_var 2) de_int) (de_ix (de_var 0) de_int)) (dw_and1 (dt_cmp (or_eq hr.units) ol_eq (de_lc (own := [("n", 3)]) (t := (.nm 3)) rfl nd (di_any (de_var 2)) (blkOk_by (N := N__law_parted) (sc := defScope s__law_parted) (by decide +kernel)) (by decide) (fun _ _ _ _ _ => (gt_name (i := 3) nd rfl (Or.inl rfl))) (fun _ _ _ _ _ => (dts_one (dt_cmp op_notIn_seq ol_notIn (de_var 3) (de_var 0)))) (fun _ _ _ _ _ => (de_var 3))) (de_lst da_nil))))) (dss_one (ds_if (dt_truth (de_call (F_R.at hr (Nat.le_refl _)) tk (da_cons (de_callTy call_tuple_of cl_tuple rfl m_tuple bt_tuple (da_cons (de_lc (own := [("n", 3)]) (t := (.nm 3)) rfl nd (di_any (de_var 0)) (blkOk_by (N := N__law_parted) (sc := defScope s__law_parted) (by decide +kernel)) (by decide) (fun _ _ _ _ _ => (gt_name (i := 3) nd rfl (Or.inl rfl))) (fun _ _ _ _ _ => (dts_one (dt_cmp op_notIn_seq ol_notIn (de_var 3) (de_var 2)))) (fun _ _ _ _ _ => (de_var 3))) da_nil)) (da_cons (de_var 1) da_nil)))) (dss_one (ds_ret de_bl)) dss_nil)) dss_nil))) (dss_one (ds_ret de_bl))))

abbrev s__law_is_made : Stmt := topS 39
abbrev N__law_is_made : List Str := ["book", "heap_here", "found", "things", "land_here", "good", "of", "whole", "some", "part", "counting", "n"]
theorem sc__law_is_made : FnScope N__law_is_made ["book", "heap_here", "found", "things", "land_here"] (defScope s__law_is_made) := ⟨rfl, rfl, rfl, by decide +kernel, rfl, by decide +kernel, by decide +kernel⟩
theorem ok__law_is_made {P : Program} {w : World} {K : PySem.W.Frag} {mg : Str → Option Value} {base : Heap} {f : Addr} {fd : FuncData} (F : Fun K "_law_is_made" "_law_is_made" s__law_is_made f fd) {G : Gx} (m_len : mg "len" = none) (m_sum : mg "sum" = none) (m_tuple : mg "tuple" = none) (F__law_has_share : FnR P w K mg base 2 "_law_has_share" 4 S__law_has_share) (F__law_parted : FnR P w K mg base 24 "_law_parted" 2 S__law_parted) (F__law_sets : FnR P w K mg base 4 "_law_sets" 1 (S__law_sets G)) (F__law_takes : FnR P w K mg base 1 "_law_takes" 2 S__law_takes) :
    FnOk P w K mg base (L2.CX P w) 25 f fd ["book", "heap_here", "found", "things", "land_here"] (spA K mg 5 (S__law_is_made G)) := by
  refine fn_mk (den := (den__law_is_made G)) F sc__law_is_made (fun cdv A outer s H E B hr tk => ?_) (bo__law_is_made G N__law_is_made rfl)
  have nd := sc__law_is_made.nd
  have hu := hu_of hr
  exact (dss_cons (ds_set (i := 5) nd rfl (Or.inl rfl) (de_lst da_nil)) (dss_cons (ds_for (t := (.nm 6)) (passes_of rfl) rfl (di_any (de_call (F__law_takes.at hr) tk (da_cons (de_var 0) (da_cons (de_var 4) da_nil)))) (gt_name (i := 6) nd rfl (Or.inl rfl)) (dss_one (ds_set (i := 5) nd rfl (Or.inl rfl) (de_op or_add ol_add (de_var 5) (de_dget hu (de_var 2) (de_var 6)))))) (dss_cons (ds_set (i := 7) nd rfl (Or.inl rfl) (de_callB (cr_sum rfl) cl_sum rfl m_sum bt_sum (da_cons (de_lc (own := [("n", 11)]) (t := (.nm 11)) rfl nd (di_any (de_var 3)) (blkOk_by (N := N__law_is_made) (sc := defScope s__law_is_made) (by decide +kernel)) (by decide) (fun _ _ _ _ _ => (gt_name (i := 11) nd rfl (Or.inl rfl))) (fun _ _ _ _ _ => dts_nil) (fun _ _ _ _ _ => (de_ix (de_ix (de_var 1) (de_var 11)) de_int))) da_nil))) (dss_cons (ds_for (t := (.nm 8)) (passes_of rfl) rfl (di_any (de_call (F__law_sets.at hr) tk (da_cons (de_callB call_len cl_len rfl m_len bt_len (da_cons (de_var 3) da_nil)) da_nil))) (gt_name (i := 8) nd rfl (Or.inl rfl)) (dss_cons (ds_set (i := 9) nd rfl (Or.inl rfl) (de_callTy call_tuple_of cl_tuple rfl m_tuple bt_tuple (da_cons (de_lc (own := [("n", 11)]) (t := (.nm 11)) rfl nd (di_any (de_var 8)) (blkOk_by (N := N__law_is_made) (sc := defScope s__law_is_made) (by decide +kernel)) (by decide) (fun _ _ _ _ _ => (gt_name (i := 11) nd rfl (Or.inl rfl))) (fun _ _ _ _ _ => dts_nil) (fun _ _ _ _ _ => (de_ix (de_var 3) (de_var 11)))) da_nil))) (dss_cons (ds_set (i := 10) nd rfl (Or.inl rfl) (de_callB (cr_sum rfl) cl_sum rfl m_sum bt_sum (da_cons (de_lc (own := [("n", 11)]) (t := (.nm 11)) rfl nd (di_any (de_var 9)) (blkOk_by (N := N__law_is_made) (sc := defScope s__law_is_made) (by decide +kernel)) (by decide) (fun _ _ _ _ _ => (gt_name (i := 11) nd rfl (Or.inl rfl))) (fun _ _ _ _ _ => dts_nil) (fun _ _ _ _ _ => (de_ix (de_ix (de_var 1) (de_var 11)) de_int))) da_nil))) (dss_one (ds_if (dt_w (dw_and (dt_truth (de_call (F__law_has_share.at hr) tk (da_cons (de_var 0) (da_cons (de_var 4) (da_cons (de_var 10) (da_cons (de_var 7) da_nil)))))) (dw_and1 (dt_truth (de_call (F__law_parted.at hr) tk (da_cons (de_var 9) (da_cons (de_var 5) da_nil))))))) (dss_one (ds_ret de_bl)) dss_nil))))) (dss_one (ds_ret de_bl))))))

abbrev s__law_table : Stmt := topS 40
abbrev N__law_table : List Str := ["book", "heap_here", "land_here", "found", "n", "raw", "things", "fresh"]
theorem sc__law_table : FnScope N__law_table ["book", "heap_here"] (defScope s__law_table) := ⟨rfl, rfl, rfl, by decide +kernel, rfl, by decide +kernel, by decide +kernel⟩
theorem ok__law_table {P : Program} {w : World} {K : PySem.W.Frag} {mg : Str → Option Value} {base : Heap} {f : Addr} {fd : FuncData} (F : Fun K "_law_table" "_law_table" s__law_table f fd) {G : Gx} (m_dict : mg "dict" = none) (m_enumerate : mg "enumerate" = none) (m_len : mg "len" = none) (F__law_is_made : FnR P w K mg base 25 "_law_is_made" 5 (S__law_is_made G)) (F__law_sets : FnR P w K mg base 4 "_law_sets" 1 (S__law_sets G)) :
    FnOk P w K mg base (L2.CX P w) 26 f fd ["book", "heap_here"] (spA K mg 2 (S__law_table G)) := by
  refine fn_mk (den := (den__law_table G)) F sc__law_table (fun cdv A outer s H E B hr tk => ?_) (bo__law_table G N__law_table rfl)
  have nd := sc__law_table.nd
  have hu := hu_of hr
  exact (dss_cons (ds_set (i := 3) nd rfl (Or.inl rfl) (de_callTy (call_dictP rfl) cl_dictP rfl m_dict bt_dict (da_cons (de_lc (own := [("land_here", 2)]) (t := (.nm 2)) rfl nd (di_any (de_ix (de_var 0) de_int)) (blkOk_by (N := N__law_table) (sc := defScope s__law_table) (by decide +kernel)) (by decide) (fun _ _ _ _ _ => (gt_name (i := 2) nd rfl (Or.inl rfl))) (fun _ _ _ _ _ => dts_nil) (fun _ _ _ _ _ => (de_tup (da_cons (de_ix (de_var 2) de_int) (da_cons (de_lstH da_nil) da_nil))))) da_nil))) (dss_cons (ds_for (t := (.tp [(.nm 4), (.nm 5)])) (passes_of rfl) rfl (di_enum rfl m_enumerate (da_cons (de_var 1) da_nil)) (gt_tup rfl (gts_cons (gt_name (i := 4) nd rfl (Or.inl rfl)) (gts_cons (gt_name (i := 5) nd rfl (Or.inl rfl)) gts_nil))) (dss_one (ds_if (dt_cmp op_notN ol_notN (de_ix (de_var 5) de_int) de_non) (dss_one (ds_expr (de_bm PySem.F.plainAttrs_list PySem.F.slot_list_append PySem.F.type_list_append mt_append ml_append (de_dget hu (de_var 3) (de_ix (de_var 5) de_int)) (da_cons (de_tup (da_cons (de_var 4) da_nil)) da_nil)))) dss_nil))) (dss_cons (ds_for (t := (.nm 6)) (passes_of rfl) rfl (di_any (de_call (F__law_sets.at hr) tk (da_cons (de_callB call_len cl_len rfl m_len bt_len (da_cons (de_var 1) da_nil)) da_nil))) (gt_name (i := 6) nd rfl (Or.inl rfl)) (dss_cons (ds_set (i := 7) nd rfl (Or.inl rfl) de_bl) (dss_one (ds_while (passes_of rfl) (dt_truth (de_var 7)) (dss_cons (ds_set (i := 7) nd rfl (Or.inl rfl) de_bl) (dss_one (ds_for (t := (.nm 2)) (passes_of rfl) rfl (di_keys (de_var 3)) (gt_name (i := 2) nd rfl (Or.inl rfl)) (dss_one (ds_if (dt_w (dw_and (dt_cmp (op_notInD (u65 hr)) ol_notInD (de_var 6) (de_dget hu (de_var 3) (de_var 2))) (dw_and1 (dt_truth (de_call (F__law_is_made.at hr) tk (da_cons (de_var 0) (da_cons (de_var 1) (da_cons (de_var 3) (da_cons (de_var 6) (da_cons (de_var 2) da_nil)))))))))) (dss_cons (ds_expr (de_bm PySem.F.plainAttrs_list PySem.F.slot_list_append PySem.F.type_list_append mt_append ml_append (de_dget hu (de_var 3) (de_var 2)) (da_cons (de_var 6) da_nil))) (dss_one (ds_set (i := 7) nd rfl (Or.inl rfl) de_bl))) dss_nil))))))))) (dss_one (ds_ret (de_var 3))))))

theorem sc_law : FnScope N_law ["script"] (defScope s_law) := ⟨rfl, rfl, rfl, by decide +kernel, rfl, by decide +kernel, by decide +kernel⟩
theorem ok_law {P : Program} {w : World} {K : PySem.W.Frag} {mg : Str → Option Value} {base : Heap} {f : Addr} {fd : FuncData} (F : Fun K "law" "law" s_law f fd) {G : Gx} (m_len : mg "len" = none) (m_range : mg "range" = none) (m_sorted : mg "sorted" = none) (m_tuple : mg "tuple" = none) (F__law_a_book : FnR P w K mg base 2 "_law_a_book" 2 S__law_a_book) (F__law_a_heap : FnR P w K mg base 2 "_law_a_heap" 4 S__law_a_heap) (F__law_begun : FnR P w K mg base 1 "_law_begun" 0 S__law_begun) (F__law_draw : FnR P w K mg base 1 "_law_draw" 3 S__law_draw) (F__law_is : FnR P w K mg base 1 "_law_is" 2 S__law_is) (F__law_sets : FnR P w K mg base 4 "_law_sets" 1 (S__law_sets G)) (F__law_table : FnR P w K mg base 26 "_law_table" 2 (S__law_table G)) (F_can_count : FnR P w K mg base 7 "can_count" 4 (S_can_count G)) (K_all_lands_heap : FnKR P w K mg base 7 "all_lands" 1 ["heap"] (S_all_lands G)) (K_can_count_land : FnKR P w K mg base 7 "can_count" 3 ["land"] (S_can_count G)) (K_table_of_heap : FnKR P w K mg base 7 "table_of" 1 ["heap"] (S_table_of G)) {c : Addr} (hcode : ∀ cdv, fd.code = cdv → cdv = .ref c) (TB : LamX.TabB base mg c (G.T "law")) {fh : Addr} {fdh : FuncData} {cs : Str → Addr} (Fh : Fun K "_law_heard" "_law_heard" s__law_heard fh fdh) (mh : mg "_law_heard" = some (.ref fh)) (HC : HCls K mg cs ["NoLand"]) (h_isinstance : mg "isinstance" = none) (h_len : mg "len" = none) (h_ValueError : mg "ValueError" = none) :
    FnOk P w K mg base (L2.CX P w) 29 f fd ["script"] (spA K mg 1 (S_lawN ["_law_sets", "Table.__init__", "law"] G)) := by
  refine fn_mkC (den := (den_law G)) F sc_law (fun cdv A outer s H E B hc hr tk => ?_) (bo_law G N_law rfl)
  have nd := sc_law.nd
  have HH := hd_law (P := P) (w := w) (outer := outer) (H := H) (E := E) Fh mh HC h_isinstance h_len h_ValueError TB (hcode cdv hc) hr
  have hu := hu_of hr
  exact (dss_cons (ds_set (i := 1) nd rfl (Or.inl rfl) (de_call0 (F__law_begun.at hr) tk)) (dss_cons (ds_for (t := (.nm 2)) (passes_of rfl) rfl (di_range1 rfl m_range (da_cons de_int da_nil)) (gt_name (i := 2) nd rfl (Or.inl rfl)) (dss_cons (ds_set (i := 9) nd rfl (Or.inr rfl) (de_call (F__law_a_book.at hr) tk (da_cons (de_var 0) (da_cons (de_var 1) da_nil)))) (dss_cons (ds_set (i := 10) nd rfl (Or.inr rfl) (de_call (F__law_a_heap.at hr) tk (da_cons (de_var 0) (da_cons (de_var 1) (da_cons (de_var 9) (da_cons de_int da_nil)))))) (dss_cons (ds_asg (t := (.tp [(.nm 3), (.nm 4)])) (de_tup (da_cons (de_call (F__law_table.at hr) tk (da_cons (de_var 9) (da_cons (de_var 10) da_nil))) (da_cons (de_tupRange rfl m_tuple rfl m_range (de_callB call_len cl_len rfl m_len bt_len (da_cons (de_var 10) da_nil))) da_nil))) (gt_tup rfl (gts_cons (gt_name (i := 3) nd rfl (Or.inr rfl)) (gts_cons (gt_name (i := 4) nd rfl (Or.inr rfl)) gts_nil)))) (dss_cons (ds_set (i := 5) nd rfl (Or.inl rfl) (de_callTy call_tuple_of cl_tuple rfl m_tuple bt_tuple (da_cons (de_lc (own := [("land_here", 11)]) (t := (.nm 11)) rfl nd (di_any (de_ix (de_var 9) de_int)) (blkOk_by (N := N_law) (sc := defScope s_law) (by decide +kernel)) (by decide) (fun _ _ _ _ _ => (gt_name (i := 11) nd rfl (Or.inl rfl))) (fun _ _ _ _ _ => dts_nil) (fun _ _ _ _ _ => (de_callTy call_tuple_of cl_tuple rfl m_tuple bt_tuple (da_cons (de_callB (cr_sortedD hr.units) cl_sortedD rfl m_sorted bt_sorted (da_cons (de_dget hu (de_var 3) (de_ix (de_var 11) de_int)) da_nil)) da_nil)))) da_nil))) (dss_cons (ds_if (dt_cmp (or_ne hr.units) ol_ne (de_callK (K_table_of_heap.at hr) tk (da_cons (de_var 9) da_nil) (dk_cons (de_var 10) dk_nil)) (de_var 5)) (dss_one (ds_ret de_bl)) dss_nil) (dss_cons (ds_set (i := 6) nd rfl (Or.inl rfl) (de_callTy call_tuple_of cl_tuple rfl m_tuple bt_tuple (da_cons (de_lc (own := [("land_here", 11)]) (t := (.nm 11)) rfl nd (di_any (de_ix (de_var 9) de_int)) (blkOk_by (N := N_law) (sc := defScope s_law) (by decide +kernel)) (by decide) (fun _ _ _ _ _ => (gt_name (i := 11) nd rfl (Or.inl rfl))) (fun _ _ _ _ _ => (dts_one (dt_cmp (op_inD (u65 hr)) ol_inD (de_var 4) (de_dget hu (de_var 3) (de_ix (de_var 11) de_int))))) (fun _ _ _ _ _ => (de_ix (de_var 11) de_int))) da_nil))) (dss_cons (ds_if (dt_cmp (or_ne hr.units) ol_ne (de_callK (K_all_lands_heap.at hr) tk (da_cons (de_var 9) da_nil) (dk_cons (de_var 10) dk_nil)) (de_var 6)) (dss_one (ds_ret de_bl)) dss_nil) (dss_cons (ds_for (t := (.nm 7)) (passes_of rfl) rfl (di_any (de_call (F__law_sets.at hr) tk (da_cons (de_callB call_len cl_len rfl m_len bt_len (da_cons (de_var 10) da_nil)) da_nil))) (gt_name (i := 7) nd rfl (Or.inl rfl)) (dss_cons (ds_set (i := 8) nd rfl (Or.inl rfl) (de_ix (de_ix (de_ix (de_var 9) de_int) (de_call (F__law_draw.at hr) tk (da_cons (de_var 0) (da_cons (de_var 1) (da_cons (de_callB call_len cl_len rfl m_len bt_len (da_cons (de_ix (de_var 9) de_int) da_nil)) da_nil))))) de_int)) (dss_one (ds_if (dt_not (dt_truth (de_call (F__law_is.at hr) tk (da_cons (de_callK (K_can_count_land.at hr) tk (da_cons (de_var 9) (da_cons (de_var 10) (da_cons (de_var 7) da_nil))) (dk_cons (de_var 8) dk_nil)) (da_cons (de_cmp (op_inD (u65 hr)) ol_inD (de_var 7) (de_dget hu (de_var 3) (de_var 8))) da_nil))))) (dss_one (ds_ret de_bl)) dss_nil)))) (dss_one (ds_if (dt_cmp (or_ne hr.units) ol_ne (de_heard HH (LamX.lamS_by (sc := defScope s_law) (by decide +kernel)) (fun A outer s H E f c B hr tk => (de_call (F_can_count.at hr) tk (da_cons (de_var 9) (da_cons (de_var 10) (da_cons (de_tup (da_cons de_int da_nil)) (da_cons de_str da_nil))))))) (de_tup (da_cons de_str da_nil))) (dss_one (ds_ret de_bl)) dss_nil))))))))))) (dss_one (ds_ret de_bl))))

abbrev hFa : List He.Fa := [.glo "names_of", .glo "row_of", .glo "takes", .glo "worth_of", .glo "bits_of", .glo "set_of", .glo "parts_of", .glo "_law_is", .glo "_law_draw", .glo "_law_begun", .glo "_law_row", .glo "_law_takes", .glo "look_land", .glo "is_enough", .glo "_law_a_book", .glo "_law_a_heap", .glo "_law_has_share", .glo "_law_sets", .glo "can_count", .glo "all_lands", .glo "table_of", .glo "_law_parted", .glo "_law_is_made", .glo "_law_table", .glo "law", .glo "_law_heard", .free "ValueError", .free "any", .free "bool", .free "dict", .free "enumerate", .free "isinstance", .free "len", .free "list", .free "range", .free "sorted", .free "str", .free "sum", .free "tuple", .cls "Table", .noat "Table" "book", .noat "Table" "good", .noat "Table" "heap", .noat "Table" "joined", .noat "Table" "names", .noat "Table" "taken", .noat "Table" "weights", .noat "Table" "whole", .meth "Table" "join", .meth "Table" "can_be_made", .meth "Table" "fill", .mkr "Table", .glo "Table"]
abbrev dd_names_of : He.DefD := ⟨("names_of", none), "names_of", "names_of", defArgs s_names_of, defBody s_names_of, defScope s_names_of, [], []⟩
abbrev dd_row_of : He.DefD := ⟨("row_of", none), "row_of", "row_of", defArgs s_row_of, defBody s_row_of, defScope s_row_of, [], []⟩
abbrev dd_takes : He.DefD := ⟨("takes", none), "takes", "takes", defArgs s_takes, defBody s_takes, defScope s_takes, [], []⟩
abbrev dd_worth_of : He.DefD := ⟨("worth_of", none), "worth_of", "worth_of", defArgs s_worth_of, defBody s_worth_of, defScope s_worth_of, [], []⟩
abbrev dd_bits_of : He.DefD := ⟨("bits_of", none), "bits_of", "bits_of", defArgs s_bits_of, defBody s_bits_of, defScope s_bits_of, [], []⟩
abbrev dd_set_of : He.DefD := ⟨("set_of", none), "set_of", "set_of", defArgs s_set_of, defBody s_set_of, defScope s_set_of, [], []⟩
abbrev dd_parts_of : He.DefD := ⟨("parts_of", none), "parts_of", "parts_of", defArgs s_parts_of, defBody s_parts_of, defScope s_parts_of, [], []⟩
abbrev dd__law_is : He.DefD := ⟨("_law_is", none), "_law_is", "_law_is", defArgs s__law_is, defBody s__law_is, defScope s__law_is, [], []⟩
abbrev dd__law_draw : He.DefD := ⟨("_law_draw", none), "_law_draw", "_law_draw", defArgs s__law_draw, defBody s__law_draw, defScope s__law_draw, [], []⟩
abbrev dd__law_begun : He.DefD := ⟨("_law_begun", none), "_law_begun", "_law_begun", defArgs s__law_begun, defBody s__law_begun, defScope s__law_begun, [], []⟩
abbrev dd__law_row : He.DefD := ⟨("_law_row", none), "_law_row", "_law_row", defArgs s__law_row, defBody s__law_row, defScope s__law_row, [], []⟩
abbrev dd__law_takes : He.DefD := ⟨("_law_takes", none), "_law_takes", "_law_takes", defArgs s__law_takes, defBody s__law_takes, defScope s__law_takes, [], []⟩
abbrev dd_look_land : He.DefD := ⟨("look_land", none), "look_land", "look_land", defArgs s_look_land, defBody s_look_land, defScope s_look_land, [], []⟩
abbrev dd_is_enough : He.DefD := ⟨("is_enough", none), "is_enough", "is_enough", defArgs s_is_enough, defBody s_is_enough, defScope s_is_enough, [], []⟩
abbrev dd_Table_join : He.DefD := ⟨("Table", some "join"), "join", "Table.join", defArgs s_Table_join, defBody s_Table_join, defScope s_Table_join, [], []⟩
abbrev dd__law_a_book : He.DefD := ⟨("_law_a_book", none), "_law_a_book", "_law_a_book", defArgs s__law_a_book, defBody s__law_a_book, defScope s__law_a_book, [], []⟩
abbrev dd__law_a_heap : He.DefD := ⟨("_law_a_heap", none), "_law_a_heap", "_law_a_heap", defArgs s__law_a_heap, defBody s__law_a_heap, defScope s__law_a_heap, [], []⟩
abbrev dd__law_has_share : He.DefD := ⟨("_law_has_share", none), "_law_has_share", "_law_has_share", defArgs s__law_has_share, defBody s__law_has_share, defScope s__law_has_share, [], []⟩
abbrev dd_Table_can_be_made : He.DefD := ⟨("Table", some "can_be_made"), "can_be_made", "Table.can_be_made", defArgs s_Table_can_be_made, defBody s_Table_can_be_made, defScope s_Table_can_be_made, [], []⟩
abbrev dd_Table_fill : He.DefD := ⟨("Table", some "fill"), "fill", "Table.fill", defArgs s_Table_fill, defBody s_Table_fill, defScope s_Table_fill, [], []⟩
abbrev dd__law_sets : He.DefD := ⟨("_law_sets", none), "_law_sets", "_law_sets", defArgs s__law_sets, defBody s__law_sets, defScope s__law_sets, [], []⟩
abbrev dd_Table___init__ : He.DefD := ⟨("Table", some "__init__"), "__init__", "Table.__init__", defArgs s_Table___init__, defBody s_Table___init__, defScope s_Table___init__, [], []⟩
abbrev dd_can_count : He.DefD := ⟨("can_count", none), "can_count", "can_count", defArgs s_can_count, defBody s_can_count, defScope s_can_count, [], []⟩
abbrev dd_all_lands : He.DefD := ⟨("all_lands", none), "all_lands", "all_lands", defArgs s_all_lands, defBody s_all_lands, defScope s_all_lands, [], []⟩
abbrev dd_table_of : He.DefD := ⟨("table_of", none), "table_of", "table_of", defArgs s_table_of, defBody s_table_of, defScope s_table_of, [], []⟩
abbrev dd__law_parted : He.DefD := ⟨("_law_parted", none), "_law_parted", "_law_parted", defArgs s__law_parted, defBody s__law_parted, defScope s__law_parted, [], []⟩
abbrev dd__law_is_made : He.DefD := ⟨("_law_is_made", none), "_law_is_made", "_law_is_made", defArgs s__law_is_made, defBody s__law_is_made, defScope s__law_is_made, [], []⟩
abbrev dd__law_table : He.DefD := ⟨("_law_table", none), "_law_table", "_law_table", defArgs s__law_table, defBody s__law_table, defScope s__law_table, [], []⟩
abbrev dd_law : He.DefD := ⟨("law", none), "law", "law", defArgs s_law, defBody s_law, defScope s_law, [], []⟩
abbrev dd__law_heard : He.DefD := ⟨("_law_heard", none), "_law_heard", "_law_heard", defArgs s__law_heard, defBody s__law_heard, defScope s__law_heard, [], []⟩
abbrev hFn : List He.DefD := [dd_names_of, dd_row_of, dd_takes, dd_worth_of, dd_bits_of, dd_set_of, dd_parts_of, dd__law_is, dd__law_draw, dd__law_begun, dd__law_row, dd__law_takes, dd_look_land, dd_is_enough, dd_Table_join, dd__law_a_book, dd__law_a_heap, dd__law_has_share, dd_Table_can_be_made, dd_Table_fill, dd__law_sets, dd_Table___init__, dd_can_count, dd_all_lands, dd_table_of, dd__law_parted, dd__law_is_made, dd__law_table, dd_law, dd__law_heard]
abbrev hTf : List He.Defn := [("_law_sets", none), ("Table", some "__init__"), ("law", none)]
abbrev gDn (n : Str) : He.Defn := if n = "Table.__init__" then ("Table", some "__init__") else (n, none)
abbrev gNs : List Str := ["_law_sets", "Table.__init__", "law"]
abbrev gx (K : PySem.W.Frag) : Gx := ⟨gNs, fun n => (He.cT K (gDn n)).2, He.ga K⟩
theorem gx_ts (K : PySem.W.Frag) : (gx K).Ts.map (·.1) = hTf.map fun p => (He.cT K p).2 := rfl
theorem all_mk {l : PySem.W.OpenLaw} {w : World} {K : PySem.W.Frag} {h : Heap} {mg : Str → Option Value} {f : Addr} (X : K.In h) (G : h.Ns mainGlobals mg) (hfa : mg "law" = some (.ref f)) (c : He.SaysX hFa hFn [] hTf (exT ["NoLand"] hTf) w h K) :
    ∃ fd : FuncData, (∀ (s : Shared) (u : Value), BindsTo s fd ⟨[u], []⟩ [("script", u)]) ∧ ∀ base : Heap, K.In base → base.Ns mainGlobals mg → (∀ p ∈ hTf, LamX.TabB base mg (He.cT K p).1 (He.cT K p).2) → FnOk l.prog w K mg base (L2.CX l.prog w) 29 f fd ["script"] (spLawT K (hTf.map fun p => (He.cT K p).2)) := by
  have cd : He.SaysD hFa hFn K := congrArg Prod.fst c.t
  obtain ⟨cm, cnd⟩ := exT_ok c.more
  obtain ⟨HC, xc⟩ := exB_ok (rs := ["NoLand"]) X G cm (by decide +kernel)
  have g_names_of : mg "names_of" = some (.ref (He.fAd K ("names_of", none))) := He.glo_ok X G (cd.fact 0 (f := .glo "names_of") rfl)
  have g_row_of : mg "row_of" = some (.ref (He.fAd K ("row_of", none))) := He.glo_ok X G (cd.fact 1 (f := .glo "row_of") rfl)
  have g_takes : mg "takes" = some (.ref (He.fAd K ("takes", none))) := He.glo_ok X G (cd.fact 2 (f := .glo "takes") rfl)
  have g_worth_of : mg "worth_of" = some (.ref (He.fAd K ("worth_of", none))) := He.glo_ok X G (cd.fact 3 (f := .glo "worth_of") rfl)
  have g_bits_of : mg "bits_of" = some (.ref (He.fAd K ("bits_of", none))) := He.glo_ok X G (cd.fact 4 (f := .glo "bits_of") rfl)
  have g_set_of : mg "set_of" = some (.ref (He.fAd K ("set_of", none))) := He.glo_ok X G (cd.fact 5 (f := .glo "set_of") rfl)
  have g_parts_of : mg "parts_of" = some (.ref (He.fAd K ("parts_of", none))) := He.glo_ok X G (cd.fact 6 (f := .glo "parts_of") rfl)
  have g__law_is : mg "_law_is" = some (.ref (He.fAd K ("_law_is", none))) := He.glo_ok X G (cd.fact 7 (f := .glo "_law_is") rfl)
  have g__law_draw : mg "_law_draw" = some (.ref (He.fAd K ("_law_draw", none))) := He.glo_ok X G (cd.fact 8 (f := .glo "_law_draw") rfl)
  have g__law_begun : mg "_law_begun" = some (.ref (He.fAd K ("_law_begun", none))) := He.glo_ok X G (cd.fact 9 (f := .glo "_law_begun") rfl)
  have g__law_row : mg "_law_row" = some (.ref (He.fAd K ("_law_row", none))) := He.glo_ok X G (cd.fact 10 (f := .glo "_law_row") rfl)
  have g__law_takes : mg "_law_takes" = some (.ref (He.fAd K ("_law_takes", none))) := He.glo_ok X G (cd.fact 11 (f := .glo "_law_takes") rfl)
  have g_look_land : mg "look_land" = some (.ref (He.fAd K ("look_land", none))) := He.glo_ok X G (cd.fact 12 (f := .glo "look_land") rfl)
  have g_is_enough : mg "is_enough" = some (.ref (He.fAd K ("is_enough", none))) := He.glo_ok X G (cd.fact 13 (f := .glo "is_enough") rfl)
  have g__law_a_book : mg "_law_a_book" = some (.ref (He.fAd K ("_law_a_book", none))) := He.glo_ok X G (cd.fact 14 (f := .glo "_law_a_book") rfl)
  have g__law_a_heap : mg "_law_a_heap" = some (.ref (He.fAd K ("_law_a_heap", none))) := He.glo_ok X G (cd.fact 15 (f := .glo "_law_a_heap") rfl)
  have g__law_has_share : mg "_law_has_share" = some (.ref (He.fAd K ("_law_has_share", none))) := He.glo_ok X G (cd.fact 16 (f := .glo "_law_has_share") rfl)
  have g__law_sets : mg "_law_sets" = some (.ref (He.fAd K ("_law_sets", none))) := He.glo_ok X G (cd.fact 17 (f := .glo "_law_sets") rfl)
  have g_can_count : mg "can_count" = some (.ref (He.fAd K ("can_count", none))) := He.glo_ok X G (cd.fact 18 (f := .glo "can_count") rfl)
  have g_all_lands : mg "all_lands" = some (.ref (He.fAd K ("all_lands", none))) := He.glo_ok X G (cd.fact 19 (f := .glo "all_lands") rfl)
  have g_table_of : mg "table_of" = some (.ref (He.fAd K ("table_of", none))) := He.glo_ok X G (cd.fact 20 (f := .glo "table_of") rfl)
  have g__law_parted : mg "_law_parted" = some (.ref (He.fAd K ("_law_parted", none))) := He.glo_ok X G (cd.fact 21 (f := .glo "_law_parted") rfl)
  have g__law_is_made : mg "_law_is_made" = some (.ref (He.fAd K ("_law_is_made", none))) := He.glo_ok X G (cd.fact 22 (f := .glo "_law_is_made") rfl)
  have g__law_table : mg "_law_table" = some (.ref (He.fAd K ("_law_table", none))) := He.glo_ok X G (cd.fact 23 (f := .glo "_law_table") rfl)
  have g_law : mg "law" = some (.ref (He.fAd K ("law", none))) := He.glo_ok X G (cd.fact 24 (f := .glo "law") rfl)
  have g__law_heard : mg "_law_heard" = some (.ref (He.fAd K ("_law_heard", none))) := He.glo_ok X G (cd.fact 25 (f := .glo "_law_heard") rfl)
  have m_ValueError := He.free_ok X G (cd.fact 26 (f := .free "ValueError") rfl)
  have m_any := He.free_ok X G (cd.fact 27 (f := .free "any") rfl)
  have m_bool := He.free_ok X G (cd.fact 28 (f := .free "bool") rfl)
  have m_dict := He.free_ok X G (cd.fact 29 (f := .free "dict") rfl)
  have m_enumerate := He.free_ok X G (cd.fact 30 (f := .free "enumerate") rfl)
  have m_isinstance := He.free_ok X G (cd.fact 31 (f := .free "isinstance") rfl)
  have m_len := He.free_ok X G (cd.fact 32 (f := .free "len") rfl)
  have m_list := He.free_ok X G (cd.fact 33 (f := .free "list") rfl)
  have m_range := He.free_ok X G (cd.fact 34 (f := .free "range") rfl)
  have m_sorted := He.free_ok X G (cd.fact 35 (f := .free "sorted") rfl)
  have m_str := He.free_ok X G (cd.fact 36 (f := .free "str") rfl)
  have m_sum := He.free_ok X G (cd.fact 37 (f := .free "sum") rfl)
  have m_tuple := He.free_ok X G (cd.fact 38 (f := .free "tuple") rfl)
  have cl_Table : Cls K ((gx K).C "Table") := He.cls_ok (cd.fact 39 (f := .cls "Table") rfl)
  have na_Table_book : NoAttr K ((gx K).C "Table") "book" := He.noat_ok (cd.fact 40 (f := .noat "Table" "book") rfl)
  have na_Table_good : NoAttr K ((gx K).C "Table") "good" := He.noat_ok (cd.fact 41 (f := .noat "Table" "good") rfl)
  have na_Table_heap : NoAttr K ((gx K).C "Table") "heap" := He.noat_ok (cd.fact 42 (f := .noat "Table" "heap") rfl)
  have na_Table_joined : NoAttr K ((gx K).C "Table") "joined" := He.noat_ok (cd.fact 43 (f := .noat "Table" "joined") rfl)
  have na_Table_names : NoAttr K ((gx K).C "Table") "names" := He.noat_ok (cd.fact 44 (f := .noat "Table" "names") rfl)
  have na_Table_taken : NoAttr K ((gx K).C "Table") "taken" := He.noat_ok (cd.fact 45 (f := .noat "Table" "taken") rfl)
  have na_Table_weights : NoAttr K ((gx K).C "Table") "weights" := He.noat_ok (cd.fact 46 (f := .noat "Table" "weights") rfl)
  have na_Table_whole : NoAttr K ((gx K).C "Table") "whole" := He.noat_ok (cd.fact 47 (f := .noat "Table" "whole") rfl)
  have mt_Table_join := He.meth_ok (cd.fact 48 (f := .meth "Table" "join") rfl)
  have mt_Table_can_be_made := He.meth_ok (cd.fact 49 (f := .meth "Table" "can_be_made") rfl)
  have mt_Table_fill := He.meth_ok (cd.fact 50 (f := .meth "Table" "fill") rfl)
  have mk_Table := He.mkr_ok (cd.fact 51 (f := .mkr "Table") rfl)
  have gc_Table : mg "Table" = some (.ref ((gx K).C "Table")) := He.glo_ok X G (cd.fact 52 (f := .glo "Table") rfl)
  have x_NoLand := xc "NoLand" (by decide +kernel)
  obtain ⟨fd_names_of, D_names_of⟩ := cd.def_ 0 (d := dd_names_of) rfl
  have G_names_of : Fun K "names_of" "names_of" s_names_of (He.fAd K ("names_of", none)) fd_names_of := fun_of D_names_of
  obtain ⟨fd_row_of, D_row_of⟩ := cd.def_ 1 (d := dd_row_of) rfl
  have G_row_of : Fun K "row_of" "row_of" s_row_of (He.fAd K ("row_of", none)) fd_row_of := fun_of D_row_of
  obtain ⟨fd_takes, D_takes⟩ := cd.def_ 2 (d := dd_takes) rfl
  have G_takes : Fun K "takes" "takes" s_takes (He.fAd K ("takes", none)) fd_takes := fun_of D_takes
  obtain ⟨fd_worth_of, D_worth_of⟩ := cd.def_ 3 (d := dd_worth_of) rfl
  have G_worth_of : Fun K "worth_of" "worth_of" s_worth_of (He.fAd K ("worth_of", none)) fd_worth_of := fun_of D_worth_of
  obtain ⟨fd_bits_of, D_bits_of⟩ := cd.def_ 4 (d := dd_bits_of) rfl
  have G_bits_of : Fun K "bits_of" "bits_of" s_bits_of (He.fAd K ("bits_of", none)) fd_bits_of := fun_of D_bits_of
  obtain ⟨fd_set_of, D_set_of⟩ := cd.def_ 5 (d := dd_set_of) rfl
  have G_set_of : Fun K "set_of" "set_of" s_set_of (He.fAd K ("set_of", none)) fd_set_of := fun_of D_set_of
  obtain ⟨fd_parts_of, D_parts_of⟩ := cd.def_ 6 (d := dd_parts_of) rfl
  have G_parts_of : Fun K "parts_of" "parts_of" s_parts_of (He.fAd K ("parts_of", none)) fd_parts_of := fun_of D_parts_of
  obtain ⟨fd__law_is, D__law_is⟩ := cd.def_ 7 (d := dd__law_is) rfl
  have G__law_is : Fun K "_law_is" "_law_is" s__law_is (He.fAd K ("_law_is", none)) fd__law_is := fun_of D__law_is
  obtain ⟨fd__law_draw, D__law_draw⟩ := cd.def_ 8 (d := dd__law_draw) rfl
  have G__law_draw : Fun K "_law_draw" "_law_draw" s__law_draw (He.fAd K ("_law_draw", none)) fd__law_draw := fun_of D__law_draw
  obtain ⟨fd__law_begun, D__law_begun⟩ := cd.def_ 9 (d := dd__law_begun) rfl
  have G__law_begun : Fun K "_law_begun" "_law_begun" s__law_begun (He.fAd K ("_law_begun", none)) fd__law_begun := fun_of D__law_begun
  obtain ⟨fd__law_row, D__law_row⟩ := cd.def_ 10 (d := dd__law_row) rfl
  have G__law_row : Fun K "_law_row" "_law_row" s__law_row (He.fAd K ("_law_row", none)) fd__law_row := fun_of D__law_row
  obtain ⟨fd__law_takes, D__law_takes⟩ := cd.def_ 11 (d := dd__law_takes) rfl
  have G__law_takes : Fun K "_law_takes" "_law_takes" s__law_takes (He.fAd K ("_law_takes", none)) fd__law_takes := fun_of D__law_takes
  obtain ⟨fd_look_land, D_look_land⟩ := cd.def_ 12 (d := dd_look_land) rfl
  have G_look_land : Fun K "look_land" "look_land" s_look_land (He.fAd K ("look_land", none)) fd_look_land := fun_of D_look_land
  obtain ⟨fd_is_enough, D_is_enough⟩ := cd.def_ 13 (d := dd_is_enough) rfl
  have G_is_enough : Fun K "is_enough" "is_enough" s_is_enough (He.fAd K ("is_enough", none)) fd_is_enough := fun_of D_is_enough
  obtain ⟨fd_Table_join, D_Table_join⟩ := cd.def_ 14 (d := dd_Table_join) rfl
  have G_Table_join : Fun K "join" "Table.join" s_Table_join (He.fAd K ("Table", some "join")) fd_Table_join := fun_of D_Table_join
  obtain ⟨fd__law_a_book, D__law_a_book⟩ := cd.def_ 15 (d := dd__law_a_book) rfl
  have G__law_a_book : Fun K "_law_a_book" "_law_a_book" s__law_a_book (He.fAd K ("_law_a_book", none)) fd__law_a_book := fun_of D__law_a_book
  obtain ⟨fd__law_a_heap, D__law_a_heap⟩ := cd.def_ 16 (d := dd__law_a_heap) rfl
  have G__law_a_heap : Fun K "_law_a_heap" "_law_a_heap" s__law_a_heap (He.fAd K ("_law_a_heap", none)) fd__law_a_heap := fun_of D__law_a_heap
  obtain ⟨fd__law_has_share, D__law_has_share⟩ := cd.def_ 17 (d := dd__law_has_share) rfl
  have G__law_has_share : Fun K "_law_has_share" "_law_has_share" s__law_has_share (He.fAd K ("_law_has_share", none)) fd__law_has_share := fun_of D__law_has_share
  obtain ⟨fd_Table_can_be_made, D_Table_can_be_made⟩ := cd.def_ 18 (d := dd_Table_can_be_made) rfl
  have G_Table_can_be_made : Fun K "can_be_made" "Table.can_be_made" s_Table_can_be_made (He.fAd K ("Table", some "can_be_made")) fd_Table_can_be_made := fun_of D_Table_can_be_made
  obtain ⟨fd_Table_fill, D_Table_fill⟩ := cd.def_ 19 (d := dd_Table_fill) rfl
  have G_Table_fill : Fun K "fill" "Table.fill" s_Table_fill (He.fAd K ("Table", some "fill")) fd_Table_fill := fun_of D_Table_fill
  obtain ⟨fd__law_sets, D__law_sets⟩ := cd.def_ 20 (d := dd__law_sets) rfl
  have G__law_sets : Fun K "_law_sets" "_law_sets" s__law_sets (He.fAd K ("_law_sets", none)) fd__law_sets := fun_of D__law_sets
  obtain ⟨fd_Table___init__, D_Table___init__⟩ := cd.def_ 21 (d := dd_Table___init__) rfl
  have G_Table___init__ : Fun K "__init__" "Table.__init__" s_Table___init__ (He.fAd K ("Table", some "__init__")) fd_Table___init__ := fun_of D_Table___init__
  obtain ⟨fd_can_count, D_can_count⟩ := cd.def_ 22 (d := dd_can_count) rfl
  have G_can_count : Fun K "can_count" "can_count" s_can_count (He.fAd K ("can_count", none)) fd_can_count := fun_of D_can_count
  obtain ⟨fd_all_lands, D_all_lands⟩ := cd.def_ 23 (d := dd_all_lands) rfl
  have G_all_lands : Fun K "all_lands" "all_lands" s_all_lands (He.fAd K ("all_lands", none)) fd_all_lands := fun_of D_all_lands
  obtain ⟨fd_table_of, D_table_of⟩ := cd.def_ 24 (d := dd_table_of) rfl
  have G_table_of : Fun K "table_of" "table_of" s_table_of (He.fAd K ("table_of", none)) fd_table_of := fun_of D_table_of
  obtain ⟨fd__law_parted, D__law_parted⟩ := cd.def_ 25 (d := dd__law_parted) rfl
  have G__law_parted : Fun K "_law_parted" "_law_parted" s__law_parted (He.fAd K ("_law_parted", none)) fd__law_parted := fun_of D__law_parted
  obtain ⟨fd__law_is_made, D__law_is_made⟩ := cd.def_ 26 (d := dd__law_is_made) rfl
  have G__law_is_made : Fun K "_law_is_made" "_law_is_made" s__law_is_made (He.fAd K ("_law_is_made", none)) fd__law_is_made := fun_of D__law_is_made
  obtain ⟨fd__law_table, D__law_table⟩ := cd.def_ 27 (d := dd__law_table) rfl
  have G__law_table : Fun K "_law_table" "_law_table" s__law_table (He.fAd K ("_law_table", none)) fd__law_table := fun_of D__law_table
  obtain ⟨fd_law, D_law⟩ := cd.def_ 28 (d := dd_law) rfl
  have G_law : Fun K "law" "law" s_law (He.fAd K ("law", none)) fd_law := fun_of D_law
  obtain ⟨fd__law_heard, D__law_heard⟩ := cd.def_ 29 (d := dd__law_heard) rfl
  have G__law_heard : Fun K "_law_heard" "_law_heard" s__law_heard (He.fAd K ("_law_heard", none)) fd__law_heard := fun_of D__law_heard
  cases hfa.symm.trans g_law
  have bl := FunD.bindsA (ps := ["script"]) D_law fun _ _ _ _ _ _ us hl => match us, hl with | [_], _ => rfl
  refine ⟨fd_law, fun s v => bl s [v] rfl, fun base _ _ TB => ?_⟩
  have O_names_of : FnOk l.prog w K mg base (L2.CX l.prog w) 1 _ _ ["book"] (spA K mg 1 S_names_of) := ok_names_of G_names_of 
  have F_names_of : FnR l.prog w K mg base 1 "names_of" 1 S_names_of := ⟨_, _, _, O_names_of, g_names_of, G_names_of.kp, G_names_of.binds (ps := ["book"]) fun _ _ _ _ _ _ us hl => match us, hl with | [_], _ => rfl⟩
  have O_row_of : FnOk l.prog w K mg base (L2.CX l.prog w) 1 _ _ ["book", "land"] (spA K mg 2 S_row_of) := ok_row_of G_row_of 
  have F_row_of : FnR l.prog w K mg base 1 "row_of" 2 S_row_of := ⟨_, _, _, O_row_of, g_row_of, G_row_of.kp, G_row_of.binds (ps := ["book", "land"]) fun _ _ _ _ _ _ us hl => match us, hl with | [_, _], _ => rfl⟩
  have O_takes : FnOk l.prog w K mg base (L2.CX l.prog w) 1 _ _ ["book", "land"] (spA K mg 2 S_takes) := ok_takes G_takes m_sorted m_tuple
  have F_takes : FnR l.prog w K mg base 1 "takes" 2 S_takes := ⟨_, _, _, O_takes, g_takes, G_takes.kp, G_takes.binds (ps := ["book", "land"]) fun _ _ _ _ _ _ us hl => match us, hl with | [_, _], _ => rfl⟩
  have O_worth_of : FnOk l.prog w K mg base (L2.CX l.prog w) 1 _ _ ["heap", "things"] (spA K mg 2 S_worth_of) := ok_worth_of G_worth_of m_sum
  have F_worth_of : FnR l.prog w K mg base 1 "worth_of" 2 S_worth_of := ⟨_, _, _, O_worth_of, g_worth_of, G_worth_of.kp, G_worth_of.binds (ps := ["heap", "things"]) fun _ _ _ _ _ _ us hl => match us, hl with | [_, _], _ => rfl⟩
  have O_bits_of : FnOk l.prog w K mg base (L2.CX l.prog w) 1 _ _ ["things"] (spA K mg 1 S_bits_of) := ok_bits_of G_bits_of m_sum
  have F_bits_of : FnR l.prog w K mg base 1 "bits_of" 1 S_bits_of := ⟨_, _, _, O_bits_of, g_bits_of, G_bits_of.kp, G_bits_of.binds (ps := ["things"]) fun _ _ _ _ _ _ us hl => match us, hl with | [_], _ => rfl⟩
  have O_set_of : FnOk l.prog w K mg base (L2.CX l.prog w) 1 _ _ ["bits"] (spA K mg 1 S_set_of) := ok_set_of G_set_of m_range m_tuple
  have F_set_of : FnR l.prog w K mg base 1 "set_of" 1 S_set_of := ⟨_, _, _, O_set_of, g_set_of, G_set_of.kp, G_set_of.binds (ps := ["bits"]) fun _ _ _ _ _ _ us hl => match us, hl with | [_], _ => rfl⟩
  have O_parts_of : FnOk l.prog w K mg base (L2.CX l.prog w) 1 _ _ ["bits"] (spA K mg 1 S_parts_of) := ok_parts_of G_parts_of 
  have F_parts_of : FnR l.prog w K mg base 1 "parts_of" 1 S_parts_of := ⟨_, _, _, O_parts_of, g_parts_of, G_parts_of.kp, G_parts_of.binds (ps := ["bits"]) fun _ _ _ _ _ _ us hl => match us, hl with | [_], _ => rfl⟩
  have O__law_is : FnOk l.prog w K mg base (L2.CX l.prog w) 1 _ _ ["told", "due"] (spA K mg 2 S__law_is) := ok__law_is G__law_is m_bool m_isinstance
  have F__law_is : FnR l.prog w K mg base 1 "_law_is" 2 S__law_is := ⟨_, _, _, O__law_is, g__law_is, G__law_is.kp, G__law_is.binds (ps := ["told", "due"]) fun _ _ _ _ _ _ us hl => match us, hl with | [_, _], _ => rfl⟩
  have O__law_draw : FnOk l.prog w K mg base (L2.CX l.prog w) 1 _ _ ["script", "town", "many"] (spA K mg 3 S__law_draw) := ok__law_draw G__law_draw m_len
  have F__law_draw : FnR l.prog w K mg base 1 "_law_draw" 3 S__law_draw := ⟨_, _, _, O__law_draw, g__law_draw, G__law_draw.kp, G__law_draw.binds (ps := ["script", "town", "many"]) fun _ _ _ _ _ _ us hl => match us, hl with | [_, _, _], _ => rfl⟩
  have O__law_begun : FnOk l.prog w K mg base (L2.CX l.prog w) 1 _ _ [] (spA K mg 0 S__law_begun) := ok__law_begun G__law_begun 
  have F__law_begun : FnR l.prog w K mg base 1 "_law_begun" 0 S__law_begun := ⟨_, _, _, O__law_begun, g__law_begun, G__law_begun.kp, G__law_begun.binds (ps := []) fun _ _ _ _ _ _ us hl => match us, hl with | [], _ => rfl⟩
  have O__law_row : FnOk l.prog w K mg base (L2.CX l.prog w) 1 _ _ ["book", "land_here"] (spA K mg 2 S__law_row) := ok__law_row G__law_row 
  have F__law_row : FnR l.prog w K mg base 1 "_law_row" 2 S__law_row := ⟨_, _, _, O__law_row, g__law_row, G__law_row.kp, G__law_row.binds (ps := ["book", "land_here"]) fun _ _ _ _ _ _ us hl => match us, hl with | [_, _], _ => rfl⟩
  have O__law_takes : FnOk l.prog w K mg base (L2.CX l.prog w) 1 _ _ ["book", "land_here"] (spA K mg 2 S__law_takes) := ok__law_takes G__law_takes m_sorted
  have F__law_takes : FnR l.prog w K mg base 1 "_law_takes" 2 S__law_takes := ⟨_, _, _, O__law_takes, g__law_takes, G__law_takes.kp, G__law_takes.binds (ps := ["book", "land_here"]) fun _ _ _ _ _ _ us hl => match us, hl with | [_, _], _ => rfl⟩
  have O_look_land : FnOk l.prog w K mg base (L2.CX l.prog w) 2 _ _ ["book", "land"] (spA K mg 2 S_look_land) := ok_look_land G_look_land m_isinstance m_str F_names_of x_NoLand
  have F_look_land : FnR l.prog w K mg base 2 "look_land" 2 S_look_land := ⟨_, _, _, O_look_land, g_look_land, G_look_land.kp, G_look_land.binds (ps := ["book", "land"]) fun _ _ _ _ _ _ us hl => match us, hl with | [_, _], _ => rfl⟩
  have O_is_enough : FnOk l.prog w K mg base (L2.CX l.prog w) 2 _ _ ["book", "land", "counting", "whole"] (spA K mg 4 S_is_enough) := ok_is_enough G_is_enough F_row_of
  have F_is_enough : FnR l.prog w K mg base 2 "is_enough" 4 S_is_enough := ⟨_, _, _, O_is_enough, g_is_enough, G_is_enough.kp, G_is_enough.binds (ps := ["book", "land", "counting", "whole"]) fun _ _ _ _ _ _ us hl => match us, hl with | [_, _, _, _], _ => rfl⟩
  have O_Table_join : FnOk l.prog w K mg base (L2.CX l.prog w) 2 _ _ ["self", "land", "bits"] (spA K mg 3 (S_Table_join (gx K))) := ok_Table_join (G := gx K) G_Table_join m_any F_parts_of cl_Table na_Table_good na_Table_joined na_Table_taken
  have M_Table_join : MtR l.prog w K mg base 2 ((gx K).C "Table") "join" 3 (S_Table_join (gx K)) := ⟨_, _, _, O_Table_join, mt_Table_join, G_Table_join.binds (ps := ["self", "land", "bits"]) fun _ _ _ _ _ _ us hl => match us, hl with | [_, _, _], _ => rfl⟩
  have O__law_a_book : FnOk l.prog w K mg base (L2.CX l.prog w) 2 _ _ ["script", "town"] (spA K mg 2 S__law_a_book) := ok__law_a_book G__law_a_book m_tuple F__law_draw
  have F__law_a_book : FnR l.prog w K mg base 2 "_law_a_book" 2 S__law_a_book := ⟨_, _, _, O__law_a_book, g__law_a_book, G__law_a_book.kp, G__law_a_book.binds (ps := ["script", "town"]) fun _ _ _ _ _ _ us hl => match us, hl with | [_, _], _ => rfl⟩
  have O__law_a_heap : FnOk l.prog w K mg base (L2.CX l.prog w) 2 _ _ ["script", "town", "book", "most"] (spA K mg 4 S__law_a_heap) := ok__law_a_heap G__law_a_heap m_len m_range m_tuple F__law_draw
  have F__law_a_heap : FnR l.prog w K mg base 2 "_law_a_heap" 4 S__law_a_heap := ⟨_, _, _, O__law_a_heap, g__law_a_heap, G__law_a_heap.kp, G__law_a_heap.binds (ps := ["script", "town", "book", "most"]) fun _ _ _ _ _ _ us hl => match us, hl with | [_, _, _, _], _ => rfl⟩
  have O__law_has_share : FnOk l.prog w K mg base (L2.CX l.prog w) 2 _ _ ["book", "land_here", "counting", "whole"] (spA K mg 4 S__law_has_share) := ok__law_has_share G__law_has_share F__law_row
  have F__law_has_share : FnR l.prog w K mg base 2 "_law_has_share" 4 S__law_has_share := ⟨_, _, _, O__law_has_share, g__law_has_share, G__law_has_share.kp, G__law_has_share.binds (ps := ["book", "land_here", "counting", "whole"]) fun _ _ _ _ _ _ us hl => match us, hl with | [_, _, _, _], _ => rfl⟩
  have O_Table_can_be_made : FnOk l.prog w K mg base (L2.CX l.prog w) 3 _ _ ["self", "land", "bits"] (spA K mg 3 (S_Table_can_be_made (gx K))) := ok_Table_can_be_made (G := gx K) G_Table_can_be_made F_is_enough F_parts_of cl_Table na_Table_book na_Table_joined na_Table_weights
  have M_Table_can_be_made : MtR l.prog w K mg base 3 ((gx K).C "Table") "can_be_made" 3 (S_Table_can_be_made (gx K)) := ⟨_, _, _, O_Table_can_be_made, mt_Table_can_be_made, G_Table_can_be_made.binds (ps := ["self", "land", "bits"]) fun _ _ _ _ _ _ us hl => match us, hl with | [_, _, _], _ => rfl⟩
  have O_Table_fill : FnOk l.prog w K mg base (L2.CX l.prog w) 4 _ _ ["self", "bits"] (spA K mg 2 (S_Table_fill (gx K))) := ok_Table_fill (G := gx K) G_Table_fill m_len F_set_of cl_Table na_Table_good na_Table_heap na_Table_names M_Table_can_be_made M_Table_join
  have M_Table_fill : MtR l.prog w K mg base 4 ((gx K).C "Table") "fill" 2 (S_Table_fill (gx K)) := ⟨_, _, _, O_Table_fill, mt_Table_fill, G_Table_fill.binds (ps := ["self", "bits"]) fun _ _ _ _ _ _ us hl => match us, hl with | [_, _], _ => rfl⟩
  have O__law_sets : FnOk l.prog w K mg base (L2.CX l.prog w) 4 _ _ ["many"] (spA K mg 1 (S__law_sets (gx K))) := ok__law_sets (G := gx K) G__law_sets m_len m_range m_sorted (fun cdv e => code_law G__law_sets e) (TB ("_law_sets", none) (by simp [hTf]))
  have F__law_sets : FnR l.prog w K mg base 4 "_law_sets" 1 (S__law_sets (gx K)) := ⟨_, _, _, O__law_sets, g__law_sets, G__law_sets.kp, G__law_sets.binds (ps := ["many"]) fun _ _ _ _ _ _ us hl => match us, hl with | [_], _ => rfl⟩
  have O_Table___init__ : FnOk l.prog w K mg base (L2.CX l.prog w) 5 _ _ ["self", "book", "heap"] (spA K mg 3 (S_Table___init__ (gx K))) := ok_Table___init__ (G := gx K) G_Table___init__ m_len m_list m_range m_sorted F_names_of F_set_of F_takes F_worth_of cl_Table na_Table_book na_Table_good na_Table_heap na_Table_joined na_Table_names na_Table_taken na_Table_weights na_Table_whole M_Table_fill (fun cdv e => code_law G_Table___init__ e) (TB ("Table", some "__init__") (by simp [hTf]))
  have MK_Table : MkR l.prog w K mg base 5 "Table" ((gx K).C "Table") 3 (S_Table___init__ (gx K)) := ⟨_, _, _, O_Table___init__, mk_Table, gc_Table, G_Table___init__.binds (ps := ["self", "book", "heap"]) fun _ _ _ _ _ _ us hl => match us, hl with | [_, _, _], _ => rfl⟩
  have O_can_count : FnOk l.prog w K mg base (L2.CX l.prog w) 7 _ _ ["book", "heap", "things", "land"] (spA K mg 4 (S_can_count (gx K))) := ok_can_count (G := gx K) G_can_count F_bits_of F_look_land cl_Table na_Table_good MK_Table
  have F_can_count : FnR l.prog w K mg base 7 "can_count" 4 (S_can_count (gx K)) := ⟨_, _, _, O_can_count, g_can_count, G_can_count.kp, G_can_count.binds (ps := ["book", "heap", "things", "land"]) fun _ _ _ _ _ _ us hl => match us, hl with | [_, _, _, _], _ => rfl⟩
  have K_can_count_land : FnKR l.prog w K mg base 7 "can_count" 3 ["land"] (S_can_count (gx K)) := ⟨_, _, _, O_can_count, g_can_count, G_can_count.kp, kbinds (ks := ["land"]) (np := 3) G_can_count (by simp) fun _ _ _ _ _ _ us ws h1 h2 => match us, ws, h1, h2 with | [_, _, _], [_], _, _ => rfl⟩
  have O_all_lands : FnOk l.prog w K mg base (L2.CX l.prog w) 7 _ _ ["book", "heap"] (spA K mg 2 (S_all_lands (gx K))) := ok_all_lands (G := gx K) G_all_lands m_tuple cl_Table na_Table_good na_Table_names na_Table_whole MK_Table
  have F_all_lands : FnR l.prog w K mg base 7 "all_lands" 2 (S_all_lands (gx K)) := ⟨_, _, _, O_all_lands, g_all_lands, G_all_lands.kp, G_all_lands.binds (ps := ["book", "heap"]) fun _ _ _ _ _ _ us hl => match us, hl with | [_, _], _ => rfl⟩
  have K_all_lands_heap : FnKR l.prog w K mg base 7 "all_lands" 1 ["heap"] (S_all_lands (gx K)) := ⟨_, _, _, O_all_lands, g_all_lands, G_all_lands.kp, kbinds (ks := ["heap"]) (np := 1) G_all_lands (by simp) fun _ _ _ _ _ _ us ws h1 h2 => match us, ws, h1, h2 with | [_], [_], _, _ => rfl⟩
  have O_table_of : FnOk l.prog w K mg base (L2.CX l.prog w) 7 _ _ ["book", "heap"] (spA K mg 2 (S_table_of (gx K))) := ok_table_of (G := gx K) G_table_of m_sorted m_tuple F_set_of cl_Table na_Table_good na_Table_names MK_Table
  have F_table_of : FnR l.prog w K mg base 7 "table_of" 2 (S_table_of (gx K)) := ⟨_, _, _, O_table_of, g_table_of, G_table_of.kp, G_table_of.binds (ps := ["book", "heap"]) fun _ _ _ _ _ _ us hl => match us, hl with | [_, _], _ => rfl⟩
  have K_table_of_heap : FnKR l.prog w K mg base 7 "table_of" 1 ["heap"] (S_table_of (gx K)) := ⟨_, _, _, O_table_of, g_table_of, G_table_of.kp, kbinds (ks := ["heap"]) (np := 1) G_table_of (by simp) fun _ _ _ _ _ _ us ws h1 h2 => match us, ws, h1, h2 with | [_], [_], _, _ => rfl⟩
  have R__law_parted : ∀ d, FnR l.prog w K mg base (0 + d) "_law_parted" 2 (SR__law_parted d) := fun d => by
    have hb := G__law_parted.binds (ps := ["things", "good"]) fun _ _ _ _ _ _ us hl => match us, hl with | [_, _], _ => rfl
    induction d with
    | zero => exact ⟨_, _, ["things", "good"], fn_no no__law_parted, g__law_parted, G__law_parted.kp, hb⟩
    | succ d ih => exact ⟨_, _, _, ok__law_parted G__law_parted (bo__law_parted N__law_parted rfl d) ih m_tuple, g__law_parted, G__law_parted.kp, hb⟩
  have F__law_parted : FnR l.prog w K mg base 24 "_law_parted" 2 S__law_parted := R__law_parted 24
  have O__law_is_made : FnOk l.prog w K mg base (L2.CX l.prog w) 25 _ _ ["book", "heap_here", "found", "things", "land_here"] (spA K mg 5 (S__law_is_made (gx K))) := ok__law_is_made (G := gx K) G__law_is_made m_len m_sum m_tuple F__law_has_share F__law_parted F__law_sets F__law_takes
  have F__law_is_made : FnR l.prog w K mg base 25 "_law_is_made" 5 (S__law_is_made (gx K)) := ⟨_, _, _, O__law_is_made, g__law_is_made, G__law_is_made.kp, G__law_is_made.binds (ps := ["book", "heap_here", "found", "things", "land_here"]) fun _ _ _ _ _ _ us hl => match us, hl with | [_, _, _, _, _], _ => rfl⟩
  have O__law_table : FnOk l.prog w K mg base (L2.CX l.prog w) 26 _ _ ["book", "heap_here"] (spA K mg 2 (S__law_table (gx K))) := ok__law_table (G := gx K) G__law_table m_dict m_enumerate m_len F__law_is_made F__law_sets
  have F__law_table : FnR l.prog w K mg base 26 "_law_table" 2 (S__law_table (gx K)) := ⟨_, _, _, O__law_table, g__law_table, G__law_table.kp, G__law_table.binds (ps := ["book", "heap_here"]) fun _ _ _ _ _ _ us hl => match us, hl with | [_, _], _ => rfl⟩
  exact ok_endT (G := gx K) rfl (by rw [gx_ts]; exact cnd) (ok_law (G := gx K) G_law m_len m_range m_sorted m_tuple F__law_a_book F__law_a_heap F__law_begun F__law_draw F__law_is F__law_sets F__law_table F_can_count K_all_lands_heap K_can_count_land K_table_of_heap (fun cdv e => code_law G_law e) (TB ("law", none) (by simp [hTf])) G__law_heard g__law_heard HC m_isinstance m_len m_ValueError)
def loose0 : List PySem.Str := ["CountError", "NoLand", "NoPath", "TooMany", "NoClaims", "NoThing", "NoWorth", "BadBook", "NoBack", "NoText", "NotOf", "names_of", "look_land", "row_of", "takes", "worth_of", "is_enough", "bits_of", "set_of", "parts_of", "Table", "can_count", "all_lands", "table_of", "_law_heard", "_law_is", "_law_draw", "_law_begun", "_law_a_book", "_law_a_heap"]
def loose1 : List PySem.Str := ["_law_row", "_law_takes", "_law_has_share", "_law_sets", "_law_parted", "_law_is_made", "_law_table"]
def loose : List PySem.Str := loose0 ++ loose1
abbrev hk : PySem.W.Hook := He.hookX 4 hFa hFn [] hTf (exT ["NoLand"] hTf)
def ob (s : PySem.W.SharedT) : He.AlX := He.obsX 4 hFa hFn [] hTf (exT ["NoLand"] hTf) (HandSHeadRun.getT s)
theorem ob_eq (s : PySem.W.SharedT) : ob s = hk.obs s.abs := He.obsX_eq (HandSHeadRun.getT_eq s)
set_option maxHeartbeats 0 in
theorem run (w : World) : HandSHeadRun.RunEq (PySem.W.OpenLaw.row PySem.Challenge.rw_countsfrom_k07_tables) (PySem.W.view (PySem.W.OpenLaw.row PySem.Challenge.rw_countsfrom_k07_tables).prog [41]) hk ob 20000 loose w := by
  intro os
  kernel_rfl
end DL
open PySem PySem.W PySem.Calls PyProof.Rows
set_option maxRecDepth 100000 in
set_option maxHeartbeats 0 in
theorem PySem.Challenge.cw_countsfrom_k07_tables_holds : PySem.Challenge.rw_countsfrom_k07_tables.Holds := by
  w_on; o_law
  refine HandSHeadRun.head_any (r := (PySem.W.OpenLaw.row PySem.Challenge.rw_countsfrom_k07_tables)) (q := view (PySem.W.OpenLaw.row PySem.Challenge.rw_countsfrom_k07_tables).prog [41]) (H := DL.hk) (ob := DL.ob) (M := 20000) (loose := DL.loose) (d := HandSHeadRun.topDef (PySem.W.OpenLaw.row PySem.Challenge.rw_countsfrom_k07_tables).prog 41) (kwd := []) DL.ob_eq
    (by kernel_rfl) (fun s => by kernel_rfl) DL.run (by kernel_rfl) (by kernel_rfl) (by kernel_rfl) (by rfl) (by first | assumption | decide +kernel) (by decide +kernel) ⟨rfl, rfl, rfl, rfl, rfl, by decide +kernel⟩ ?hw ?hc
  case hw => w_witness2
  case hc =>
    refine DL.walkT (l := PySem.Challenge.rw_countsfrom_k07_tables) (k := 29) rfl (by kernel_rfl) (by kernel_rfl) ⟨rfl, by decide, by decide⟩ ?F
    intro w K mg f h KX G hmg c
    exact DL.all_mk KX G hmg c
