import PyProof.Rows.All
import Wide.All
import OpenK.AllK
import Wide.FinOn
import HandS.Conv
import HandS.Dict
import HandS.Style
import HandS.Lambda
import KE.KDictKeyed
import HandS.ForMost
import HandS.ForExc
import HandS.IsInst
import HandS.TupAny
import HandS.TupMul
import HandS.Zip
import HandS.Deep
import HandS.Flow
import HandS.TupLe
import HandS.SortInts
import KE.GoesEnum
import KE.GoesMore
import HandS.ExcIs
import KE.KExcIs
import PyProof.ExcBaseAll.ValueError
import HandS.SortRule
import HandS.SetFor
import HandS.More
import KE.SortKeyHeap
import HandS.DictComp
import KE.KDictPairs
import KE.BitLaws
import HandS.EndTab
import HandS.HeadWalk
import HandS.HeadHook4
import HandS.HeadEnd
import HandS.NestedK
import HandS.FStr
import KE.KCallOwn
import PyProof.InstNe
import KE.KExcStr
import HandS.Text
import HandS.RaiseMore
import HandS.ExcInit
import HandS.ExcField
import HandS.WordsExc
import HandS.Strs
import HandS.DictTup
import KE.KSortTupAny
import KE.KItemsList
import KE.DataMinMax
import KE.KMinKey
import PyProof.Rows.SortKeyStr
import PyProof.DictKinds
import HandS.Head0
import HandS.Head1
import HandS.Head2
import PySem.Challenge.RW_countsfrom_k26_judged
set_option Elab.async false
set_option linter.all false
set_option maxRecDepth 100000
set_option maxHeartbeats 4000000
namespace DL
open PySem PySem.Spec PyProof.Rows L2
mutual
def NK (H : Hp) : NestedKey → V → Prop
  | .none, x => x = .non
  | .num i, x => x = .int i
  | .text z, x => x = .str z
  | .tup ks, x => ∃ a xs, x = .ref a ∧ H a = some (.tup xs) ∧ NKs H ks xs
def NKs (H : Hp) : List NestedKey → List V → Prop
  | [], xs => xs = []
  | k :: ks, xs => ∃ y ys, xs = y :: ys ∧ NK H k y ∧ NKs H ks ys
end
mutual
theorem NK.is {P : Program} {w : World} {H : Hp} {hp : Heap} (ok : HOk P w H hp) : ∀ {k : NestedKey} {x : V} {u : Value}, NK H k x → RelV x u → NestedIs hp k u
  | .none, x, u, h, r => by
    rw [NK] at h; subst h
    obtain rfl : u = Value.none := r
    exact .none
  | .num i, x, u, h, r => by
    rw [NK] at h; subst h
    obtain ⟨t, rfl⟩ : ∃ t, u = Value.int i t := r
    exact .int i t
  | .text z, x, u, h, r => by
    rw [NK] at h; subst h
    obtain ⟨t, rfl⟩ : ∃ t, u = Value.str z t := r
    exact .text z t
  | .tup ks, x, u, h, r => by
    rw [NK] at h
    obtain ⟨a, xs, rfl, ha, hk⟩ := h
    obtain rfl : u = Value.ref a := r
    obtain ⟨_, its, rv, o, h1, h2, n, h3⟩ := (show ObjOk P w H hp a (.tup xs) from ok a _ ha)
    exact .tup h1 h2 h3 (by simpa using NKs.is ok hk rv)
theorem NKs.is {P : Program} {w : World} {H : Hp} {hp : Heap} (ok : HOk P w H hp) : ∀ {ks : List NestedKey} {xs : List V} {us : List Value}, NKs H ks xs → Vals xs us → NestedAll hp ks us
  | [], xs, us, h, r => by
    rw [NKs] at h; subst h
    cases r
    exact .nil
  | k :: ks, xs, us, h, r => by
    rw [NKs] at h
    obtain ⟨y, ys, rfl, h1, h2⟩ := h
    cases r with
    | cons r1 r2 => exact .cons (NK.is ok h1 r1) (NKs.is ok h2 r2)
end
mutual
theorem NK.keeps {H H' : Hp} (ht : ∀ b xs, H b = some (.tup xs) → H' b = some (.tup xs)) : ∀ {k : NestedKey} {x : V}, NK H k x → NK H' k x
  | .none, x, h => by rw [NK] at h ⊢; exact h
  | .num i, x, h => by rw [NK] at h ⊢; exact h
  | .text i, x, h => by rw [NK] at h ⊢; exact h
  | .tup ks, x, h => by
    rw [NK] at h ⊢
    obtain ⟨a, xs, e, ha, hk⟩ := h
    exact ⟨a, xs, e, ht _ _ ha, NKs.keeps ht hk⟩
theorem NKs.keeps {H H' : Hp} (ht : ∀ b xs, H b = some (.tup xs) → H' b = some (.tup xs)) : ∀ {ks : List NestedKey} {xs : List V}, NKs H ks xs → NKs H' ks xs
  | [], xs, h => by rw [NKs] at h ⊢; exact h
  | k :: ks, xs, h => by
    rw [NKs] at h ⊢
    obtain ⟨y, ys, e, h1, h2⟩ := h
    exact ⟨y, ys, e, NK.keeps ht h1, NKs.keeps ht h2⟩
end
abbrev NE := NestedKey × Addr × V
abbrev NEs : List NE → List (NestedKey × Addr × Value) → Prop := Paired fun p q => p.1 = q.1 ∧ p.2.1 = q.2.1 ∧ RelV p.2.2 q.2.2
def entryN (w : World) (x : NestedKey × Addr × Value) : DictEntry := ⟨x.1.hash w, .ref x.2.1, x.2.2⟩
def DNp (w : World) (a : Addr) (xs : List NE) (hp : Heap) : Prop := xs.length ≤ sizeLine ∧ (a == sysModules) = false ∧ ∃ vs, NEs xs vs ∧ ∃ o es ep, hp.get? a = some o ∧ o.ExactDict ∧ o.data = .dict es ep ∧ es.toList = vs.map (entryN w) ∧ (vs.map (·.1)).Nodup
def DNO (w : World) (a : Addr) (xs : List NE) : HO := .ext (DNp w a xs)
def KeyE (H : Hp) (xs : List NE) : Prop := ∀ e ∈ xs, NK H e.1 (.ref e.2.1) ∧ e.1.depth ≤ 8
def valN (xs : List NE) (k : NestedKey) : Option V := (xs.find? fun x => decide (x.1 = k)).map (·.2.2)
def putN (xs : List NE) (k : NestedKey) (b : Addr) (v : V) : List NE := if (valN xs k).isSome then xs.map (fun x => if x.1 = k then (x.1, x.2.1, v) else x) else xs ++ [(k, b, v)]
section
variable {X : Cx} {pins : List (Addr × Obj)} {σ : L2.St} {H : Hp} {s : Shared} {a b : Addr} {v : V} {u r : Value} {A : Around} {E : Value → Shared → Prop} {xs : List NE} {k : NestedKey}
theorem RelO.getD {o : Option V} {o' : Option Value} {x : V} {u : Value} (r : RelO o o') (rx : RelV x u) : RelV (o.getD x) (o'.getD u) := by
  cases o with
  | none => cases o' with
    | none => exact rx
    | some _ => exact r.elim
  | some _ => cases o' with
    | none => exact r.elim
    | some _ => exact r
end
section
variable {X : Cx} {o i e f value : Expr} {pos pos' tpos apos cpos : Pos} {td ty tv tx : TE}
end
end DL
namespace DL
open PySem PySem.Spec PyProof.Rows L2
inductive Val where
  | non | bl (b : Bool) | int (i : Int) | str (x : Str) | tup (vs : List Val) | tpo (vs : List Val) | lst (vs : List Val) | scr (ns : List Int) | ref (a : Addr) | ty (n : String)

inductive Ob where
  | lst (vs : List Val)
  | dK (kvs : List (Key × Val))
  | dT (kvs : List (List Key × Val))
  | ins (C : Addr) (fs : List (Str × Val))
  /-- a dict that is walked, and changed no more -/
  | dF (o : Obj) (xs : List (Key × V)) (kvs : List (Key × Val))
  /-- .. of tuple keys -/
  | dFT (o : Obj) (xs : List (List Key × V)) (kvs : List (List Key × Val))
  /-- an exception that was caught, of the class at C -/
  | exc (C : Addr)
  /-- .. that bears a value, of the class at C -/
  | excd (C : Addr) (v : Val)
  /-- a table of code objects -/
  | tab (q : Str)
  /-- a dict whose keys are tuples, nested -/
  | dN (w : World) (kvs : List (NestedKey × Val))
  /-- a place that is being filled: nothing is known of it here -/
  | busy

abbrev Hv := Addr → Option Ob
def put (h : Hv) (a : Addr) (o : Ob) : Hv := fun b => if b = a then some o else h b
theorem put_same {h : Hv} {a : Addr} {o : Ob} : put h a o a = some o := by unfold put; rw [if_pos rfl]
theorem put_ne {h : Hv} {a b : Addr} {o : Ob} (e : b ≠ a) : put h a o b = h b := by unfold put; rw [if_neg e]
theorem put_put {h : Hv} {a : Addr} {o u : Ob} : put (put h a o) a u = put h a u := by
  funext b; unfold put; split <;> rfl

def KL (K : PySem.W.Frag) (a : Addr) (xs : List V) : Prop :=
  ∃ (o : Obj) (its : Array Value) (n : Nat), K.lookup a = some o ∧ o.cls = .type "list" ∧ o.dict = none ∧ o.data = .seq its n ∧ its.size ≤ sizeLine ∧ Vals xs its.toList

mutual
def RV (K : PySem.W.Frag) (H : Hp) (h : Hv) : Val → V → Prop
  | .non, x => x = .non
  | .bl b, x => x = .bl b
  | .int i, x => x = .int i
  | .str s, x => x = .str s
  | .tup vs, x => ∃ a xs, x = .ref a ∧ h a = none ∧ H a = some (.tup xs) ∧ RVs K H h vs xs
  | .tpo vs, x => ∃ a xs o, x = .ref a ∧ h a = none ∧ H a = some (.frz o (.tup xs)) ∧ o.dict = none ∧ RVs K H h vs xs
  | .lst vs, x => ∃ a xs, x = .ref a ∧ h a = none ∧ H a = some (.lst xs) ∧ RVs K H h vs xs
  | .scr ns, x => ∃ a, x = .ref a ∧ ((h a = none ∧ Rd H a (.lst (ns.map V.int))) ∨ KL K a (ns.map V.int))
  | .ref a, x => x = .ref a
  | .ty n, x => x = .ty n
def RVs (K : PySem.W.Frag) (H : Hp) (h : Hv) : List Val → List V → Prop
  | [], xs => xs = []
  | v :: vs, xs => ∃ y ys, xs = y :: ys ∧ RV K H h v y ∧ RVs K H h vs ys
end
def NT (o : HO) : Prop := ∀ ps, o ≠ .tbl ps
def StepN (h : Hv) (H : Hp) (h' : Hv) (H' : Hp) : Prop := ∀ a o, H a = some o → h a = none → NT o → H' a = some o ∧ h' a = none
structure Step (h : Hv) (H : Hp) (h' : Hv) (H' : Hp) : Prop where
  n : StepN h H h' H'
  b : ∀ a o, H a = some o → h a = some .busy → H' a = some o ∧ h' a = some .busy

theorem Step.refl (h : Hv) (H : Hp) : Step h H h H := ⟨fun _ _ e n _ => ⟨e, n⟩, fun _ _ e n => ⟨e, n⟩⟩
theorem Step.trans {h h1 h2 : Hv} {H H1 H2 : Hp} (x : Step h H h1 H1) (y : Step h1 H1 h2 H2) : Step h H h2 H2 := ⟨fun a o e n t =>
  let ⟨e1, n1⟩ := x.n a o e n t
  y.n a o e1 n1 t, fun a o e n =>
  let ⟨e1, n1⟩ := x.b a o e n
  y.b a o e1 n1⟩

theorem StepN.trans {h h1 h2 : Hv} {H H1 H2 : Hp} (x : StepN h H h1 H1) (y : StepN h1 H1 h2 H2) : StepN h H h2 H2 := fun a o e n t =>
  let ⟨e1, n1⟩ := x a o e n t
  y a o e1 n1 t
theorem nt_tup {xs : List V} : NT (.tup xs) := fun _ z => nomatch z
theorem nt_lst {xs : List V} : NT (.lst xs) := fun _ z => nomatch z
theorem nt_frz {o : Obj} {u : HO} : NT (.frz o u) := fun _ z => nomatch z

section
variable {K : PySem.W.Frag} {H H' : Hp} {h h' : Hv}
mutual
theorem RV.stepN (s : StepN h H h' H') : ∀ {v : Val} {x : V}, RV K H h v x → RV K H' h' v x
  | .non, x, r => by rw [RV] at r ⊢; exact r
  | .bl b, x, r => by rw [RV] at r ⊢; exact r
  | .int i, x, r => by rw [RV] at r ⊢; exact r
  | .str z, x, r => by rw [RV] at r ⊢; exact r
  | .tup vs, x, r => by
    rw [RV] at r ⊢
    obtain ⟨a, xs, e, n, ha, rs⟩ := r
    exact ⟨a, xs, e, (s a _ ha n nt_tup).2, (s a _ ha n nt_tup).1, RVs.stepN s rs⟩
  | .tpo vs, x, r => by
    rw [RV] at r ⊢
    obtain ⟨a, xs, o, e, n, ha, hd, rs⟩ := r
    exact ⟨a, xs, o, e, (s a _ ha n nt_frz).2, (s a _ ha n nt_frz).1, hd, RVs.stepN s rs⟩
  | .lst vs, x, r => by
    rw [RV] at r ⊢
    obtain ⟨a, xs, e, n, ha, rs⟩ := r
    exact ⟨a, xs, e, (s a _ ha n nt_lst).2, (s a _ ha n nt_lst).1, RVs.stepN s rs⟩
  | .scr ns, x, r => by
    rw [RV] at r ⊢
    obtain ⟨a, e, r⟩ := r
    refine ⟨a, e, ?_⟩
    rcases r with ⟨n, q | ⟨o, q⟩⟩ | q
    · exact .inl ⟨(s a _ q n nt_lst).2, .inl (s a _ q n nt_lst).1⟩
    · exact .inl ⟨(s a _ q n nt_frz).2, .inr ⟨o, (s a _ q n nt_frz).1⟩⟩
    · exact .inr q
  | .ref a, x, r => by rw [RV] at r ⊢; exact r
  | .ty n, x, r => by rw [RV] at r ⊢; exact r
theorem RVs.stepN (s : StepN h H h' H') : ∀ {vs : List Val} {xs : List V}, RVs K H h vs xs → RVs K H' h' vs xs
  | [], xs, r => by rw [RVs] at r ⊢; exact r
  | v :: vs, xs, r => by
    rw [RVs] at r ⊢
    obtain ⟨y, ys, e, r1, r2⟩ := r
    exact ⟨y, ys, e, RV.stepN s r1, RVs.stepN s r2⟩
end
theorem RV.step (s : Step h H h' H') {v : Val} {x : V} (r : RV K H h v x) : RV K H' h' v x := r.stepN s.n
theorem RVs.step (s : Step h H h' H') {v : List Val} {x : List V} (r : RVs K H h v x) : RVs K H' h' v x := r.stepN s.n
theorem RVs.len : ∀ {vs : List Val} {xs : List V}, RVs K H h vs xs → vs.length = xs.length
  | [], xs, r => by rw [RVs] at r; rw [r]; rfl
  | v :: vs, xs, r => by
    rw [RVs] at r
    obtain ⟨y, ys, e, _, r2⟩ := r
    rw [e, List.length_cons, List.length_cons, RVs.len r2]
theorem RVs.nil : RVs K H h [] [] := by rw [RVs]
theorem RVs.cons {v : Val} {vs : List Val} {x : V} {xs : List V} (r : RV K H h v x) (rs : RVs K H h vs xs) : RVs K H h (v :: vs) (x :: xs) := by
  rw [RVs]; exact ⟨x, xs, rfl, r, rs⟩
theorem RVs.get : ∀ {vs : List Val} {xs : List V} {i : Nat} {v : Val}, RVs K H h vs xs → vs[i]? = some v → ∃ x, xs[i]? = some x ∧ RV K H h v x
  | [], _, _, _, _, e => by simp at e
  | w :: vs, xs, 0, v, r, e => by
    rw [RVs] at r
    obtain ⟨y, ys, e1, r1, _⟩ := r
    simp at e
    subst e
    exact ⟨y, by rw [e1]; rfl, r1⟩
  | w :: vs, xs, i + 1, v, r, e => by
    rw [RVs] at r
    obtain ⟨y, ys, e1, _, r2⟩ := r
    obtain ⟨x, h1, h2⟩ := RVs.get (i := i) r2 (by simpa using e)
    exact ⟨x, by rw [e1]; simpa using h1, h2⟩
theorem RVs.append : ∀ {vs ws : List Val} {xs ys : List V}, RVs K H h vs xs → RVs K H h ws ys → RVs K H h (vs ++ ws) (xs ++ ys)
  | [], ws, xs, ys, r, q => by rw [RVs] at r; rw [r]; exact q
  | v :: vs, ws, xs, ys, r, q => by
    rw [RVs] at r
    obtain ⟨y, zs, e1, r1, r2⟩ := r
    rw [e1]
    exact RVs.cons r1 (RVs.append r2 q)
theorem RVs.take : ∀ {vs : List Val} {xs : List V} (n : Nat), RVs K H h vs xs → RVs K H h (vs.take n) (xs.take n)
  | _, _, 0, _ => RVs.nil
  | [], xs, n + 1, r => by rw [RVs] at r; rw [r]; exact RVs.nil
  | v :: vs, xs, n + 1, r => by
    rw [RVs] at r
    obtain ⟨y, zs, e1, r1, r2⟩ := r
    rw [e1]
    exact RVs.cons r1 (RVs.take n r2)
theorem RVs.drop : ∀ {vs : List Val} {xs : List V} (n : Nat), RVs K H h vs xs → RVs K H h (vs.drop n) (xs.drop n)
  | _, _, 0, r => r
  | [], xs, n + 1, r => by rw [RVs] at r; rw [r]; exact RVs.nil
  | v :: vs, xs, n + 1, r => by
    rw [RVs] at r
    obtain ⟨y, zs, e1, r1, r2⟩ := r
    rw [e1]
    exact RVs.drop n r2
theorem RVs.reverse : ∀ {vs : List Val} {xs : List V}, RVs K H h vs xs → RVs K H h vs.reverse xs.reverse
  | [], xs, r => by rw [RVs] at r; rw [r]; exact RVs.nil
  | v :: vs, xs, r => by
    rw [RVs] at r
    obtain ⟨y, zs, e1, r1, r2⟩ := r
    rw [e1, List.reverse_cons, List.reverse_cons]
    exact RVs.append (RVs.reverse r2) (RVs.cons r1 RVs.nil)
theorem RVs.set : ∀ {vs : List Val} {xs : List V} (i : Nat) {v : Val} {x : V}, RVs K H h vs xs → RV K H h v x → RVs K H h (vs.set i v) (xs.set i x)
  | [], xs, i, _, _, r, q => by rw [RVs] at r; rw [r]; exact RVs.nil
  | w :: vs, xs, 0, v, x, r, q => by
    rw [RVs] at r
    obtain ⟨y, zs, e1, r1, r2⟩ := r
    rw [e1]
    exact RVs.cons q r2
  | w :: vs, xs, i + 1, v, x, r, q => by
    rw [RVs] at r
    obtain ⟨y, zs, e1, r1, r2⟩ := r
    rw [e1]
    exact RVs.cons r1 (RVs.set i r2 q)
theorem RVs.erase : ∀ {vs : List Val} {xs : List V} (i : Nat), RVs K H h vs xs → RVs K H h (vs.eraseIdx i) (xs.eraseIdx i)
  | [], xs, i, r => by rw [RVs] at r; rw [r]; exact RVs.nil
  | w :: vs, xs, 0, r => by
    rw [RVs] at r
    obtain ⟨y, zs, e1, r1, r2⟩ := r
    rw [e1]
    exact r2
  | w :: vs, xs, i + 1, r => by
    rw [RVs] at r
    obtain ⟨y, zs, e1, r1, r2⟩ := r
    rw [e1]
    exact RVs.cons r1 (RVs.erase i r2)
theorem RVs.ints : ∀ {ns : List Int} {xs : List V}, RVs K H h (ns.map Val.int) xs → xs = ns.map V.int
  | [], xs, r => by rw [List.map_nil, RVs] at r; exact r
  | n :: ns, xs, r => by
    rw [List.map_cons, RVs] at r
    obtain ⟨y, ys, e, r1, r2⟩ := r
    rw [RV] at r1
    rw [e, r1, RVs.ints r2]; rfl
theorem RVs.ofInts : ∀ (ns : List Int), RVs K H h (ns.map Val.int) (ns.map V.int)
  | [] => RVs.nil
  | n :: ns => RVs.cons (by rw [RV]) (RVs.ofInts ns)
theorem RVs.strs : ∀ {ns : List Str} {xs : List V}, RVs K H h (ns.map Val.str) xs → xs = ns.map V.str
  | [], xs, r => by rw [List.map_nil, RVs] at r; exact r
  | n :: ns, xs, r => by
    rw [List.map_cons, RVs] at r
    obtain ⟨y, ys, e, r1, r2⟩ := r
    rw [RV] at r1
    rw [e, r1, RVs.strs r2]; rfl
theorem RVs.ofStrs : ∀ (ns : List Str), RVs K H h (ns.map Val.str) (ns.map V.str)
  | [] => RVs.nil
  | n :: ns => RVs.cons (by rw [RV]) (RVs.ofStrs ns)
theorem RVs.bls : ∀ {ns : List Bool} {xs : List V}, RVs K H h (ns.map Val.bl) xs → xs = ns.map V.bl
  | [], xs, r => by rw [List.map_nil, RVs] at r; exact r
  | n :: ns, xs, r => by
    rw [List.map_cons, RVs] at r
    obtain ⟨y, ys, e, r1, r2⟩ := r
    rw [RV] at r1
    rw [e, r1, RVs.bls r2]; rfl
end
def RKs {κ : Type} (K : PySem.W.Frag) (H : Hp) (h : Hv) : List (κ × Val) → List (κ × V) → Prop
  | [], xs => xs = []
  | (k, v) :: kvs, xs => ∃ y ys, xs = (k, y) :: ys ∧ RV K H h v y ∧ RKs K H h kvs ys
theorem RKs.stepN {κ : Type} {K : PySem.W.Frag} {H H' : Hp} {h h' : Hv} (s : StepN h H h' H') : ∀ {kvs : List (κ × Val)} {xs : List (κ × V)}, RKs K H h kvs xs → RKs K H' h' kvs xs
  | [], xs, r => r
  | (k, v) :: kvs, xs, r => by
    obtain ⟨y, ys, e, r1, r2⟩ := r
    exact ⟨y, ys, e, r1.stepN s, RKs.stepN s r2⟩
theorem RKs.step {κ : Type} {K : PySem.W.Frag} {H H' : Hp} {h h' : Hv} (s : Step h H h' H') {kvs : List (κ × Val)} {xs : List (κ × V)} (r : RKs K H h kvs xs) : RKs K H' h' kvs xs := r.stepN s.n

mutual
def nkV : NestedKey → Val
  | .none => .non
  | .num i => .int i
  | .text z => .str z
  | .tup ks => .tup (nkVs ks)
def nkVs : List NestedKey → List Val
  | [] => []
  | k :: ks => nkV k :: nkVs ks
end
mutual
theorem nk_of {K : PySem.W.Frag} {H : Hp} {h : Hv} : ∀ {k : NestedKey} {x : V}, RV K H h (nkV k) x → NK H k x
  | .none, x, r => by rw [nkV, RV] at r; rw [NK]; exact r
  | .num i, x, r => by rw [nkV, RV] at r; rw [NK]; exact r
  | .text i, x, r => by rw [nkV, RV] at r; rw [NK]; exact r
  | .tup ks, x, r => by
    rw [nkV, RV] at r
    obtain ⟨a, xs, e, _, ha, rs⟩ := r
    rw [NK]
    exact ⟨a, xs, e, ha, nks_of rs⟩
theorem nks_of {K : PySem.W.Frag} {H : Hp} {h : Hv} : ∀ {ks : List NestedKey} {xs : List V}, RVs K H h (nkVs ks) xs → NKs H ks xs
  | [], xs, r => by rw [nkVs, RVs] at r; rw [NKs]; exact r
  | k :: ks, xs, r => by
    rw [nkVs, RVs] at r
    obtain ⟨y, ys, e, r1, r2⟩ := r
    rw [NKs]
    exact ⟨y, ys, e, nk_of r1, nks_of r2⟩
end
def RNs (K : PySem.W.Frag) (H : Hp) (h : Hv) : List (NestedKey × Val) → List NE → Prop
  | [], xs => xs = []
  | (k, v) :: kvs, xs => ∃ p y ys, xs = (k, p, y) :: ys ∧ k.depth ≤ 8 ∧ RV K H h (nkV k) (.ref p) ∧ RV K H h v y ∧ RNs K H h kvs ys
theorem RNs.stepN {K : PySem.W.Frag} {H H' : Hp} {h h' : Hv} (s : StepN h H h' H') : ∀ {kvs : List (NestedKey × Val)} {xs : List NE}, RNs K H h kvs xs → RNs K H' h' kvs xs
  | [], xs, r => r
  | (k, v) :: kvs, xs, r => by
    obtain ⟨p, y, ys, e, hd, r0, r1, r2⟩ := r
    exact ⟨p, y, ys, e, hd, r0.stepN s, r1.stepN s, RNs.stepN s r2⟩
theorem RNs.step {K : PySem.W.Frag} {H H' : Hp} {h h' : Hv} (s : Step h H h' H') {kvs : List (NestedKey × Val)} {xs : List NE} (r : RNs K H h kvs xs) : RNs K H' h' kvs xs := r.stepN s.n

def Fills (o : HO) : Prop := (∃ xs, o = .lst xs) ∨ ∃ kvs, o = .dK kvs
def RO (K : PySem.W.Frag) (H : Hp) (h : Hv) (a : Addr) : Ob → Prop
  | .lst vs => ∃ xs, H a = some (.lst xs) ∧ RVs K H h vs xs
  | .dK kvs => ∃ xs, H a = some (.dK xs) ∧ RKs K H h kvs xs
  | .dT kvs => ∃ xs, H a = some (.dT xs) ∧ RKs K H h kvs xs
  | .ins C fs => ∃ dx xs, H a = some (.ins C dx xs) ∧ H dx = some (.own a) ∧ h dx = none ∧ RKs K H h fs xs
  | .dF o xs kvs => H a = some (.frz o (.dK xs)) ∧ RKs K H h kvs xs
  | .dFT o xs kvs => H a = some (.frz o (.dT xs)) ∧ RKs K H h kvs xs
  | .exc C => ∃ oe φ, H a = some (.frz oe (.ext φ)) ∧ L2.Zc (.ref C) none oe ∧ ∃ vs, oe.data = .fields vs
  | .excd C v => ∃ oe φ dd x, H a = some (.frz oe (.ext φ)) ∧ L2.Zc (.ref C) (some dd) oe ∧ (∃ vs, oe.data = .fields vs) ∧ H dd = some (.xd [("land", x)]) ∧ h dd = none ∧ RV K H h v x
  | .tab q => ∃ ps : Array Value, H a = some (.tbl ps) ∧ TriplesOk ps.toList ∧ ∀ (pos : Pos) (cv : Value), codeAmong pos ps.toList = some cv → ∃ c, cv = .ref c ∧ H c = some (LamX.CodeO c q) ∧ h c = none
  | .dN w kvs => ∃ xs, H a = some (DNO w a xs) ∧ RNs K H h kvs xs
  | .busy => ∃ o, H a = some o ∧ Fills o
def RH (K : PySem.W.Frag) (H : Hp) (h : Hv) : Prop := ∀ a o, h a = some o → RO K H h a o

abbrev Sl := List (Option Val)
def RS (K : PySem.W.Frag) (H : Hp) (h : Hv) (ρ : Sl) (σ : L2.St) : Prop := ρ.length = σ.length ∧ ∀ (i : Nat) (v : Val), ρ[i]? = some (some v) → ∃ x, σ[i]? = some (some x) ∧ RV K H h v x
theorem RS.stepN {K : PySem.W.Frag} {H H' : Hp} {h h' : Hv} {ρ : Sl} {σ : L2.St} (r : RS K H h ρ σ) (s : StepN h H h' H') : RS K H' h' ρ σ :=
  ⟨r.1, fun i v e => let ⟨x, e1, q⟩ := r.2 i v e; ⟨x, e1, q.stepN s⟩⟩
theorem RS.step {K : PySem.W.Frag} {H H' : Hp} {h h' : Hv} {ρ : Sl} {σ : L2.St} (r : RS K H h ρ σ) (s : Step h H h' H') : RS K H' h' ρ σ :=
  ⟨r.1, fun i v e => let ⟨x, e1, q⟩ := r.2 i v e; ⟨x, e1, q.step s⟩⟩
theorem RS.set {K : PySem.W.Frag} {H : Hp} {h : Hv} {ρ : Sl} {σ : L2.St} (r : RS K H h ρ σ) (i : Nat) {v : Val} {x : V} (q : RV K H h v x) : RS K H h (ρ.set i (some v)) (σ.set i (some x)) := by
  refine ⟨by rw [List.length_set, List.length_set]; exact r.1, fun j w e => ?_⟩
  by_cases hj : i = j
  · subst hj
    by_cases hi : i < ρ.length
    · rw [List.getElem?_set_self hi] at e
      cases e
      exact ⟨x, List.getElem?_set_self (by rw [← r.1]; exact hi), q⟩
    · rw [List.getElem?_eq_none (by simpa using hi)] at e
      cases e
  · rw [List.getElem?_set_ne hj] at e ⊢
    exact r.2 j w e
theorem RH.nof {K : PySem.W.Frag} {H : Hp} {h : Hv} (r : RH K H h) {p : Addr} (e : H p = none) : h p = none := by
  cases q : h p with
  | none => rfl
  | some o =>
    have z := r p o q
    cases o with
    | lst vs => obtain ⟨xs, e1, _⟩ := z; rw [e] at e1; cases e1
    | dK vs => obtain ⟨xs, e1, _⟩ := z; rw [e] at e1; cases e1
    | dT vs => obtain ⟨xs, e1, _⟩ := z; rw [e] at e1; cases e1
    | ins C fs => obtain ⟨dx, xs, e1, _⟩ := z; rw [e] at e1; cases e1
    | dF o xs kvs => have e1 := z.1; rw [e] at e1; cases e1
    | dFT o xs kvs => have e1 := z.1; rw [e] at e1; cases e1
    | exc C => obtain ⟨_, _, e1, _⟩ := z; rw [e] at e1; cases e1
    | excd C v => obtain ⟨_, _, _, _, e1, _⟩ := z; rw [e] at e1; cases e1
    | tab q => obtain ⟨_, e1, _⟩ := z; rw [e] at e1; cases e1
    | dN w kvs => obtain ⟨_, e1, _⟩ := z; rw [e] at e1; cases e1
    | busy => obtain ⟨xs, e1, _⟩ := z; rw [e] at e1; cases e1

section
variable {K : PySem.W.Frag} {H : Hp} {h : Hv}
theorem Step.fresh {p : Addr} {o : HO} (e : H p = none) : Step h H h (upd H p o) := ⟨fun a u ha n _ => by
  rw [upd_ne (ne_of_none ha e)]
  exact ⟨ha, n⟩, fun a u ha n => by
  rw [upd_ne (ne_of_none ha e)]
  exact ⟨ha, n⟩⟩
theorem Step.new {p : Addr} {o : HO} {u : Ob} (e : H p = none) : Step h H (put h p u) (upd H p o) := ⟨fun a w ha n _ => by
  rw [upd_ne (ne_of_none ha e), put_ne (ne_of_none ha e)]
  exact ⟨ha, n⟩, fun a w ha n => by
  rw [upd_ne (ne_of_none ha e), put_ne (ne_of_none ha e)]
  exact ⟨ha, n⟩⟩
theorem Step.write {p : Addr} {o : HO} {u w : Ob} (e : h p = some u) (nb : u ≠ .busy) : Step h H (put h p w) (upd H p o) := ⟨fun a z ha n _ => by
  have ne : a ≠ p := fun q => by rw [q, e] at n; cases n
  rw [upd_ne ne, put_ne ne]
  exact ⟨ha, n⟩, fun a z ha n => by
  have ne : a ≠ p := fun q => by rw [q, e] at n; cases n; exact nb rfl
  rw [upd_ne ne, put_ne ne]
  exact ⟨ha, n⟩⟩
theorem RO.stepN {H' : Hp} {h' : Hv} {a : Addr} {o : Ob} (s : StepN h H h' H') (e : ∀ u, H a = some u → H' a = some u) (r : RO K H h a o) : RO K H' h' a o := by
  cases o with
  | lst vs => obtain ⟨xs, e1, q⟩ := r; exact ⟨xs, e _ e1, q.stepN s⟩
  | dK vs => obtain ⟨xs, e1, q⟩ := r; exact ⟨xs, e _ e1, q.stepN s⟩
  | dT vs => obtain ⟨xs, e1, q⟩ := r; exact ⟨xs, e _ e1, q.stepN s⟩
  | ins C fs =>
    obtain ⟨dx, xs, e1, e2, n, q⟩ := r
    have := s dx _ e2 n (fun _ z => nomatch z)
    exact ⟨dx, xs, e _ e1, this.1, this.2, q.stepN s⟩
  | dF o xs kvs => exact ⟨e _ r.1, r.2.stepN s⟩
  | dFT o xs kvs => exact ⟨e _ r.1, r.2.stepN s⟩
  | exc C => obtain ⟨oe, φ, e1, q⟩ := r; exact ⟨oe, φ, e _ e1, q⟩
  | excd C v =>
    obtain ⟨oe, φ, dd, x, e1, z, f, e2, n, rv⟩ := r
    have := s dd _ e2 n (fun _ z => nomatch z)
    exact ⟨oe, φ, dd, x, e _ e1, z, f, this.1, this.2, rv.stepN s⟩
  | tab q =>
    obtain ⟨ps, e1, t, k⟩ := r
    refine ⟨ps, e _ e1, t, fun pos cv hc => ?_⟩
    obtain ⟨c, ec, e2, n⟩ := k pos cv hc
    have := s c _ e2 n (fun _ z => LamX.codeO_ne _ z)
    exact ⟨c, ec, this.1, this.2⟩
  | dN w kvs => obtain ⟨xs, e1, q⟩ := r; exact ⟨xs, e _ e1, q.stepN s⟩
  | busy => obtain ⟨o, e1, n⟩ := r; exact ⟨o, e _ e1, n⟩
theorem RO.step {H' : Hp} {h' : Hv} {a : Addr} {o : Ob} (s : Step h H h' H') (e : ∀ u, H a = some u → H' a = some u) (r : RO K H h a o) : RO K H' h' a o := r.stepN s.n e
theorem RH.fresh {p : Addr} {o : HO} (r : RH K H h) (e : H p = none) : RH K (upd H p o) h := fun a u q =>
  (r a u q).step (Step.fresh e) fun w z => by rw [upd_ne (ne_of_none z e)]; exact z
theorem RH.new {p : Addr} {o : HO} {u : Ob} (r : RH K H h) (e : H p = none) (n : RO K (upd H p o) (put h p u) p u) : RH K (upd H p o) (put h p u) := fun a w q => by
  by_cases ha : a = p
  · subst ha
    rw [put_same] at q
    cases q
    exact n
  · rw [put_ne ha] at q
    exact (r a w q).step (Step.new e) fun w z => by rw [upd_ne ha]; exact z
theorem RH.write {p : Addr} {o : HO} {u w : Ob} (r : RH K H h) (e : h p = some u) (nb : u ≠ .busy) (n : RO K (upd H p o) (put h p w) p w) : RH K (upd H p o) (put h p w) := fun a z q => by
  by_cases ha : a = p
  · subst ha
    rw [put_same] at q
    cases q
    exact n
  · rw [put_ne ha] at q
    exact (r a z q).step (Step.write e nb) fun w z => by rw [upd_ne ha]; exact z
def drop (h : Hv) (p : Addr) : Hv := fun b => if b = p then none else h b
theorem drop_same {p : Addr} : drop h p p = none := by unfold drop; rw [if_pos rfl]
theorem drop_ne {p b : Addr} (e : b ≠ p) : drop h p b = h b := by unfold drop; rw [if_neg e]
def Less (h h' : Hv) : Prop := ∀ a, h' a = none ∨ h' a = h a
theorem Less.refl (h : Hv) : Less h h := fun _ => .inr rfl
theorem Less.stepN {h' : Hv} (l : Less h h') : StepN h H h' H := fun a o e n _ => ⟨e, by rcases l a with z | z; exact z; rw [z]; exact n⟩
theorem RH.less {h' : Hv} (r : RH K H h) (l : Less h h') : RH K H h' := fun a o q => by
  rcases l a with z | z
  · rw [z] at q; cases q
  · rw [z] at q
    exact (r a o q).stepN l.stepN fun _ z => z
theorem less_drop {p : Addr} : Less h (drop h p) := fun a => by
  by_cases e : a = p
  · subst e; exact .inl drop_same
  · exact .inr (drop_ne e)
end
end DL
namespace DL
open PySem PySem.Spec PyProof.Rows L2
abbrev PV := Val → Hv → Prop
abbrev PX := Str → Option Val → Sl → Hv → Prop
abbrev ED := Sl → Hv → PV → PX → Prop
abbrev TD := Sl → Hv → (Bool → Hv → Prop) → PX → Prop
abbrev AD := Sl → Hv → (List Val → Hv → Prop) → PX → Prop
structure AE where
  nx : Sl → Hv → Prop
  rt : PV
  bk : Sl → Hv → Prop := fun _ _ => False
  ct : Sl → Hv → Prop := fun _ _ => False
abbrev SD := Sl → Hv → AE → PX → Prop
structure Bs where
  E : PX
  h0 : Hv
  H0 : Hp
structure ST (K : PySem.W.Frag) (B : Bs) (σ : L2.St) (H : Hp) (ρ : Sl) (h : Hv) : Prop where
  s : RS K H h ρ σ
  r : RH K H h
  b : Step B.h0 B.H0 h H
theorem ST.step {K : PySem.W.Frag} {B : Bs} {σ : L2.St} {H H' : Hp} {ρ : Sl} {h h' : Hv} (x : ST K B σ H ρ h) (s : Step h H h' H') (r : RH K H' h') : ST K B σ H' ρ h' :=
  ⟨x.s.step s, r, x.b.trans s⟩
theorem ST.set {K : PySem.W.Frag} {B : Bs} {σ : L2.St} {H : Hp} {ρ : Sl} {h : Hv} (x : ST K B σ H ρ h) (i : Nat) {v : Val} {y : V} (q : RV K H h v y) : ST K B (σ.set i (some y)) H (ρ.set i (some v)) h :=
  ⟨x.s.set i q, x.r, x.b⟩

def Cont (K : PySem.W.Frag) (h : Hv) (H : Hp) (Q' : PV) (Q : VK) : Prop := ∀ v h' x H', Q' v h' → Step h H h' H' → RV K H' h' v x → RH K H' h' → Q x H'
def ContB (K : PySem.W.Frag) (h : Hv) (H : Hp) (Q' : Bool → Hv → Prop) (Q : Bool → Hp → Prop) : Prop := ∀ b h' H', Q' b h' → Step h H h' H' → RH K H' h' → Q b H'
def ContA (K : PySem.W.Frag) (h : Hv) (H : Hp) (Q' : List Val → Hv → Prop) (Q : List V → Hp → Prop) : Prop := ∀ vs h' xs H', Q' vs h' → Step h H h' H' → RVs K H' h' vs xs → RH K H' h' → Q xs H'
def rdE (K : PySem.W.Frag) (B : Bs) (d : ED) : TE := fun σ H Q => ∃ ρ h Q', ST K B σ H ρ h ∧ d ρ h Q' B.E ∧ Cont K h H Q' Q
def rdT (K : PySem.W.Frag) (B : Bs) (d : TD) : TT := fun σ H Q => ∃ ρ h Q', ST K B σ H ρ h ∧ d ρ h Q' B.E ∧ ContB K h H Q' Q
def rdA (K : PySem.W.Frag) (B : Bs) (d : AD) : TA := fun σ H Q => ∃ ρ h Q', ST K B σ H ρ h ∧ d ρ h Q' B.E ∧ ContA K h H Q' Q
structure ContS (K : PySem.W.Frag) (B : Bs) (h : Hv) (H : Hp) (D' : AE) (D : Ends) : Prop where
  nx : ∀ ρ h' σ H', D'.nx ρ h' → Step h H h' H' → ST K B σ H' ρ h' → D.nx σ H'
  rt : ∀ v h' x H', D'.rt v h' → Step h H h' H' → RV K H' h' v x → RH K H' h' → D.rt x H'
  bk : ∀ ρ h' σ H', D'.bk ρ h' → Step h H h' H' → ST K B σ H' ρ h' → D.bk σ H'
  ct : ∀ ρ h' σ H', D'.ct ρ h' → Step h H h' H' → ST K B σ H' ρ h' → D.ct σ H'
def rdS (K : PySem.W.Frag) (B : Bs) (d : SD) : TS := fun D σ H => ∃ ρ h D', ST K B σ H ρ h ∧ d ρ h D' B.E ∧ ContS K B h H D' D

theorem Cont.trans {K : PySem.W.Frag} {h h1 : Hv} {H H1 : Hp} {Q' : PV} {Q : VK} (c : Cont K h H Q' Q) (s : Step h H h1 H1) : Cont K h1 H1 Q' Q := fun v h' x H' q s' => c v h' x H' q (s.trans s')
theorem ContB.trans {K : PySem.W.Frag} {h h1 : Hv} {H H1 : Hp} {Q' : Bool → Hv → Prop} {Q : Bool → Hp → Prop} (c : ContB K h H Q' Q) (s : Step h H h1 H1) : ContB K h1 H1 Q' Q := fun v h' H' q s' => c v h' H' q (s.trans s')
theorem ContA.trans {K : PySem.W.Frag} {h h1 : Hv} {H H1 : Hp} {Q' : List Val → Hv → Prop} {Q : List V → Hp → Prop} (c : ContA K h H Q' Q) (s : Step h H h1 H1) : ContA K h1 H1 Q' Q := fun v h' x H' q s' => c v h' x H' q (s.trans s')
theorem ContS.trans {K : PySem.W.Frag} {B : Bs} {h h1 : Hv} {H H1 : Hp} {D' : AE} {D : Ends} (c : ContS K B h H D' D) (s : Step h H h1 H1) : ContS K B h1 H1 D' D :=
  ⟨fun ρ h' σ H' q s' => c.nx ρ h' σ H' q (s.trans s'), fun v h' x H' q s' => c.rt v h' x H' q (s.trans s'), fun ρ h' σ H' q s' => c.bk ρ h' σ H' q (s.trans s'), fun ρ h' σ H' q s' => c.ct ρ h' σ H' q (s.trans s')⟩

abbrev DE (X : Cx) (B : Bs) (e : Expr) (d : ED) : Prop := PE X e (rdE X.K B d)
abbrev DT (X : Cx) (B : Bs) (e : Expr) (d : TD) : Prop := PT X e (rdT X.K B d)
abbrev DW (X : Cx) (B : Bs) (e : Expr) (d : TD) : Prop := PW X e (rdT X.K B d)
abbrev DA (X : Cx) (B : Bs) (es : List Expr) (d : AD) : Prop := PA X es (rdA X.K B d)
abbrev DS (X : Cx) (B : Bs) (st : Stmt) (d : SD) : Prop := PS X st (rdS X.K B d)
abbrev DSs (X : Cx) (B : Bs) (sts : List Stmt) (d : SD) : Prop := PSs X sts (rdS X.K B d)

theorem PEi {X : Cx} {e : Expr} {t t' : TE} (p : PE X e t) (i : ∀ σ H Q, t' σ H Q → t σ H Q) : PE X e t' := ⟨fun pins s σ H Q I q => p.run pins s σ H Q I (i σ H Q q)⟩
theorem PTi {X : Cx} {e : Expr} {t t' : TT} (p : PT X e t) (i : ∀ σ H Q, t' σ H Q → t σ H Q) : PT X e t' := ⟨fun pins s σ H Q I q => p.run pins s σ H Q I (i σ H Q q)⟩
theorem PWi {X : Cx} {e : Expr} {t t' : TT} (p : PW X e t) (i : ∀ σ H Q, t' σ H Q → t σ H Q) : PW X e t' := ⟨fun w pins s σ H Q I q => p.run w pins s σ H Q I (i σ H Q q)⟩
theorem PAi {X : Cx} {e : List Expr} {t t' : TA} (p : PA X e t) (i : ∀ σ H Q, t' σ H Q → t σ H Q) : PA X e t' := ⟨fun w pins s σ H Q I q => p.run w pins s σ H Q I (i σ H Q q)⟩
theorem PSi {X : Cx} {e : Stmt} {t t' : TS} (p : PS X e t) (i : ∀ D σ H, t' D σ H → t D σ H) : PS X e t' := ⟨fun pins s σ H D I q => p.run pins s σ H D I (i D σ H q)⟩
theorem PSsi {X : Cx} {e : List Stmt} {t t' : TS} (p : PSs X e t) (i : ∀ D σ H, t' D σ H → t D σ H) : PSs X e t' := ⟨fun pins s σ H D I q => p.run pins s σ H D I (i D σ H q)⟩

section
variable {K : PySem.W.Frag} {h : Hv} {H : Hp} {Q' : PV} {Q : VK}
theorem Cont.val (c : Cont K h H Q' Q) (r : RH K H h) {v : Val} {x : V} (rv : RV K H h v x) (q : Q' v h) : Q x H := c v h x H q (Step.refl _ _) rv r
theorem Cont.tup (c : Cont K h H Q' Q) (r : RH K H h) {vs : List Val} {xs : List V} {p : Addr} (rs : RVs K H h vs xs) (e : H p = none) (q : Q' (.tup vs) h) : Q (.ref p) (upd H p (.tup xs)) :=
  c _ _ _ _ q (Step.fresh e) (by rw [RV]; exact ⟨p, xs, rfl, r.nof e, upd_same, rs.step (Step.fresh e)⟩) (r.fresh e)
theorem Cont.lst (c : Cont K h H Q' Q) (r : RH K H h) {vs : List Val} {xs : List V} {p : Addr} (rs : RVs K H h vs xs) (e : H p = none) (q : Q' (.lst vs) h) : Q (.ref p) (upd H p (.lst xs)) :=
  c _ _ _ _ q (Step.fresh e) (by rw [RV]; exact ⟨p, xs, rfl, r.nof e, upd_same, rs.step (Step.fresh e)⟩) (r.fresh e)
theorem Cont.lstH (c : Cont K h H Q' Q) (r : RH K H h) {vs : List Val} {xs : List V} {p : Addr} (rs : RVs K H h vs xs) (e : H p = none) (q : Q' (.ref p) (put h p (.lst vs))) : Q (.ref p) (upd H p (.lst xs)) :=
  c _ _ _ _ q (Step.new e) (by rw [RV]) (r.new e ⟨xs, upd_same, rs.step (Step.new e)⟩)
end
section
variable {X : Cx} {B : Bs} {a b c e : Expr} {da db dc d : ED} {pos : Pos}
@[simp] def dVar (i : Nat) : ED := fun ρ h Q _ => match ρ[i]? with
  | some (some v) => Q v h
  | _ => False
@[simp] def dC (v : Val) : ED := fun _ h Q _ => Q v h
theorem de_var (i : Nat) {x : Str} {pos : Pos} (hN : X.N[i]? = some x := by rfl) (hv : Vis X.env.scope x := by first | exact Or.inl rfl | exact Or.inr (Or.inl rfl) | exact Or.inr (Or.inr rfl)) (hd : (x == ("__debug__" : Str)) = false := by decide)
    (hcd : (x == ("__classdict__" : Str)) = false := by decide) : DE X B (.Name x pos) (dVar i) := PEi (pe_var hN hv hd hcd) fun σ H Q ⟨ρ, h, Q', S, q, C⟩ => by
  unfold dVar at q
  split at q
  · rename_i v e
    obtain ⟨x, e1, r⟩ := S.s.2 i v e
    exact ⟨x, e1, C.val S.r r q⟩
  · exact q.elim
theorem de_int {i : Int} {j} : DE X B (.Constant (.int i) j pos) (dC (.int i)) := PEi pe_int fun σ H Q ⟨ρ, h, Q', S, q, C⟩ => C.val S.r (by rw [RV]) q
theorem de_bl {i : Bool} {j} : DE X B (.Constant (.bool i) j pos) (dC (.bl i)) := PEi pe_bl fun σ H Q ⟨ρ, h, Q', S, q, C⟩ => C.val S.r (by rw [RV]) q
theorem de_str {i : Str} {j} : DE X B (.Constant (.str i) j pos) (dC (.str i)) := PEi pe_str fun σ H Q ⟨ρ, h, Q', S, q, C⟩ => C.val S.r (by rw [RV]) q
theorem de_non {j} : DE X B (.Constant .none j pos) (dC .non) := PEi pe_non fun σ H Q ⟨ρ, h, Q', S, q, C⟩ => C.val S.r (by rw [RV]) q
theorem de_gint {x : Str} {i : Int} {t : Tok} (hg : Gl X x) (hm : X.mg x = some (.int i t)) (hd : (x == ("__debug__" : Str)) = false := by decide) : DE X B (.Name x pos) (dC (.int i)) :=
  PEi (pe_glob (v := .int i) hg hm ⟨_, rfl⟩ hd) fun σ H Q ⟨ρ, h, Q', S, q, C⟩ => C.val S.r (by rw [RV]) q
theorem de_ty {x : Str} {n : String} (hg : Gl X x) (hm : X.mg x = none) (hv : bootBuiltins x = some (.type n)) (hn : x ≠ "__name__" := by decide) (hd : (x == ("__debug__" : Str)) = false := by decide) : DE X B (.Name x pos) (dC (.ty n)) :=
  PEi (pe_bltn (v := .ty n) hg hm hv rfl hn hd) fun σ H Q ⟨ρ, h, Q', S, q, C⟩ => C.val S.r (by rw [RV]) q

abbrev F2 := Val → Val → Hv → PV → Prop
abbrev F1 := Val → Hv → PV → Prop
def OpL (K : PySem.W.Frag) (f : F2) (r : R2) : Prop := ∀ v w x y h H Q' Q, RH K H h → RV K H h v x → RV K H h w y → f v w h Q' → Cont K h H Q' Q → r x y H Q
def UnL (K : PySem.W.Frag) (f : F1) (r : V → Hp → VK → Prop) : Prop := ∀ v x h H Q' Q, RH K H h → RV K H h v x → f v h Q' → Cont K h H Q' Q → r x H Q
@[simp] def dBin (f : F2) (da db : ED) : ED := fun ρ h Q E => da ρ h (fun v h1 => db ρ h1 (fun w h2 => f v w h2 Q) E) E
@[simp] def dUn (f : F1) (da : ED) : ED := fun ρ h Q E => da ρ h (fun v h1 => f v h1 Q) E
theorem rd_bin {f : F2} {r : R2} {K : PySem.W.Frag} (hl : OpL K f r) : ∀ σ H Q, rdE K B (dBin f da db) σ H Q → tOp r (rdE K B da) (rdE K B db) σ H Q := by
  rintro σ H Q ⟨ρ, h, Q', S, q, C⟩
  refine ⟨ρ, h, _, S, q, fun v h1 x H1 q1 s1 rv1 r1 => ?_⟩
  refine ⟨ρ, h1, _, S.step s1 r1, q1, fun w h2 y H2 q2 s2 rv2 r2 => ?_⟩
  exact hl v w x y h2 H2 Q' Q r2 (rv1.step s2) rv2 q2 (C.trans (s1.trans s2))
theorem de_op {op : Operator} {f : F2} {r : R2} (ho : OpR X (binaryOp op) r) (hl : OpL X.K f r) (ha : DE X B a da) (hb : DE X B b db) : DE X B (.BinOp a op b pos) (dBin f da db) :=
  PEi (pe_op ho ha hb) (rd_bin hl)
theorem de_un {op : UnaryOp} {f : F1} {r : V → Hp → VK → Prop} (ho : UnR X (unaryOp op) r) (hl : UnL X.K f r) (ha : DE X B a da) : DE X B (.UnaryOp op a pos) (dUn f da) :=
  PEi (pe_un ho ha) fun σ H Q ⟨ρ, h, Q', S, q, C⟩ => ⟨ρ, h, _, S, q, fun v h1 x H1 q1 s1 rv1 r1 => hl v x h1 H1 Q' Q r1 rv1 q1 (C.trans s1)⟩
theorem de_cmp {op : CmpOp} {f : F2} {r : R2} (ho : OpR X (compareOp op) r) (hl : OpL X.K f r) (ha : DE X B a da) (hb : DE X B b db) (hm : behindInMarks op b = false := by first | exact nomark _ | rfl) : DE X B (.Compare a [op] [b] pos) (dBin f da db) :=
  PEi (pe_cmpR ho ha hb hm) (rd_bin hl)
@[simp] def dTest (d : ED) : TD := fun ρ h Q E => d ρ h (fun v h1 => match v with
  | .bl k => Q k h1
  | _ => False) E
theorem rd_test {t : TE} {K : PySem.W.Frag} (hi : ∀ σ H Q, rdE K B d σ H Q → t σ H Q) : ∀ σ H Q, rdT K B (dTest d) σ H Q → tTest t σ H Q := by
  rintro σ H Q ⟨ρ, h, Q', S, q, C⟩
  refine hi _ _ _ ⟨ρ, h, _, S, q, fun v h1 x H1 q1 s1 rv1 r1 => ?_⟩
  cases v with
  | bl k =>
    rw [RV] at rv1
    exact ⟨k, rv1, C _ _ _ q1 s1 r1⟩
  | _ => exact q1.elim
theorem dt_cmp {op : CmpOp} {f : F2} {r : R2} (ho : OpR X (compareOp op) r) (hl : OpL X.K f r) (ha : DE X B a da) (hb : DE X B b db) (hm : behindInMarks op b = false := by first | exact nomark _ | rfl) : DT X B (.Compare a [op] [b] pos) (dTest (dBin f da db)) :=
  PTi (pt_cmpR ho ha hb hm) (rd_test (rd_bin hl))
@[simp] def dChain (f f' : F2) (da db dc : ED) : ED := fun ρ h Q E => da ρ h (fun v h1 => db ρ h1 (fun w h2 => f v w h2 (fun z h3 => match z with
  | .bl k => if k = true then dc ρ h3 (fun u h4 => f' w u h4 Q) E else Q (.bl false) h3
  | _ => False)) E) E
theorem rd_chain {f f' : F2} {r r' : R2} {K : PySem.W.Frag} (hl : OpL K f r) (hl' : OpL K f' r') : ∀ σ H Q, rdE K B (dChain f f' da db dc) σ H Q → tChain r r' (rdE K B da) (rdE K B db) (rdE K B dc) σ H Q := by
  rintro σ H Q ⟨ρ, h, Q', S, q, C⟩
  refine ⟨ρ, h, _, S, q, fun v h1 x H1 q1 s1 rv1 r1 => ?_⟩
  refine ⟨ρ, h1, _, S.step s1 r1, q1, fun w h2 y H2 q2 s2 rv2 r2 => ?_⟩
  refine hl v w x y h2 H2 _ _ r2 (rv1.step s2) rv2 q2 fun z h3 zx H3 q3 s3 rv3 r3 => ?_
  cases z with
  | bl k =>
    rw [RV] at rv3
    refine ⟨k, rv3, ?_⟩
    have s13 := s1.trans (s2.trans s3)
    cases k with
    | true =>
      dsimp only at q3; rw [if_pos rfl] at q3 ⊢
      exact ⟨ρ, h3, _, S.step s13 r3, q3, fun u h4 ux H4 q4 s4 rv4 r4 => hl' w u y ux h4 H4 Q' Q r4 (rv2.step (s3.trans s4)) rv4 q4 (C.trans (s13.trans s4))⟩
    | false =>
      dsimp only at q3; rw [if_neg Bool.false_ne_true] at q3 ⊢
      exact (C.trans s13).val r3 (by rw [RV]) q3
  | _ => exact q3.elim
theorem de_chain {op op' : CmpOp} {f f' : F2} {r r' : R2} (ho : OpR X (compareOp op) r) (ho' : OpR X (compareOp op') r') (hl : OpL X.K f r) (hl' : OpL X.K f' r') (ha : DE X B a da) (hb : DE X B b db) (hc : DE X B c dc)
    (hm : lastMarks [op, op'] [b, c] = false := by with_unfolding_all rfl) : DE X B (.Compare a [op, op'] [b, c] pos) (dChain f f' da db dc) := PEi (pe_chain ho ho' ha hb hc hm) (rd_chain hl hl')
@[simp] def truA (v : Val) (h : Hv) : Option Bool := match v with
  | .non => some false
  | .bl b => some b
  | .int i => some (i != 0)
  | .str y => if y.length ≤ sizeLine then some ((y.length : Int) != 0) else none
  | .tup vs => some (!vs.isEmpty)
  | .tpo vs => some (!vs.isEmpty)
  | .lst vs => some (!vs.isEmpty)
  | .scr ns => some (!ns.isEmpty)
  | .ref a => match h a with
    | some (.lst vs) => some (!vs.isEmpty)
    | some (.dK kvs) => some (!kvs.isEmpty)
    | _ => none
  | .ty _ => none
theorem RVs.empty {K : PySem.W.Frag} {H : Hp} {h : Hv} {vs : List Val} {xs : List V} (r : RVs K H h vs xs) : vs.isEmpty = xs.isEmpty := by
  cases vs with
  | nil => rw [RVs] at r; rw [r]; rfl
  | cons v vs => rw [RVs] at r; obtain ⟨y, ys, e, _⟩ := r; rw [e]; rfl
theorem RKs.empty {κ : Type} {K : PySem.W.Frag} {H : Hp} {h : Hv} {vs : List (κ × Val)} {xs : List (κ × V)} (r : RKs K H h vs xs) : vs.isEmpty = xs.isEmpty := by
  cases vs with
  | nil => rw [show xs = [] from r]; rfl
  | cons v vs => obtain ⟨y, ys, e, _⟩ := r; rw [e]; rfl
theorem scr_sql {K : PySem.W.Frag} {H : Hp} {h : Hv} {ns : List Int} {x : V} (r : RV K H h (.scr ns) x) : ∃ a, x = .ref a ∧ SqL K H a (ns.map V.int) := by
  rw [RV] at r
  obtain ⟨a, e, r⟩ := r
  refine ⟨a, e, ?_⟩
  rcases r with ⟨_, q⟩ | q
  · exact .inl q
  · exact .inr q
theorem tpo_sqt {K : PySem.W.Frag} {H : Hp} {h : Hv} {vs : List Val} {x : V} (r : RV K H h (.tpo vs) x) : ∃ a xs, x = .ref a ∧ SqT K H a xs ∧ RVs K H h vs xs := by
  rw [RV] at r
  obtain ⟨a, xs, o, e, _, ha, _, rs⟩ := r
  exact ⟨a, xs, e, .inl (.inr ⟨o, ha⟩), rs⟩
theorem tru_rel {K : PySem.W.Frag} {H : Hp} {h : Hv} {v : Val} {x : V} {k : Bool} (r : RH K H h) (rv : RV K H h v x) (e : truA v h = some k) : TruV K x H k := by
  cases v with
  | non => rw [RV] at rv; subst rv; exact (Option.some.inj e).symm
  | bl b => rw [RV] at rv; subst rv; exact (Option.some.inj e).symm
  | int b => rw [RV] at rv; subst rv; exact (Option.some.inj e).symm
  | str b =>
    rw [RV] at rv; subst rv
    unfold truA at e
    dsimp only at e
    split at e
    · rename_i hl; exact ⟨hl, (Option.some.inj e).symm⟩
    · cases e
  | tup vs =>
    rw [RV] at rv
    obtain ⟨a, xs, e1, _, ha, rs⟩ := rv
    subst e1
    refine .inr (.inl ⟨xs, .of ha, ?_⟩)
    rw [← rs.empty]; exact (Option.some.inj e).symm
  | tpo vs =>
    obtain ⟨a, xs, e1, ha, rs⟩ := tpo_sqt rv
    subst e1
    refine .inr (.inl ⟨xs, ha, ?_⟩)
    rw [← rs.empty]; exact (Option.some.inj e).symm
  | lst vs =>
    rw [RV] at rv
    obtain ⟨a, xs, e1, _, ha, rs⟩ := rv
    subst e1
    refine .inl ⟨xs, .of ha, ?_⟩
    rw [← rs.empty]; exact (Option.some.inj e).symm
  | scr ns =>
    obtain ⟨a, e1, hq⟩ := scr_sql rv
    subst e1
    refine .inl ⟨_, hq, ?_⟩
    rw [← (Option.some.inj e)]
    cases ns <;> rfl
  | ref a =>
    rw [RV] at rv; subst rv
    unfold truA at e
    dsimp only at e
    split at e
    · rename_i vs hv
      obtain ⟨xs, e1, rs⟩ := r a _ hv
      refine .inl ⟨xs, .of e1, ?_⟩
      rw [← rs.empty]; exact (Option.some.inj e).symm
    · rename_i vs hv
      obtain ⟨xs, e1, rs⟩ := r a _ hv
      refine .inr (.inr ⟨xs, e1, ?_⟩)
      rw [← rs.empty]; exact (Option.some.inj e).symm
    · cases e
  | ty n => cases e
@[simp] def dTruth (d : ED) : TD := fun ρ h Q E => d ρ h (fun v h1 => match truA v h1 with
  | some k => Q k h1
  | none => False) E
theorem dt_truth (ha : DE X B a da) (he : ∀ whole, isTrue a X.env whole = (do let v ← whole; standAt a.pos; holding [v] (truthy v)) := by intro _; rfl) : DT X B a (dTruth da) :=
  PTi (pt_truth ha he) fun σ H Q ⟨ρ, h, Q', S, q, C⟩ => ⟨ρ, h, _, S, q, fun v h1 x H1 q1 s1 rv1 r1 => by
    split at q1
    · rename_i k e
      exact ⟨k, tru_rel r1 rv1 e, C _ _ _ q1 s1 r1⟩
    · exact q1.elim⟩
variable {ta tb : TD} {rest : List Expr}
@[simp] def dAnd (ta tb : TD) : TD := fun ρ h Q E => ta ρ h (fun k h1 => if k = true then tb ρ h1 Q E else Q false h1) E
@[simp] def dOr (ta tb : TD) : TD := fun ρ h Q E => ta ρ h (fun k h1 => if k = true then Q true h1 else tb ρ h1 Q E) E
@[simp] def dNot (ta : TD) : TD := fun ρ h Q E => ta ρ h (fun k h1 => Q (!k) h1) E
theorem dw_and1 (ha : DT X B a ta) : DW X B (.BoolOp .And [a] pos) ta := pw_and1 ha
theorem dw_or1 (ha : DT X B a ta) : DW X B (.BoolOp .Or [a] pos) ta := pw_or1 ha
theorem dw_and (ha : DT X B a ta) (hb : DW X B (.BoolOp .And (b :: rest) pos) tb) : DW X B (.BoolOp .And (a :: b :: rest) pos) (dAnd ta tb) :=
  PWi (pw_and ha hb) fun σ H Q ⟨ρ, h, Q', S, q, C⟩ => ⟨ρ, h, _, S, q, fun k h1 H1 q1 s1 r1 => by
    cases k with
    | true =>
      rw [if_pos rfl] at q1 ⊢
      exact ⟨ρ, h1, _, S.step s1 r1, q1, C.trans s1⟩
    | false =>
      rw [if_neg Bool.false_ne_true] at q1 ⊢
      exact C _ _ _ q1 s1 r1⟩
theorem dw_or (ha : DT X B a ta) (hb : DW X B (.BoolOp .Or (b :: rest) pos) tb) : DW X B (.BoolOp .Or (a :: b :: rest) pos) (dOr ta tb) :=
  PWi (pw_or ha hb) fun σ H Q ⟨ρ, h, Q', S, q, C⟩ => ⟨ρ, h, _, S, q, fun k h1 H1 q1 s1 r1 => by
    cases k with
    | false =>
      rw [if_neg Bool.false_ne_true] at q1 ⊢
      exact ⟨ρ, h1, _, S.step s1 r1, q1, C.trans s1⟩
    | true =>
      rw [if_pos rfl] at q1 ⊢
      exact C _ _ _ q1 s1 r1⟩
theorem dt_w (ha : DW X B a ta) : DT X B a ta := ha.pt
theorem dt_not (ha : DT X B a ta) : DT X B (.UnaryOp .Not a pos) (dNot ta) :=
  PTi (pt_not ha) fun σ H Q ⟨ρ, h, Q', S, q, C⟩ => ⟨ρ, h, _, S, q, fun k h1 H1 q1 s1 r1 => C _ _ _ q1 s1 r1⟩
@[simp] def vAnd (da db : ED) : ED := fun ρ h Q E => da ρ h (fun v h1 => match truA v h1 with
  | some k => if k = true then db ρ h1 Q E else Q v h1
  | none => False) E
@[simp] def vOr (da db : ED) : ED := fun ρ h Q E => da ρ h (fun v h1 => match truA v h1 with
  | some k => if k = true then Q v h1 else db ρ h1 Q E
  | none => False) E
@[simp] def vNot (da : ED) : ED := fun ρ h Q E => da ρ h (fun v h1 => match truA v h1 with
  | some k => Q (.bl (!k)) h1
  | none => False) E
theorem de_one {op} (ha : DE X B a da) : DE X B (.BoolOp op [a] pos) da := pe_one ha
theorem de_and (ha : DE X B a da) (hb : DE X B (.BoolOp .And (b :: rest) pos) db) : DE X B (.BoolOp .And (a :: b :: rest) pos) (vAnd da db) :=
  PEi (pe_andT ha hb) fun σ H Q ⟨ρ, h, Q', S, q, C⟩ => ⟨ρ, h, _, S, q, fun v h1 x H1 q1 s1 rv1 r1 => by
    split at q1
    · rename_i k e
      refine ⟨k, tru_rel r1 rv1 e, ?_⟩
      cases k with
      | true =>
        rw [if_pos rfl] at q1 ⊢
        exact ⟨ρ, h1, _, S.step s1 r1, q1, C.trans s1⟩
      | false =>
        rw [if_neg Bool.false_ne_true] at q1 ⊢
        exact C _ _ _ _ q1 s1 rv1 r1
    · exact q1.elim⟩
theorem de_not (ha : DE X B a da) : DE X B (.UnaryOp .Not a pos) (vNot da) :=
  PEi (pe_notT ha) fun σ H Q ⟨ρ, h, Q', S, q, C⟩ => ⟨ρ, h, _, S, q, fun v h1 x H1 q1 s1 rv1 r1 => by
    split at q1
    · rename_i k e
      exact ⟨k, tru_rel r1 rv1 e, C _ _ _ _ q1 s1 (by rw [RV]) r1⟩
    · exact q1.elim⟩
@[simp] def dIfE (t : TD) (da db : ED) : ED := fun ρ h Q E => t ρ h (fun k h1 => if k = true then da ρ h1 Q E else db ρ h1 Q E) E
theorem de_if (hc : DT X B c ta) (ha : DE X B a da) (hb : DE X B b db) : DE X B (.IfExp c a b pos) (dIfE ta da db) :=
  PEi (pe_ifExp hc ha hb) fun σ H Q ⟨ρ, h, Q', S, q, C⟩ => ⟨ρ, h, _, S, q, fun k h1 H1 q1 s1 r1 => by
    cases k with
    | true =>
      rw [if_pos rfl] at q1 ⊢
      exact ⟨ρ, h1, _, S.step s1 r1, q1, C.trans s1⟩
    | false =>
      rw [if_neg Bool.false_ne_true] at q1 ⊢
      exact ⟨ρ, h1, _, S.step s1 r1, q1, C.trans s1⟩⟩

variable {es : List Expr} {aa : AD}
@[simp] def aNil : AD := fun _ h Q _ => Q [] h
@[simp] def aCons (da : ED) (dr : AD) : AD := fun ρ h Q E => da ρ h (fun v h1 => dr ρ h1 (fun vs h2 => Q (v :: vs) h2) E) E
theorem da_nil : DA X B [] aNil := PAi pa_nil fun σ H Q ⟨ρ, h, Q', S, q, C⟩ => C _ _ _ _ q (Step.refl _ _) RVs.nil S.r
theorem da_cons (ha : DE X B e d) (hr : DA X B es aa) (hs : starEach (e :: es) X.env = (false, eval e X.env) :: starEach es X.env := by rfl) : DA X B (e :: es) (aCons d aa) :=
  PAi (pa_cons ha hr hs) fun σ H Q ⟨ρ, h, Q', S, q, C⟩ => ⟨ρ, h, _, S, q, fun v h1 x H1 q1 s1 rv1 r1 =>
    ⟨ρ, h1, _, S.step s1 r1, q1, fun vs h2 xs H2 q2 s2 rv2 r2 => C _ _ _ _ q2 (s1.trans s2) (RVs.cons (rv1.step s2) rv2) r2⟩⟩
@[simp] def dTup (aa : AD) : ED := fun ρ h Q E => aa ρ h (fun vs h1 => vs.length ≤ sizeLine ∧ Q (.tup vs) h1) E
@[simp] def dLst (aa : AD) : ED := fun ρ h Q E => aa ρ h (fun vs h1 => vs.length ≤ sizeLine ∧ Q (.lst vs) h1) E
@[simp] def dLstH (aa : AD) : ED := fun ρ h Q E => aa ρ h (fun vs h1 => vs.length ≤ sizeLine ∧ ∀ p, h1 p = none → Q (.ref p) (put h1 p (.lst vs))) E
theorem de_tup {k} (ha : DA X B es aa) : DE X B (.Tuple es k pos) (dTup aa) :=
  PEi (pe_tup ha) fun σ H Q ⟨ρ, h, Q', S, q, C⟩ => ⟨ρ, h, _, S, q, fun vs h1 xs H1 q1 s1 rv1 r1 => ⟨by rw [← rv1.len]; exact q1.1, fun p e => (C.trans s1).tup r1 rv1 e q1.2⟩⟩
theorem de_lst (ha : DA X B es aa) : DE X B (.List es pos) (dLst aa) :=
  PEi (pe_lst ha) fun σ H Q ⟨ρ, h, Q', S, q, C⟩ => ⟨ρ, h, _, S, q, fun vs h1 xs H1 q1 s1 rv1 r1 => ⟨by rw [← rv1.len]; exact q1.1, fun p e => (C.trans s1).lst r1 rv1 e q1.2⟩⟩
theorem de_lstH (ha : DA X B es aa) : DE X B (.List es pos) (dLstH aa) :=
  PEi (pe_lst ha) fun σ H Q ⟨ρ, h, Q', S, q, C⟩ => ⟨ρ, h, _, S, q, fun vs h1 xs H1 q1 s1 rv1 r1 => ⟨by rw [← rv1.len]; exact q1.1, fun p e => (C.trans s1).lstH r1 rv1 e (q1.2 p (r1.nof e))⟩⟩

abbrev FA := List Val → Hv → PV → Prop
def CaL (K : PySem.W.Frag) (f : FA) (r : List V → Hp → VK → Prop) : Prop := ∀ vs xs h H Q' Q, RH K H h → RVs K H h vs xs → f vs h Q' → Cont K h H Q' Q → r xs H Q
@[simp] def dCB (f : FA) (aa : AD) : ED := fun ρ h Q E => aa ρ h (fun vs h1 => f vs h1 Q) E
theorem rd_cb {f : FA} {r : List V → Hp → VK → Prop} {K : PySem.W.Frag} (hl : CaL K f r) : ∀ σ H Q, rdE K B (dCB f aa) σ H Q → tCB r (rdA K B aa) σ H Q := fun σ H Q ⟨ρ, h, Q', S, q, C⟩ =>
  ⟨ρ, h, _, S, q, fun vs h1 xs H1 q1 s1 rv1 r1 => hl vs xs h1 H1 Q' Q r1 rv1 q1 (C.trans s1)⟩
theorem de_callB {x : Str} {id : String} {p : Pos} {f : FA} {r : List V → Hp → VK → Prop} (hc : CallR X (.builtin id) r) (hl : CaL X.K f r) (hg : Gl X x) (hm : X.mg x = none) (hv : bootBuiltins x = some (.builtin id)) (ha : DA X B (e :: es) aa) (hn : x ≠ "__name__" := by decide) (hdb : (x == ("__debug__" : Str)) = false := by decide)
    (he : starEach (e :: es) X.env = (false, eval e X.env) :: starEach es X.env := by rfl) (hpl : (backTo pos (starEach es X.env)).any (·.1) = false := by rfl) : DE X B (.Call (.Name x p) (e :: es) [] pos) (dCB f aa) :=
  PEi (pe_callB hc hg hm hv ha hn hdb he hpl) (rd_cb hl)
theorem de_callTy {x : Str} {T : String} {p : Pos} {f : FA} {r : List V → Hp → VK → Prop} (hc : CallR X (.type T) r) (hl : CaL X.K f r) (hg : Gl X x) (hm : X.mg x = none) (hv : bootBuiltins x = some (.type T)) (ha : DA X B (e :: es) aa) (hn : x ≠ "__name__" := by decide) (hdb : (x == ("__debug__" : Str)) = false := by decide)
    (he : starEach (e :: es) X.env = (false, eval e X.env) :: starEach es X.env := by rfl) (hpl : (backTo pos (starEach es X.env)).any (·.1) = false := by rfl) : DE X B (.Call (.Name x p) (e :: es) [] pos) (dCB f aa) :=
  PEi (pe_callTy hc hg hm hv ha hn hdb he hpl) (rd_cb hl)
end
end DL
namespace DL
open PySem PySem.Spec PyProof.Rows L2
@[simp] def fI (C : Int → Int → Prop) (g : Int → Int → Val) : F2 := fun v w h Q => match v, w with
  | .int i, .int j => C i j ∧ Q (g i j) h
  | _, _ => False
@[simp] def fI0 (g : Int → Int → Val) : F2 := fun v w h Q => match v, w with
  | .int i, .int j => Q (g i j) h
  | _, _ => False
section
variable {K : PySem.W.Frag}
theorem rv_bl {H : Hp} {h : Hv} {b : Bool} : RV K H h (.bl b) (.bl b) := by rw [RV]
theorem rv_int {H : Hp} {h : Hv} {b : Int} : RV K H h (.int b) (.int b) := by rw [RV]
theorem rv_str {H : Hp} {h : Hv} {b : Str} : RV K H h (.str b) (.str b) := by rw [RV]
theorem rv_non {H : Hp} {h : Hv} : RV K H h .non .non := by rw [RV]
theorem ol_I {C : Int → Int → Prop} {g : Int → Int → Int} : OpL K (fI C fun i j => .int (g i j)) (rI C fun i j => .int (g i j)) := fun v w x y h H Q' Q r rv rw' q c => by
  cases v <;> cases w <;> first | exact q.elim | (rw [RV] at rv rw'; exact ⟨_, _, rv, rw', q.1, c.val r (by rw [RV]) q.2⟩)
theorem ol_I0 {g : Int → Int → Int} : OpL K (fI0 fun i j => .int (g i j)) (rI0 fun i j => .int (g i j)) := fun v w x y h H Q' Q r rv rw' q c => by
  cases v <;> cases w <;> first | exact q.elim | (rw [RV] at rv rw'; exact ⟨_, _, rv, rw', c.val r (by rw [RV]) q⟩)
theorem ol_B0 {g : Int → Int → Bool} : OpL K (fI0 fun i j => .bl (g i j)) (rI0 fun i j => .bl (g i j)) := fun v w x y h H Q' Q r rv rw' q c => by
  cases v <;> cases w <;> first | exact q.elim | (rw [RV] at rv rw'; exact ⟨_, _, rv, rw', c.val r (by rw [RV]) q⟩)
@[simp] def fNeg : F1 := fun v h Q => match v with
  | .int i => Q (.int (-i)) h
  | _ => False
theorem ul_neg : UnL K fNeg (rU fun i => .int (-i)) := fun v x h H Q' Q r rv q c => by
  cases v <;> first | exact q.elim | (rw [RV] at rv; exact ⟨_, rv, c.val r (by rw [RV]) q⟩)
abbrev fSub : F2 := fI0 fun i j => .int (i - j)
abbrev fDiv : F2 := fI CDiv fun i j => .int (i / j)
abbrev fMod : F2 := fI (fun _ j => 0 < j) fun i j => .int (i % j)
abbrev fPow : F2 := fI CPow fun i j => .int (i ^ j.toNat)
abbrev fShl : F2 := fI CPow fun i j => .int (i * 2 ^ j.toNat)
abbrev fShr : F2 := fI (fun _ j => 0 ≤ j) fun i j => .int (i / 2 ^ j.toNat)
abbrev fBand : F2 := fI0 fun i j => .int (Builtin.bitAnd i j)
abbrev fBxor : F2 := fI0 fun i j => .int (Builtin.bitXor i j)
abbrev fLtI : F2 := fI0 fun i j => .bl (decide (i < j))
abbrev fLe : F2 := fI0 fun i j => .bl (decide (i ≤ j))
abbrev fGt : F2 := fI0 fun i j => .bl (decide (j < i))
abbrev fGe : F2 := fI0 fun i j => .bl (decide (j ≤ i))

@[simp] def listOf (v : Val) (h : Hv) : Option (List Val) := match v with
  | .lst vs => some vs
  | .ref a => match h a with
    | some (.lst vs) => some vs
    | _ => none
  | _ => none
theorem listOf_rel {H : Hp} {h : Hv} {v : Val} {x : V} {vs : List Val} (r : RH K H h) (rv : RV K H h v x) (e : listOf v h = some vs) : ∃ a xs, x = .ref a ∧ H a = some (.lst xs) ∧ RVs K H h vs xs := by
  cases v with
  | lst ws =>
    rw [RV] at rv
    obtain ⟨a, xs, e1, _, ha, rs⟩ := rv
    cases e
    exact ⟨a, xs, e1, ha, rs⟩
  | ref a =>
    rw [RV] at rv
    unfold listOf at e
    dsimp only at e
    split at e
    · rename_i ws hw
      cases e
      obtain ⟨xs, e1, rs⟩ := r a _ hw
      exact ⟨a, xs, rv, e1, rs⟩
    · cases e
  | _ => cases e
@[simp] def fAdd : F2 := fun v w h Q => match v, w with
  | .int i, .int j => Q (.int (i + j)) h
  | .str a, .str b => a.length + b.length ≤ sizeLine ∧ Q (.str (a ++ b)) h
  | .tup xs, .tup ys => xs.length + ys.length ≤ sizeLine ∧ Q (.tup (xs ++ ys)) h
  | .tpo xs, .tpo ys => xs ≠ [] ∧ ys ≠ [] ∧ xs.length + ys.length ≤ sizeLine ∧ Q (.tup (xs ++ ys)) h
  | .tpo xs, .tup ys => xs ≠ [] ∧ ys ≠ [] ∧ xs.length + ys.length ≤ sizeLine ∧ Q (.tup (xs ++ ys)) h
  | _, _ => match listOf v h, listOf w h with
    | some xs, some ys => xs.length + ys.length ≤ sizeLine ∧ Q (.lst (xs ++ ys)) h
    | _, _ => False
@[simp] def fAddH : F2 := fun v w h Q => match listOf v h, listOf w h with
    | some xs, some ys => xs.length + ys.length ≤ sizeLine ∧ ∀ p, h p = none → Q (.ref p) (put h p (.lst (xs ++ ys)))
    | _, _ => False
def rAddA (K : PySem.W.Frag) : R2 := fun x y H Q => rI0 (fun i j => .int (i + j)) x y H Q ∨ (∃ i j, x = .str i ∧ y = .str j ∧ i.length + j.length ≤ sizeLine ∧ Q (.str (i ++ j)) H) ∨ rCatA K x y H Q ∨ rCat x y H Q
theorem or_add {X : Cx} : OpR X (binaryOp .Add) (rAddA X.K) := op_add.or (op_add_str.or (op_catA.or op_cat))
theorem fAdd_lists {v w : Val} {x y : V} {h : Hv} {H : Hp} {Q' : PV} {Q : VK} (r : RH K H h) (rv : RV K H h v x) (rw' : RV K H h w y)
    (q : match listOf v h, listOf w h with
    | some xs, some ys => xs.length + ys.length ≤ sizeLine ∧ Q' (.lst (xs ++ ys)) h
    | _, _ => False) (c : Cont K h H Q' Q) : rCat x y H Q := by
  split at q
  · rename_i xs ys e1 e2
    obtain ⟨a, us, ea, ha, ra⟩ := listOf_rel r rv e1
    obtain ⟨b, ws, eb, hb, rb⟩ := listOf_rel r rw' e2
    exact ⟨a, b, us, ws, ea, eb, ha, hb, by rw [← ra.len, ← rb.len]; exact q.1, fun p e => c.lst r (ra.append rb) e q.2⟩
  · exact q.elim
theorem ol_add : OpL K fAdd (rAddA K) := fun v w x y h H Q' Q r rv rw' q c => by
  unfold fAdd at q
  split at q
  · rw [RV] at rv rw'; exact .inl ⟨_, _, rv, rw', c.val r (by rw [RV]) q⟩
  · rw [RV] at rv rw'; exact .inr (.inl ⟨_, _, rv, rw', q.1, c.val r (by rw [RV]) q.2⟩)
  · rename_i xs ys
    have rv0 := rv
    have rw0 := rw'
    rw [RV] at rv rw'
    obtain ⟨a, us, ea, na, ha, ra⟩ := rv
    obtain ⟨b, ws, eb, nb, hb, rb⟩ := rw'
    refine .inr (.inr (.inl ⟨a, b, us, ws, ea, eb, .of ha, .of hb, by rw [← ra.len, ← rb.len]; exact q.1, fun e => ?_, fun e1 e2 => ?_, fun _ _ p e => c.tup r (ra.append rb) e q.2⟩))
    · have : xs = [] := List.eq_nil_of_length_eq_zero (by rw [ra.len, e]; rfl)
      subst this
      rw [← eb]
      exact c.val r rw0 q.2
    · have : ys = [] := List.eq_nil_of_length_eq_zero (by rw [rb.len, e2]; rfl)
      subst this
      rw [← ea]
      have q2 := q.2
      rw [List.append_nil] at q2
      exact c.val r rv0 q2
  · rename_i xs ys
    obtain ⟨n1, n2, ql, q⟩ := q
    obtain ⟨a, us, ea, ha, ra⟩ := tpo_sqt rv
    obtain ⟨b, ws, eb, hb, rb⟩ := tpo_sqt rw'
    refine .inr (.inr (.inl ⟨a, b, us, ws, ea, eb, ha, hb, by rw [← ra.len, ← rb.len]; exact ql, fun e => ?_, fun e1 e2 => ?_, fun _ _ p e => c.tup r (ra.append rb) e q⟩))
    · exact absurd (List.eq_nil_of_length_eq_zero (by rw [ra.len, e]; rfl)) n1
    · exact absurd (List.eq_nil_of_length_eq_zero (by rw [rb.len, e2]; rfl)) n2
  · rename_i xs ys
    obtain ⟨n1, n2, ql, q⟩ := q
    obtain ⟨a, us, ea, ha, ra⟩ := tpo_sqt rv
    rw [RV] at rw'
    obtain ⟨b, ws, eb, nb, hb, rb⟩ := rw'
    refine .inr (.inr (.inl ⟨a, b, us, ws, ea, eb, ha, .of hb, by rw [← ra.len, ← rb.len]; exact ql, fun e => ?_, fun e1 e2 => ?_, fun _ _ p e => c.tup r (ra.append rb) e q⟩))
    · exact absurd (List.eq_nil_of_length_eq_zero (by rw [ra.len, e]; rfl)) n1
    · exact absurd (List.eq_nil_of_length_eq_zero (by rw [rb.len, e2]; rfl)) n2
  · exact .inr (.inr (.inr (fAdd_lists r rv rw' q c)))
theorem ol_addH : OpL K fAddH (rAddA K) := fun v w x y h H Q' Q r rv rw' q c => by
  unfold fAddH at q
  split at q
  · rename_i xs ys e1 e2
    obtain ⟨a, us, ea, ha, ra⟩ := listOf_rel r rv e1
    obtain ⟨b, ws, eb, hb, rb⟩ := listOf_rel r rw' e2
    exact .inr (.inr (.inr ⟨a, b, us, ws, ea, eb, ha, hb, by rw [← ra.len, ← rb.len]; exact q.1, fun p e => c.lstH r (ra.append rb) e (q.2 p (r.nof e))⟩))
  · exact q.elim

mutual
def dat : Val → Option PyData
  | .non => some .none
  | .bl b => some (.bool b)
  | .int i => some (.int i)
  | .str x => some (.str x)
  | .tup vs => (dats vs).map .tuple
  | .tpo vs => (dats vs).map .tuple
  | .lst vs => (dats vs).map .list
  | .scr ns => some (.list (ns.map .int))
  | .ref _ => none
  | .ty _ => none
def dats : List Val → Option (List PyData)
  | [] => some []
  | v :: vs => match dat v, dats vs with
    | some d, some ds => some (d :: ds)
    | _, _ => none
end
theorem dpAll_ints {H : Hp} : ∀ ns : List Int, DpAll K H (ns.map V.int) (ns.map PyData.int)
  | [] => .nil
  | n :: ns => .cons (.int n) (dpAll_ints ns)
mutual
theorem dat_rel {H : Hp} {h : Hv} : ∀ {v : Val} {x : V} {d : PyData}, RV K H h v x → dat v = some d → Dp K H x d
  | .non, x, d, r, e => by rw [RV] at r; rw [dat] at e; cases e; subst r; exact .non
  | .bl b, x, d, r, e => by rw [RV] at r; rw [dat] at e; cases e; subst r; exact .bl b
  | .int b, x, d, r, e => by rw [RV] at r; rw [dat] at e; cases e; subst r; exact .int b
  | .str b, x, d, r, e => by rw [RV] at r; rw [dat] at e; cases e; subst r; exact .str b
  | .tup vs, x, d, r, e => by
    rw [RV] at r; rw [dat] at e
    obtain ⟨a, xs, e1, n, ha, rs⟩ := r
    obtain ⟨ds, e2, e3⟩ := Option.map_eq_some_iff.mp e
    subst e1 e3
    exact .tup (.of ha) (dats_rel rs e2)
  | .tpo vs, x, d, r, e => by
    rw [dat] at e
    obtain ⟨a, xs, e1, ha, rs⟩ := tpo_sqt r
    obtain ⟨ds, e2, e3⟩ := Option.map_eq_some_iff.mp e
    subst e1 e3
    exact .tup ha (dats_rel rs e2)
  | .lst vs, x, d, r, e => by
    rw [RV] at r; rw [dat] at e
    obtain ⟨a, xs, e1, n, ha, rs⟩ := r
    obtain ⟨ds, e2, e3⟩ := Option.map_eq_some_iff.mp e
    subst e1 e3
    exact .lst (.of ha) (dats_rel rs e2)
  | .scr ns, x, d, r, e => by
    obtain ⟨a, e1, q⟩ := scr_sql r
    rw [dat] at e; cases e
    subst e1
    exact .lst q (dpAll_ints ns)
  | .ref a, x, d, r, e => by rw [dat] at e; cases e
  | .ty a, x, d, r, e => by rw [dat] at e; cases e
theorem dats_rel {H : Hp} {h : Hv} : ∀ {vs : List Val} {xs : List V} {ds : List PyData}, RVs K H h vs xs → dats vs = some ds → DpAll K H xs ds
  | [], xs, ds, r, e => by rw [RVs] at r; rw [dats] at e; cases e; subst r; exact .nil
  | v :: vs, xs, ds, r, e => by
    rw [RVs] at r; rw [dats] at e
    obtain ⟨y, ys, e1, r1, r2⟩ := r
    split at e
    · rename_i d ds' h1 h2
      cases e
      subst e1
      exact .cons (dat_rel r1 h1) (dats_rel r2 h2)
    · cases e
end
def datH (v : Val) (h : Hv) : Option PyData := match v with
  | .ref a => match h a with
    | some (.lst vs) => (dats vs).map .list
    | _ => none
  | v => dat v
theorem datH_rel {H : Hp} {h : Hv} {v : Val} {x : V} {d : PyData} (r : RH K H h) (rv : RV K H h v x) (e : datH v h = some d) : Dp K H x d := by
  unfold datH at e
  split at e
  · rename_i a
    split at e
    · rename_i vs hv
      rw [RV] at rv
      obtain ⟨xs, e1, rs⟩ := r a _ hv
      obtain ⟨ds, e2, e3⟩ := Option.map_eq_some_iff.mp e
      subst rv e3
      exact .lst (.of e1) (dats_rel rs e2)
    · cases e
  · exact dat_rel rv e
@[simp] def scA : Val → Val → Option Bool
  | .non, .non => some true
  | .non, .int _ => some false
  | .int _, .non => some false
  | .non, .bl _ => some false
  | .bl _, .non => some false
  | .non, .str _ => some false
  | .str _, .non => some false
  | .int i, .int j => some (i == j)
  | .bl i, .bl j => some (i == j)
  | .str i, .str j => some (i == j)
  | .int _, .str _ => some false
  | .str _, .int _ => some false
  | .bl _, .str _ => some false
  | .str _, .bl _ => some false
  | _, _ => none
theorem scA_rel {H : Hp} {h : Hv} {v w : Val} {x y : V} {b : Bool} (rv : RV K H h v x) (rw' : RV K H h w y) (e : scA v w = some b) : scal x y = true ∧ decide (x = y) = b := by
  cases v <;> cases w <;> first | (cases e; done) | skip
  all_goals
    rw [RV] at rv
    rw [RV] at rw'
    subst rv
    subst rw'
    cases e
    refine ⟨rfl, ?_⟩
    first
      | exact dec_int
      | exact dec_bl
      | exact dec_str
      | simp
def datEq (v w : Val) (h : Hv) (Q : Bool → Prop) : Prop := ∃ d e, datH v h = some d ∧ datH w h = some e ∧ SeqAt.shaped d = true ∧ SeqAt.shaped e = true ∧ Q (PyData.eqv d e)
@[simp] def fEq : F2 := fun v w h Q => match scA v w with
  | some b => Q (.bl b) h
  | none => datEq v w h fun b => Q (.bl b) h
@[simp] def fNe : F2 := fun v w h Q => match scA v w with
  | some b => Q (.bl (!b)) h
  | none => datEq v w h fun b => Q (.bl (!b)) h
theorem or_eq {X : Cx} (hu : X.A.units + 64 < cLine) : OpR X (compareOp .Eq) (fun x y H Q => rEq x y H Q ∨ rEqD X.K x y H Q) := op_eq.or (op_eqD hu)
theorem or_ne {X : Cx} (hu : X.A.units + 64 < cLine) : OpR X (compareOp .NotEq) (fun x y H Q => rNe x y H Q ∨ rNeD X.K x y H Q) := op_ne.or (op_neD hu)
theorem ol_eq : OpL K fEq (fun x y H Q => rEq x y H Q ∨ rEqD K x y H Q) := fun v w x y h H Q' Q r rv rw' q c => by
  unfold fEq at q
  split at q
  · rename_i b e
    obtain ⟨s, d⟩ := scA_rel rv rw' e
    exact .inl ⟨s, by rw [d]; exact c.val r rv_bl q⟩
  · obtain ⟨d, e, h1, h2, s1, s2, q⟩ := q
    exact .inr ⟨d, e, datH_rel r rv h1, datH_rel r rw' h2, s1, s2, c.val r rv_bl q⟩
theorem ol_ne : OpL K fNe (fun x y H Q => rNe x y H Q ∨ rNeD K x y H Q) := fun v w x y h H Q' Q r rv rw' q c => by
  unfold fNe at q
  split at q
  · rename_i b e
    obtain ⟨s, d⟩ := scA_rel rv rw' e
    exact .inl ⟨s, by rw [d]; exact c.val r rv_bl q⟩
  · obtain ⟨d, e, h1, h2, s1, s2, q⟩ := q
    exact .inr ⟨d, e, datH_rel r rv h1, datH_rel r rw' h2, s1, s2, c.val r rv_bl q⟩

@[simp] def fIsN : F2 := fun v w h Q => match w with
  | .non => match v with
    | .non => Q (.bl true) h
    | _ => Q (.bl false) h
  | _ => False
@[simp] def fNotN : F2 := fun v w h Q => match w with
  | .non => match v with
    | .non => Q (.bl false) h
    | _ => Q (.bl true) h
  | _ => False
theorem RV.non_iff {H : Hp} {h : Hv} {v : Val} {x : V} (r : RV K H h v x) : x = .non ↔ v = .non := by
  cases v with
  | non => rw [RV] at r; exact ⟨fun _ => rfl, fun _ => r⟩
  | bl b => rw [RV] at r; subst r; exact ⟨fun z => (nomatch z), fun z => (nomatch z)⟩
  | int b => rw [RV] at r; subst r; exact ⟨fun z => (nomatch z), fun z => (nomatch z)⟩
  | str b => rw [RV] at r; subst r; exact ⟨fun z => (nomatch z), fun z => (nomatch z)⟩
  | tup b => rw [RV] at r; obtain ⟨a, xs, e, _⟩ := r; subst e; exact ⟨fun z => (nomatch z), fun z => (nomatch z)⟩
  | tpo b => rw [RV] at r; obtain ⟨a, xs, o, e, _⟩ := r; subst e; exact ⟨fun z => (nomatch z), fun z => (nomatch z)⟩
  | lst b => rw [RV] at r; obtain ⟨a, xs, e, _⟩ := r; subst e; exact ⟨fun z => (nomatch z), fun z => (nomatch z)⟩
  | scr b => rw [RV] at r; obtain ⟨a, e, _⟩ := r; subst e; exact ⟨fun z => (nomatch z), fun z => (nomatch z)⟩
  | ref b => rw [RV] at r; subst r; exact ⟨fun z => (nomatch z), fun z => (nomatch z)⟩
  | ty b => rw [RV] at r; subst r; exact ⟨fun z => (nomatch z), fun z => (nomatch z)⟩
theorem ol_notN : OpL K fNotN (fun x y H Q => y = .non ∧ Q (.bl (!decide (x = .non))) H) := fun v w x y h H Q' Q r rv rw' q c => by
  cases w with
  | non =>
    refine ⟨by rw [RV] at rw'; exact rw', ?_⟩
    by_cases e : v = .non
    · subst e
      rw [decide_eq_true (rv.non_iff.mpr rfl)]
      exact c.val r rv_bl q
    · rw [decide_eq_false (fun z => e (rv.non_iff.mp z))]
      cases v <;> first | exact absurd rfl e | exact c.val r rv_bl q
  | _ => exact q.elim

@[simp] def seqOf (v : Val) (h : Hv) : Option (List Val) := match v with
  | .lst vs => some vs
  | .tup vs => some vs
  | .tpo vs => some vs
  | .scr ns => some (ns.map .int)
  | .ref a => match h a with
    | some (.lst vs) => some vs
    | _ => none
  | _ => none
theorem seqOf_rel {H : Hp} {h : Hv} {v : Val} {x : V} {vs : List Val} (r : RH K H h) (rv : RV K H h v x) (e : seqOf v h = some vs) : ∃ a xs, x = .ref a ∧ (SqL K H a xs ∨ SqT K H a xs) ∧ RVs K H h vs xs := by
  cases v with
  | lst ws =>
    rw [RV] at rv
    obtain ⟨a, xs, e1, _, ha, rs⟩ := rv
    cases e
    exact ⟨a, xs, e1, .inl (.of ha), rs⟩
  | tup ws =>
    rw [RV] at rv
    obtain ⟨a, xs, e1, _, ha, rs⟩ := rv
    cases e
    exact ⟨a, xs, e1, .inr (.of ha), rs⟩
  | tpo ws =>
    obtain ⟨a, xs, e1, ha, rs⟩ := tpo_sqt rv
    cases e
    exact ⟨a, xs, e1, .inr ha, rs⟩
  | scr ns =>
    obtain ⟨a, e1, q⟩ := scr_sql rv
    cases e
    exact ⟨a, _, e1, .inl q, RVs.ofInts ns⟩
  | ref a =>
    rw [RV] at rv
    unfold seqOf at e
    dsimp only at e
    split at e
    · rename_i ws hw
      cases e
      obtain ⟨xs, e1, rs⟩ := r a _ hw
      exact ⟨a, xs, rv, .inl (.of e1), rs⟩
    · cases e
  | _ => cases e
@[simp] def flatA : Val → Bool
  | .non => true
  | .bl _ => true
  | .int _ => true
  | .str _ => true
  | _ => false
def eqA : Val → Val → Bool
  | .non, .non => true
  | .bl a, .bl b => a == b
  | .bl a, .int b => (if a then 1 else 0) == b
  | .int a, .bl b => a == (if b then 1 else 0)
  | .int a, .int b => a == b
  | .str a, .str b => a == b
  | _, _ => false
theorem flat_rel {H : Hp} {h : Hv} {v : Val} {x : V} (r : RV K H h v x) (f : flatA v = true) : flatV x = true := by
  cases v <;> first | (cases f; done) | (rw [RV] at r; subst r; rfl)
theorem eqA_rel {H : Hp} {h : Hv} {v w : Val} {x y : V} (r : RV K H h v x) (r' : RV K H h w y) (f : flatA v = true) (f' : flatA w = true) : eqV x y = eqA v w := by
  cases v <;> cases w <;> first | (cases f; done) | (cases f'; done) | (rw [RV] at r; rw [RV] at r'; subst r; subst r'; rfl)
theorem flats_rel {H : Hp} {h : Hv} : ∀ {vs : List Val} {xs : List V}, RVs K H h vs xs → vs.all flatA = true → xs.all flatV = true
  | [], xs, r, _ => by rw [RVs] at r; rw [r]; rfl
  | v :: vs, xs, r, f => by
    rw [RVs] at r
    obtain ⟨y, ys, e, r1, r2⟩ := r
    rw [List.all_cons, Bool.and_eq_true] at f
    rw [e, List.all_cons, flat_rel r1 f.1, flats_rel r2 f.2]; rfl
theorem any_eqA {H : Hp} {h : Hv} {w : Val} {y : V} (rw' : RV K H h w y) (fw : flatA w = true) : ∀ {vs : List Val} {xs : List V}, RVs K H h vs xs → vs.all flatA = true → xs.any (fun z => eqV z y) = vs.any (fun z => eqA z w)
  | [], xs, r, _ => by rw [RVs] at r; rw [r]; rfl
  | v :: vs, xs, r, f => by
    rw [RVs] at r
    obtain ⟨z, ys, e, r1, r2⟩ := r
    rw [List.all_cons, Bool.and_eq_true] at f
    rw [e, List.any_cons, List.any_cons, eqA_rel r1 rw' f.1 fw, any_eqA rw' fw r2 f.2]
def inA (v : Val) (vs : List Val) : Bool := vs.any fun z => eqA z v
@[simp] def fIn : F2 := fun v w h Q => match seqOf w h with
  | some vs => flatA v = true ∧ vs.all flatA = true ∧ Q (.bl (inA v vs)) h
  | none => False
@[simp] def fNotIn : F2 := fun v w h Q => match seqOf w h with
  | some vs => flatA v = true ∧ vs.all flatA = true ∧ Q (.bl (!inA v vs)) h
  | none => False
theorem ol_in : OpL K fIn (rIn K false) := fun v w x y h H Q' Q r rv rw' q c => by
  unfold fIn at q
  split at q
  · rename_i vs e
    obtain ⟨a, xs, e1, s, rs⟩ := seqOf_rel r rw' e
    refine ⟨a, xs, e1, s, flat_rel rv q.1, flats_rel rs q.2.1, ?_⟩
    rw [if_neg Bool.false_ne_true]
    unfold inV
    rw [any_eqA rv q.1 rs q.2.1]
    exact c.val r rv_bl q.2.2
  · exact q.elim
theorem ol_notIn : OpL K fNotIn (rIn K true) := fun v w x y h H Q' Q r rv rw' q c => by
  unfold fNotIn at q
  split at q
  · rename_i vs e
    obtain ⟨a, xs, e1, s, rs⟩ := seqOf_rel r rw' e
    refine ⟨a, xs, e1, s, flat_rel rv q.1, flats_rel rs q.2.1, ?_⟩
    rw [if_pos rfl]
    unfold inV
    rw [any_eqA rv q.1 rs q.2.1]
    exact c.val r rv_bl q.2.2
  · exact q.elim
end
end DL
namespace DL
open PySem PySem.Spec PyProof.Rows L2
section
variable {K : PySem.W.Frag} {H : Hp} {h : Hv}
theorem atI_rel {vs : List Val} {xs : List V} {i : Int} {v : Val} (r : RVs K H h vs xs) (e : atI vs i = some v) : ∃ x, atI xs i = some x ∧ RV K H h v x := by
  unfold atI at e ⊢
  rw [r.len] at e
  cases q : ixN xs.length i with
  | none => rw [q] at e; cases e
  | some j =>
    rw [q] at e
    exact r.get e
@[simp] def fIx : F2 := fun v w h Q => match w with
  | .int i => match v with
    | .str z => z.length ≤ sizeLine ∧ (match atI z.cps.toList i with
      | some c => Q (.str ⟨#[c]⟩) h
      | none => False)
    | _ => match seqOf v h with
      | some vs => (match atI vs i with
        | some u => Q u h
        | none => False)
      | none => False
  | _ => False
theorem ol_ix : OpL K fIx (rIx K) := fun v w x y h H Q' Q r rv rw' q c => by
  cases w with
  | int i =>
    rw [RV] at rw'
    have go : (match seqOf v h with
      | some vs => (match atI vs i with
        | some u => Q' u h
        | none => False)
      | none => False) → rIx K x y H Q := fun q => by
      split at q
      · rename_i vs e
        obtain ⟨a, xs, e1, s, rs⟩ := seqOf_rel r rv e
        split at q
        · rename_i u eu
          obtain ⟨z, ez, rz⟩ := atI_rel rs eu
          rcases s with s | s
          · exact .inl ⟨a, xs, i, z, e1, rw', s, ez, c.val r rz q⟩
          · exact .inr (.inl ⟨a, xs, i, z, e1, rw', s, ez, c.val r rz q⟩)
        · exact q.elim
      · exact q.elim
    cases v with
    | str z =>
      rw [RV] at rv
      obtain ⟨hz, q⟩ := q
      split at q
      · rename_i cc ec
        exact .inr (.inr ⟨z, i, cc, rv, rw', hz, ec, c.val r rv_str q⟩)
      · exact q.elim
    | non => exact go q
    | bl b => exact go q
    | int b => exact go q
    | tup b => exact go q
    | tpo b => exact go q
    | lst b => exact go q
    | scr b => exact go q
    | ref b => exact go q
    | ty b => exact go q
  | _ => exact q.elim
theorem de_ix {X : Cx} {B : Bs} {a b : Expr} {da db : ED} {pos : Pos} (ha : DE X B a da) (hb : DE X B b db) (hs : PlainIx b := by exact fun _ _ => rfl) : DE X B (.Subscript a b pos) (dBin fIx da db) :=
  PEi (pe_ix ix_seq ha hb hs) (rd_bin ol_ix)

def cutA (xs : List Val) (lo hi : Option Int) : List Val := (xs.drop (HT.sIx xs.length 0 lo)).take (HT.sIx xs.length xs.length hi - HT.sIx xs.length 0 lo)
theorem cut_rel {vs : List Val} {xs : List V} (lo hi : Option Int) (r : RVs K H h vs xs) : RVs K H h (cutA vs lo hi) (cutV xs lo hi) := by
  unfold cutA cutV
  rw [r.len]
  exact (r.drop _).take _
theorem cut_whole {xs : List Val} {lo hi : Option Int} (e : HT.sIx xs.length 0 lo = 0 ∧ HT.sIx xs.length xs.length hi = xs.length) : cutA xs lo hi = xs := by
  unfold cutA
  rw [e.1, e.2]
  simp
abbrev OD := Sl → Hv → (Option Int → Hv → Prop) → PX → Prop
def rdO (K : PySem.W.Frag) (B : Bs) (d : OD) : TO := fun σ H Q => ∃ ρ h Q', ST K B σ H ρ h ∧ d ρ h Q' B.E ∧ ∀ i h' H', Q' i h' → Step h H h' H' → RH K H' h' → Q i H'
@[simp] def oNone : OD := fun _ h Q _ => Q none h
@[simp] def oSome (d : ED) : OD := fun ρ h Q E => d ρ h (fun v h1 => match v with
  | .int i => Q (some i) h1
  | _ => False) E
theorem do_none {X : Cx} {B : Bs} : PO X none (rdO X.K B oNone) := ⟨fun pins s σ H Q I ⟨ρ, h, Q', S, q, C⟩ => po_none.run pins s σ H Q I (C _ _ _ q (Step.refl _ _) S.r)⟩
theorem do_some {X : Cx} {B : Bs} {e : Expr} {d : ED} (he : DE X B e d) : PO X (some e) (rdO X.K B (oSome d)) := ⟨fun pins s σ H Q I ⟨ρ, h, Q', S, q, C⟩ => (po_some he).run pins s σ H Q I ⟨ρ, h, _, S, q, fun v h1 x H1 q1 s1 rv1 r1 => by
    cases v with
    | int i => rw [RV] at rv1; exact ⟨i, rv1, C _ _ _ q1 s1 r1⟩
    | _ => exact q1.elim⟩⟩
abbrev F3 := Val → Option Int → Option Int → Hv → PV → Prop
@[simp] def dSl (f : F3) (d : ED) (lo hi : OD) : ED := fun ρ h Q E => d ρ h (fun v h1 => lo ρ h1 (fun l h2 => hi ρ h2 (fun u h3 => f v l u h3 Q) E) E) E
@[simp] def fSl : F3 := fun v lo hi h Q => match v with
  | .tup vs => Q (.tup (cutA vs lo hi)) h
  | .tpo vs => if HT.sIx vs.length 0 lo = 0 ∧ HT.sIx vs.length vs.length hi = vs.length then Q (.tpo vs) h else Q (.tup (cutA vs lo hi)) h
  | .lst vs => Q (.lst (cutA vs lo hi)) h
  | .str z => z.length ≤ sizeLine ∧ Q (.str (cutS z lo hi)) h
  | .ref a => match h a with
    | some (.lst vs) => Q (.lst (cutA vs lo hi)) h
    | _ => False
  | _ => False
def rSlAll (K : PySem.W.Frag) : V → Option Int → Option Int → Hp → VK → Prop := fun x lo hi H Q => rSlL K x lo hi H Q ∨ rSlA K x lo hi H Q ∨ rSlS x lo hi H Q
theorem de_slice {X : Cx} {B : Bs} {a : Expr} {da : ED} {lo hi : Option Expr} {dl dh : OD} {pos p2 : Pos} (ha : DE X B a da) (hl : PO X lo (rdO X.K B dl)) (hu : PO X hi (rdO X.K B dh)) : DE X B (.Subscript a (.Slice lo hi none p2) pos) (dSl fSl da dl dh) := by
  refine PEi (pe_slice (r := rSlAll X.K) (sl_list.or (sl_tupA.or sl_str)) ha hl hu) fun σ H Q ⟨ρ, h, Q', S, q, C⟩ => ?_
  refine ⟨ρ, h, _, S, q, fun v h1 x H1 q1 s1 rv1 r1 => ⟨ρ, h1, _, S.step s1 r1, q1, fun l h2 H2 q2 s2 r2 => ⟨ρ, h2, _, S.step (s1.trans s2) r2, q2, fun u h3 H3 q3 s3 r3 => ?_⟩⟩⟩
  have C3 := C.trans (s1.trans (s2.trans s3))
  have rv := rv1.step (s2.trans s3)
  cases v with
  | tup vs =>
    have rv0 := rv
    rw [RV] at rv
    obtain ⟨a, xs, e1, n, ha, rs⟩ := rv
    refine .inr (.inl ⟨a, xs, e1, .of ha, fun e => ?_, fun _ p e => C3.tup r3 (cut_rel l u rs) e q3⟩)
    rw [← rs.len] at e
    have q3' : Q' (.tup (cutA vs l u)) h3 := q3
    rw [cut_whole e] at q3'
    rw [← e1]
    exact C3.val r3 rv0 q3'
  | tpo vs =>
    obtain ⟨a, xs, e1, ha, rs⟩ := tpo_sqt rv
    have q3' : if HT.sIx vs.length 0 l = 0 ∧ HT.sIx vs.length vs.length u = vs.length then Q' (.tpo vs) h3 else Q' (.tup (cutA vs l u)) h3 := q3
    refine .inr (.inl ⟨a, xs, e1, ha, fun e => ?_, fun ne p e => ?_⟩)
    · rw [← rs.len] at e
      rw [if_pos e] at q3'
      rw [← e1]
      exact C3.val r3 rv q3'
    · rw [← rs.len] at ne
      rw [if_neg ne] at q3'
      exact C3.tup r3 (cut_rel l u rs) e q3'
  | lst vs =>
    rw [RV] at rv
    obtain ⟨a, xs, e1, n, ha, rs⟩ := rv
    exact .inl ⟨a, xs, e1, .of ha, fun p e => C3.lst r3 (cut_rel l u rs) e q3⟩
  | str z =>
    rw [RV] at rv
    exact .inr (.inr ⟨z, rv, q3.1, C3.val r3 rv_str q3.2⟩)
  | ref a =>
    rw [RV] at rv
    have q3' : (match h3 a with
      | some (.lst vs) => Q' (.lst (cutA vs l u)) h3
      | _ => False) := q3
    split at q3'
    · rename_i vs hv
      obtain ⟨xs, e1, rs⟩ := r3 a _ hv
      exact .inl ⟨a, xs, rv, .of e1, fun p e => C3.lst r3 (cut_rel l u rs) e q3'⟩
    · exact q3'.elim
  | _ => exact q3.elim

def ltF : Val → Val → Option Bool
  | .int i, .int j => some (decide (i < j))
  | .str a, .str b => some (decide (a.cps.toList < b.cps.toList))
  | _, _ => none
def ltL : List Val → List Val → Option Bool
  | [], [] => some false
  | [], _ :: _ => some true
  | _ :: _, [] => some false
  | x :: xs, y :: ys => if eqA x y = true then ltL xs ys else ltF x y
@[simp] def ltA : Val → Val → Option Bool
  | .tup xs, .tup ys => if (xs.all flatA && ys.all flatA && (xs.zip ys).all fun p => (ltF p.1 p.2).isSome || eqA p.1 p.2) = true then ltL xs ys else none
  | v, w => ltF v w
end
section
variable {X : Cx}
@[simp] def fLt : F2 := fun v w h Q => match ltA v w with
  | some b => Q (.bl b) h
  | none => False
end
end DL
namespace DL
open PySem PySem.Spec PyProof.Rows L2
section
variable {K : PySem.W.Frag}
@[simp] def fInS : F2 := fun v w h Q => match v, w with
  | .str ⟨⟨[c]⟩⟩, .str z => Q (.bl (decide (c ∈ z.cps.toList))) h
  | _, _ => False
@[simp] def fNotInS : F2 := fun v w h Q => match v, w with
  | .str ⟨⟨[c]⟩⟩, .str z => Q (.bl (!decide (c ∈ z.cps.toList))) h
  | _, _ => False
@[simp] def lenA (v : Val) (h : Hv) : Option Nat := match v with
  | .str z => if z.length ≤ sizeLine then some z.length else none
  | v => (seqOf v h).map List.length
@[simp] def fLen : FA := fun vs h Q => match vs with
  | [v] => match lenA v h with
    | some n => Q (.int n) h
    | none => False
  | _ => False
theorem rvs1 {H : Hp} {h : Hv} {v : Val} {xs : List V} (r : RVs K H h [v] xs) : ∃ x, xs = [x] ∧ RV K H h v x := by
  rw [RVs] at r
  obtain ⟨y, ys, e, r1, r2⟩ := r
  rw [RVs] at r2
  subst r2
  exact ⟨y, e, r1⟩
theorem rvs2 {H : Hp} {h : Hv} {v w : Val} {xs : List V} (r : RVs K H h [v, w] xs) : ∃ x y, xs = [x, y] ∧ RV K H h v x ∧ RV K H h w y := by
  rw [RVs] at r
  obtain ⟨y, ys, e, r1, r2⟩ := r
  obtain ⟨z, e2, r3⟩ := rvs1 r2
  subst e2
  exact ⟨y, z, e, r1, r3⟩
theorem cl_len : CaL K fLen (fun xs H Q => ∃ x n, xs = [x] ∧ LenV K x H n ∧ Q (.int n) H) := fun vs xs h H Q' Q r rs q c => by
  unfold fLen at q
  split at q
  · rename_i v
    obtain ⟨x, e, rv⟩ := rvs1 rs
    split at q
    · rename_i n en
      refine ⟨x, n, e, ?_, c.val r rv_int q⟩
      unfold lenA at en
      split at en
      · rename_i z
        split at en
        · rename_i hz
          cases en
          rw [RV] at rv
          subst rv
          exact ⟨hz, rfl⟩
        · cases en
      · obtain ⟨ws, e1, e2⟩ := Option.map_eq_some_iff.mp en
        obtain ⟨a, ys, e3, s, rss⟩ := seqOf_rel r rv e1
        subst e3
        rw [← e2]
        rcases s with s | s
        · exact .inl ⟨ys, s, rss.len⟩
        · exact .inr ⟨ys, s, rss.len⟩
    · exact q.elim
  · exact q.elim
def blsOf : List Val → Option (List Bool)
  | [] => some []
  | .bl b :: vs => (blsOf vs).map (b :: ·)
  | _ :: _ => none
theorem blsOf_eq : ∀ {vs : List Val} {bs : List Bool}, blsOf vs = some bs → vs = bs.map Val.bl
  | [], bs, e => by cases e; rfl
  | v :: vs, bs, e => by
    cases v with
    | bl b =>
      obtain ⟨cs, e1, e2⟩ := Option.map_eq_some_iff.mp e
      rw [← e2, List.map_cons, blsOf_eq e1]
    | _ => cases e
@[simp] theorem blsOf_map {α : Type} (g : α → Bool) : ∀ xs : List α, blsOf (xs.map fun x => Val.bl (g x)) = some (xs.map g)
  | [] => rfl
  | x :: xs => by rw [List.map_cons, blsOf, blsOf_map g xs]; rfl
@[simp] theorem blsOf_map' (bs : List Bool) : blsOf (bs.map Val.bl) = some bs := by
  have := blsOf_map id bs
  simpa using this
@[simp] def fAll : FA := fun vs h Q => match vs with
  | [v] => match (listOf v h).bind blsOf with
    | some bs => Q (.bl (bs.all id)) h
    | none => False
  | _ => False
@[simp] def fAny : FA := fun vs h Q => match vs with
  | [v] => match (listOf v h).bind blsOf with
    | some bs => Q (.bl (bs.any id)) h
    | none => False
  | _ => False
theorem cl_all : CaL K fAll (rAll K) := fun vs xs h H Q' Q r rs q c => by
  unfold fAll at q
  split at q
  · obtain ⟨x, e, rv⟩ := rvs1 rs
    split at q
    · rename_i bs eb
      obtain ⟨ws, e1, e2⟩ := Option.bind_eq_some_iff.mp eb
      obtain ⟨a, ys, e3, ha, rss⟩ := listOf_rel r rv e1
      rw [blsOf_eq e2] at rss
      rw [rss.bls] at ha
      exact ⟨a, bs, by rw [e, e3], .of ha, c.val r rv_bl q⟩
    · exact q.elim
  · exact q.elim
def intsOf : List Val → Option (List Int)
  | [] => some []
  | .int b :: vs => (intsOf vs).map (b :: ·)
  | _ :: _ => none
theorem intsOf_eq : ∀ {vs : List Val} {bs : List Int}, intsOf vs = some bs → vs = bs.map Val.int
  | [], bs, e => by cases e; rfl
  | v :: vs, bs, e => by
    cases v with
    | int b =>
      obtain ⟨cs, e1, e2⟩ := Option.map_eq_some_iff.mp e
      rw [← e2, List.map_cons, intsOf_eq e1]
    | _ => cases e
@[simp] theorem intsOf_map {α : Type} (g : α → Int) : ∀ xs : List α, intsOf (xs.map fun x => Val.int (g x)) = some (xs.map g)
  | [] => rfl
  | x :: xs => by rw [List.map_cons, intsOf, intsOf_map g xs]; rfl
@[simp] theorem intsOf_map' (bs : List Int) : intsOf (bs.map Val.int) = some bs := by
  have := intsOf_map id bs
  simpa using this
@[simp] def fSum : FA := fun vs h Q => match vs with
  | [v] => match (listOf v h).bind intsOf with
    | some bs => Q (.int bs.sum) h
    | none => False
  | _ => False
theorem cl_sum : CaL K fSum (rSum K) := fun vs xs h H Q' Q r rs q c => by
  unfold fSum at q
  split at q
  · obtain ⟨x, e, rv⟩ := rvs1 rs
    split at q
    · rename_i bs eb
      obtain ⟨ws, e1, e2⟩ := Option.bind_eq_some_iff.mp eb
      obtain ⟨a, ys, e3, ha, rss⟩ := listOf_rel r rv e1
      rw [intsOf_eq e2] at rss
      rw [rss.ints] at ha
      exact ⟨a, bs, by rw [e, e3], .of ha, c.val r rv_int q⟩
    · exact q.elim
  · exact q.elim
@[simp] def fTuple : FA := fun vs h Q => match vs with
  | [.tpo ws] => Q (.tpo ws) h
  | [v] => match seqOf v h with
    | some ws => Q (.tup ws) h
    | none => False
  | _ => False
theorem sq_inj {H : Hp} {h : Hv} {v : Val} {x : V} {ws : List Val} (r : RH K H h) (rv : RV K H h v x) (e : seqOf v h = some ws) (nt : ∀ us, v ≠ .tpo us) :
    (∃ a xs, x = .ref a ∧ SqL K H a xs ∧ RVs K H h ws xs) ∨ (v = .tup ws ∧ ∃ a xs, x = .ref a ∧ SqT K H a xs ∧ RVs K H h ws xs) := by
  cases v with
  | tup us =>
    rw [RV] at rv
    obtain ⟨a, xs, e1, _, ha, rs⟩ := rv
    cases e
    exact .inr ⟨rfl, a, xs, e1, .of ha, rs⟩
  | tpo us => exact absurd rfl (nt us)
  | lst us =>
    rw [RV] at rv
    obtain ⟨a, xs, e1, _, ha, rs⟩ := rv
    cases e
    exact .inl ⟨a, xs, e1, .of ha, rs⟩
  | scr ns =>
    obtain ⟨a, e1, q⟩ := scr_sql rv
    cases e
    exact .inl ⟨a, _, e1, q, RVs.ofInts ns⟩
  | ref a =>
    rw [RV] at rv
    unfold seqOf at e
    dsimp only at e
    split at e
    · rename_i us hw
      cases e
      obtain ⟨xs, e1, rs⟩ := r a _ hw
      exact .inl ⟨a, xs, rv, .of e1, rs⟩
    · cases e
  | _ => cases e
theorem cl_tuple : CaL K fTuple (fun xs H Q => ∃ p ys, xs = [.ref p] ∧ ((SqL K H p ys ∧ ∀ l, H l = none → Q (.ref l) (upd H l (.tup ys))) ∨ (SqT K H p ys ∧ Q (.ref p) H))) := fun vs xs h H Q' Q r rs q c => by
  unfold fTuple at q
  split at q
  · obtain ⟨x, e, rv⟩ := rvs1 rs
    obtain ⟨a, ys, e3, ha, rss⟩ := tpo_sqt rv
    refine ⟨a, ys, by rw [e, e3], .inr ⟨ha, ?_⟩⟩
    rw [← e3]
    exact c.val r rv q
  · rename_i nt
    obtain ⟨x, e, rv⟩ := rvs1 rs
    split at q
    · rename_i v ws ew
      rcases sq_inj r rv ew (fun us z => nt us (by rw [z])) with ⟨a, ys, e3, ha, rss⟩ | ⟨e0, a, ys, e3, ha, rss⟩
      · exact ⟨a, ys, by rw [e, e3], .inl ⟨ha, fun l hl => c.tup r rss hl q⟩⟩
      · subst e0
        refine ⟨a, ys, by rw [e, e3], .inr ⟨ha, ?_⟩⟩
        rw [← e3]
        exact c.val r rv q
    · exact q.elim
  · exact q.elim
@[simp] def fList : FA := fun vs h Q => match vs with
  | [v] => match seqOf v h with
    | some ws => Q (.lst ws) h
    | none => False
  | _ => False
@[simp] def fListH : FA := fun vs h Q => match vs with
  | [v] => match seqOf v h with
    | some ws => ∀ p, h p = none → Q (.ref p) (put h p (.lst ws))
    | none => False
  | _ => False
theorem cl_listH : CaL K fListH (fun xs H Q => ∃ p ys, xs = [.ref p] ∧ (SqL K H p ys ∨ SqT K H p ys) ∧ ∀ l, H l = none → Q (.ref l) (upd H l (.lst ys))) := fun vs xs h H Q' Q r rs q c => by
  unfold fListH at q
  split at q
  · obtain ⟨x, e, rv⟩ := rvs1 rs
    split at q
    · rename_i v ws ew
      obtain ⟨a, ys, e3, s, rss⟩ := seqOf_rel r rv ew
      exact ⟨a, ys, by rw [e, e3], s, fun l hl => c.lstH r rss hl (q l (r.nof hl))⟩
    · exact q.elim
  · exact q.elim
@[simp] def tyN (v : Val) (h : Hv) : Option String := match v with
  | .non => some "NoneType"
  | .bl _ => some "bool"
  | .int _ => some "int"
  | .str _ => some "str"
  | .tup _ => some "tuple"
  | .tpo _ => some "tuple"
  | .lst _ => some "list"
  | .scr _ => none
  | .ref a => match h a with
    | some (.lst _) => some "list"
    | some (.dK _) => some "dict"
    | some (.dT _) => some "dict"
    | _ => none
  | .ty _ => none
@[simp] def isT (t T : String) : Bool := t == T || (t == "bool" && T == "int")
theorem kitB_is : (["NoneType", "bool", "int", "str", "tuple", "list", "dict"].all fun t => ["int", "bool", "str", "tuple", "list"].all fun T => kitB t T == some (isT t T)) = true := by decide +kernel
theorem kitB_eq {t T : String} (h1 : t ∈ ["NoneType", "bool", "int", "str", "tuple", "list", "dict"]) (h2 : T ∈ ["int", "bool", "str", "tuple", "list"]) : kitB t T = some (isT t T) := by
  have a := List.all_eq_true.mp kitB_is t h1
  have b := List.all_eq_true.mp a T h2
  exact beq_iff_eq.mp b
theorem tyN_rel {H : Hp} {h : Hv} {v : Val} {x : V} {t : String} (r : RH K H h) (rv : RV K H h v x) (e : tyN v h = some t) : TyX K H x (.type t) ∧ t ∈ ["NoneType", "bool", "int", "str", "tuple", "list", "dict"] := by
  cases v with
  | non => rw [RV] at rv; subst rv; cases e; exact ⟨.base .non, by decide⟩
  | bl b => rw [RV] at rv; subst rv; cases e; exact ⟨.base (.bl b), by decide⟩
  | int b => rw [RV] at rv; subst rv; cases e; exact ⟨.base (.int b), by decide⟩
  | str b => rw [RV] at rv; subst rv; cases e; exact ⟨.base (.str b), by decide⟩
  | tup vs =>
    rw [RV] at rv
    obtain ⟨a, xs, e1, _, ha, rs⟩ := rv
    subst e1; cases e
    exact ⟨.base (.tup ha), by decide⟩
  | tpo vs =>
    rw [RV] at rv
    obtain ⟨a, xs, o, e1, _, ha, _, rs⟩ := rv
    subst e1; cases e
    exact ⟨.fTuple ha, by decide⟩
  | lst vs =>
    rw [RV] at rv
    obtain ⟨a, xs, e1, _, ha, rs⟩ := rv
    subst e1; cases e
    exact ⟨.base (.lst ha), by decide⟩
  | scr ns => cases e
  | ref a =>
    rw [RV] at rv
    subst rv
    unfold tyN at e
    dsimp only at e
    split at e
    · rename_i vs hv
      obtain ⟨xs, e1, rs⟩ := r a _ hv
      cases e
      exact ⟨.base (.lst e1), by decide⟩
    · rename_i vs hv
      obtain ⟨xs, e1, rs⟩ := r a _ hv
      cases e
      exact ⟨.base (.dK e1), by decide⟩
    · rename_i vs hv
      obtain ⟨xs, e1, rs⟩ := r a _ hv
      cases e
      exact ⟨.base (.dT e1), by decide⟩
    · cases e
  | ty n => cases e
@[simp] def fIsi : FA := fun vs h Q => match vs with
  | [v, .ty T] => match tyN v h with
    | some t => T ∈ ["int", "bool", "str", "tuple", "list"] ∧ Q (.bl (isT t T)) h
    | none => False
  | _ => False
theorem cl_isi : CaL K fIsi (rIsi K) := fun vs xs h H Q' Q r rs q c => by
  unfold fIsi at q
  split at q
  · rename_i v T
    obtain ⟨x, y, e, rv, rw'⟩ := rvs2 rs
    split at q
    · rename_i t et
      obtain ⟨hT, q⟩ := q
      obtain ⟨ty, ht⟩ := tyN_rel r rv et
      rw [RV] at rw'
      exact ⟨x, y, .type t, .type T, isT t T, e, by rw [rw']; exact .ty T, ty, kit_ty (kitB_eq ht hT), c.val r rv_bl q⟩
    · exact q.elim
  · exact q.elim
end
abbrev PF := Str → Option Val → Hv → Prop
abbrev SpF := List Val → Hv → PV → PF → Prop
def PLd (K : PySem.W.Frag) (H : Hp) (h : Hv) (d : Option Addr) (pl : Option Val) : Prop := (d = none ∧ pl = none) ∨ ∃ a x v, d = some a ∧ pl = some v ∧ H a = some (.xd [("land", x)]) ∧ h a = none ∧ RV K H h v x
theorem PLd.step {K : PySem.W.Frag} {H H' : Hp} {h h' : Hv} {d : Option Addr} {pl : Option Val} (x : PLd K H h d pl) (s : Step h H h' H') : PLd K H' h' d pl := by
  rcases x with x | ⟨a, x, v, e1, e2, ha, n, rv⟩
  · exact .inl x
  · have z := s.n a _ ha n (fun _ z => nomatch z)
    exact .inr ⟨a, x, v, e1, e2, z.1, z.2, rv.step s⟩
def ContX (K : PySem.W.Frag) (mg : Str → Option Value) (h : Hv) (H : Hp) (E' : PF) (E : XK) : Prop := ∀ nm pl h' cls d H', E' nm pl h' → Step h H h' H' → RH K H' h' → mg nm = some cls → PLd K H' h' d pl → E cls d H'
def spA (K : PySem.W.Frag) (mg : Str → Option Value) (n : Nat) (fs : SpF) : Sp := fun vs H Q E => ∃ as h Q' E', RVs K H h as vs ∧ RH K H h ∧ as.length = n ∧ fs as h Q' E' ∧ Cont K h H Q' Q ∧ ContX K mg h H E' E
def wx (mg : Str → Option Value) (K : PySem.W.Frag) (B : Bs) : WX := fun cls d σ H => ∃ nm pl ρ h, mg nm = some cls ∧ ST K B σ H ρ h ∧ PLd K H h d pl ∧ B.E nm pl ρ h
def TakesB (X : Cx) (B : Bs) : Prop := Takes X (wx X.mg X.K B)
def Fn (P : Program) (w : World) (K : PySem.W.Frag) (mg : Str → Option Value) (base : Heap) (A : Around) (x : Str) (n : Nat) (fs : SpF) : Prop :=
  ∃ (k : Nat) (f : Addr) (fd : FuncData) (ps : List Str), FnOk P w K mg base (L2.CX P w) k f fd ps (spA K mg n fs) ∧ Room k A ∧ mg x = some (.ref f) ∧ PySem.W.keepIn K (.ref f) = true ∧ Binds K fd ps []
@[simp] def dCall (n : Nat) (fs : SpF) (aa : AD) : ED := fun ρ h Q E => aa ρ h (fun vs h1 => vs.length = n ∧ fs vs h1 Q (fun nm pl h' => E nm pl ρ h')) E
theorem rd_call {K : PySem.W.Frag} {mg : Str → Option Value} {B : Bs} {n : Nat} {fs : SpF} {aa : AD} : ∀ σ H Q, rdE K B (dCall n fs aa) σ H Q → tCallS (spA K mg n fs) (WE (wx mg K B)) (rdA K B aa) σ H Q := fun σ H Q ⟨ρ, h, Q', S, q, C⟩ =>
  ⟨ρ, h, _, S, q, fun vs h1 xs H1 q1 s1 rv1 r1 => ⟨vs, h1, Q', fun nm pl h' => B.E nm pl ρ h', rv1, r1, q1.1, q1.2, C.trans s1, fun nm pl h' cls d H' hE s2 r2 hm pld => ⟨nm, pl, ρ, h', hm, S.step (s1.trans s2) r2, pld, hE⟩⟩⟩
theorem de_call {X : Cx} {B : Bs} {x : Str} {n : Nat} {fs : SpF} {p pos : Pos} {e : Expr} {es : List Expr} {aa : AD} (F : Fn X.prog X.w X.K X.mg X.base X.A x n fs) (tk : TakesB X B) (ha : DA X B (e :: es) aa) (hg : Gl X x := by rfl)
    (hdb : (x == ("__debug__" : Str)) = false := by decide) (he : starEach (e :: es) X.env = (false, eval e X.env) :: starEach es X.env := by rfl) (hpl : (backTo pos (starEach es X.env)).any (·.1) = false := by rfl) :
    DE X B (.Call (.Name x p) (e :: es) [] pos) (dCall n fs aa) := by
  obtain ⟨k, f, fd, ps, G, hr, hm, hk, hb⟩ := F
  exact PEi (pe_callS (E := WE (wx X.mg X.K B)) G hr hg hm hk hb (fun σ => passAt tk σ) ha hdb he hpl) rd_call
theorem de_call0 {X : Cx} {B : Bs} {x : Str} {fs : SpF} {p pos : Pos} (F : Fn X.prog X.w X.K X.mg X.base X.A x 0 fs) (tk : TakesB X B) (hg : Gl X x := by rfl)
    (hdb : (x == ("__debug__" : Str)) = false := by decide) : DE X B (.Call (.Name x p) [] [] pos) (dCall 0 fs aNil) := by
  obtain ⟨k, f, fd, ps, G, hr, hm, hk, hb⟩ := F
  refine ⟨fun pins s σ H Q I h => ?_⟩
  refine wpAny_Call_Name_kw (ld_glob I hg hm ?_ hdb)
  refine PySem.W.callWith_K0 I.kIn hk (run_fnS (us := []) (vs := []) (E := WE (wx X.mg X.K B)) G hr hb (passAt tk σ) I .nil ?_)
  obtain ⟨ρ, h, Q', S, q, C⟩ := h
  exact ⟨[], h, Q', fun nm pl h' => B.E nm pl ρ h', RVs.nil, S.r, rfl, q.2, C, fun nm pl h' cls d H' hE s2 r2 hm pld => ⟨nm, pl, ρ, h', hm, S.step s2 r2, pld, hE⟩⟩
theorem takesF {X : Cx} {h0 : Hv} {H0 : Hp} : TakesB X ⟨fun _ _ _ _ => False, h0, H0⟩ := fun u s' ⟨a, B, sI, pins, σ, H, cls, d, e, I, nb, up, sky, na, os, ag, w⟩ => by
  obtain ⟨_, _, _, _, _, _, _, z⟩ := w
  exact z.elim
end DL
namespace DL
open PySem PySem.Spec PyProof.Rows L2
section
variable {X : Cx} {B : Bs} {st : Stmt} {rest a b : List Stmt} {d d1 d2 : SD} {e : Expr} {de : ED} {pos : Pos} {c : Expr} {tc : TD}
@[simp] def sNext : SD := fun ρ h D _ => D.nx ρ h
@[simp] def sSeq (d1 d2 : SD) : SD := fun ρ h D E => d1 ρ h { D with nx := fun ρ' h' => d2 ρ' h' D E } E
theorem dss_nil : DSs X B [] sNext := PSsi pss_nil fun D σ H ⟨ρ, h, D', S, q, C⟩ => C.nx _ _ _ _ q (Step.refl _ _) S
theorem dss_one (hs : DS X B st d) : DSs X B [st] d := pss_one hs
theorem dss_cons (h1 : DS X B st d1) (h2 : DSs X B rest d2) : DSs X B (st :: rest) (sSeq d1 d2) :=
  PSsi (pss_cons h1 h2) fun D σ H ⟨ρ, h, D', S, q, C⟩ => ⟨ρ, h, _, S, q, ⟨fun ρ1 h1 σ1 H1 q1 s1 S1 => ⟨ρ1, h1, D', S1, q1, C.trans s1⟩, C.rt, C.bk, C.ct⟩⟩
@[simp] def sBreak : SD := fun ρ h D _ => D.bk ρ h
@[simp] def sCont : SD := fun ρ h D _ => D.ct ρ h
@[simp] def sExpr (de : ED) : SD := fun ρ h D E => de ρ h (fun _ h1 => D.nx ρ h1) E
theorem ds_expr (he : DE X B e de) (hs : swapsWith e none pos.line X.env = pure false := by rfl) : DS X B (.Expr e pos) (sExpr de) :=
  PSi (ps_expr he hs) fun D σ H ⟨ρ, h, D', S, q, C⟩ => ⟨ρ, h, _, S, q, fun v h1 x H1 q1 s1 rv1 r1 => C.nx _ _ _ _ q1 s1 (S.step s1 r1)⟩
@[simp] def sRet (de : ED) : SD := fun ρ h D E => de ρ h D.rt E
theorem ds_ret (he : DE X B e de) : DS X B (.Return (some e) pos) (sRet de) :=
  PSi (ps_ret he) fun D σ H ⟨ρ, h, D', S, q, C⟩ => ⟨ρ, h, _, S, q, C.rt⟩
@[simp] def sRetN : SD := fun ρ h D _ => D.rt .non h
@[simp] def sIf (tc : TD) (d1 d2 : SD) : SD := fun ρ h D E => tc ρ h (fun k h1 => if k = true then d1 ρ h1 D E else d2 ρ h1 D E) E
theorem ds_if (hc : DT X B c tc) (ha : DSs X B a d1) (hb : DSs X B b d2) : DS X B (.If c a b pos) (sIf tc d1 d2) :=
  PSi (ps_if hc ha hb) fun D σ H ⟨ρ, h, D', S, q, C⟩ => ⟨ρ, h, _, S, q, fun k h1 H1 q1 s1 r1 => by
    cases k with
    | true => rw [if_pos rfl] at q1 ⊢; exact ⟨ρ, h1, D', S.step s1 r1, q1, C.trans s1⟩
    | false => rw [if_neg Bool.false_ne_true] at q1 ⊢; exact ⟨ρ, h1, D', S.step s1 r1, q1, C.trans s1⟩⟩
@[simp] def sSet (i : Nat) (de : ED) : SD := fun ρ h D E => de ρ h (fun v h1 => D.nx (ρ.set i (some v)) h1) E
theorem rd_set {K : PySem.W.Frag} {i : Nat} : ∀ D σ H, rdS K B (sSet i de) D σ H → tAsg (rdE K B de) (gName i) D σ H := fun D σ H ⟨ρ, h, D', S, q, C⟩ =>
  ⟨ρ, h, _, S, q, fun v h1 x H1 q1 s1 rv1 r1 => C.nx _ _ _ _ q1 s1 ((S.step s1 r1).set i rv1)⟩
theorem ds_set {i : Nat} {x : Str} {pos' : Pos} (hN : X.N.Nodup) (hi : X.N[i]? = some x) (hx : Loc X.env.scope x) (he : DE X B e de) (hs : swapsWith e (some (.Name x pos')) pos.line X.env = pure false := by rfl) (hf : X.fn x = true ∨ X.env.scope.names.lookup x = some .local := by first | exact .inl rfl | exact .inr rfl | assumption) :
    DS X B (.Assign [.Name x pos'] e pos) (sSet i de) := PSi (ps_set hN hi hx he hs hf) rd_set
@[simp] def sAug (i : Nat) (f : F2) (de : ED) : SD := fun ρ h D E => match ρ[i]? with
  | some (some v) => de ρ h (fun w h1 => f v w h1 (fun z h2 => D.nx (ρ.set i (some z)) h2)) E
  | _ => False
theorem ds_augI {i : Nat} {x : Str} {op : Operator} {f : F2} {r : R2} {pos' : Pos} (hN : X.N.Nodup) (hi : X.N[i]? = some x) (hx : Loc X.env.scope x) (he : DE X B e de) (ho : OpR X (inplaceOp op) r) (hl : OpL X.K f r) (hf : X.fn x = true ∨ X.env.scope.names.lookup x = some .local := by first | exact .inl rfl | exact .inr rfl | assumption) :
    DS X B (.AugAssign (.Name x pos') op e pos) (sAug i f de) :=
  PSi (ps_aug (ti := r) hN hi hx he ho hf) fun D σ H ⟨ρ, h, D', S, q, C⟩ => by
    unfold sAug at q
    split at q
    · rename_i v ev
      obtain ⟨x, ex, rx⟩ := S.s.2 i v ev
      refine ⟨x, ex, ρ, h, _, S, q, fun w h1 y H1 q1 s1 rv1 r1 => ?_⟩
      exact hl v w x y h1 H1 _ _ r1 (rx.step s1) rv1 q1 fun z h2 zx H2 q2 s2 rv2 r2 => C.nx _ _ _ _ q2 (s1.trans s2) ((S.step (s1.trans s2) r2).set i rv2)
    · exact q.elim
def whileN (tc : TD) (d : SD) : Nat → Sl → Hv → AE → PX → Prop
  | 0, _, _, _, _ => False
  | n + 1, ρ, h, D, E => tc ρ h (fun k h1 => if k = true then d ρ h1 { D with nx := fun ρ' h' => whileN tc d n ρ' h' D E, ct := fun ρ' h' => whileN tc d n ρ' h' D E, bk := D.nx } E else D.nx ρ h1) E
def sWhile (tc : TD) (d : SD) : SD := fun ρ h D E => ∃ n, whileN tc d n ρ h D E
theorem ds_while (hp : PassesOwn (model X.prog X.w) X.A X.env X.xe) (hc : DT X B c tc) (hb : DSs X B a d) : DS X B (.While c a [] pos) (sWhile tc d) := by
  refine PSi (ps_while hp hc hb) fun D σ H ⟨ρ, h, D', S, ⟨n, q⟩, C⟩ => ?_
  refine ⟨fun m σ1 H1 => ∃ ρ1 h1, ST X.K B σ1 H1 ρ1 h1 ∧ Step h H h1 H1 ∧ whileN tc d m ρ1 h1 D' B.E, ⟨n, ρ, h, S, Step.refl _ _, q⟩, ?_⟩
  rintro m σ1 H1 ⟨ρ1, h1, S1, s1, q1⟩
  cases m with
  | zero => exact q1.elim
  | succ m =>
    refine ⟨ρ1, h1, _, S1, q1, fun k h2 H2 q2 s2 r2 => ?_⟩
    have S2 := S1.step s2 r2
    cases k with
    | false =>
      rw [if_neg Bool.false_ne_true] at q2
      exact iteF (C.nx _ _ _ _ q2 (s1.trans s2) S2)
    | true =>
      rw [if_pos rfl] at q2
      refine iteT ⟨fun σ3 H3 => ∃ ρ3 h3, ST X.K B σ3 H3 ρ3 h3 ∧ Step h H h3 H3 ∧ whileN tc d m ρ3 h3 D' B.E, fun σ3 H3 z => ⟨m, Nat.lt_succ_self m, z⟩, ρ1, h2, _, S2, q2, ?_⟩
      have s12 := s1.trans s2
      exact ⟨fun ρ3 h3 σ3 H3 q3 s3 S3 => ⟨ρ3, h3, S3, s12.trans s3, q3⟩, fun v h3 x H3 q3 s3 => C.rt v h3 x H3 q3 (s12.trans s3), fun ρ3 h3 σ3 H3 q3 s3 S3 => C.nx _ _ _ _ q3 (s12.trans s3) S3, fun ρ3 h3 σ3 H3 q3 s3 S3 => ⟨ρ3, h3, S3, s12.trans s3, q3⟩⟩
end
inductive Tg where
  | nm (i : Nat) | tp (ts : List Tg)
mutual
@[simp] def bT : Tg → Val → Sl → Option Sl
  | .nm i, v, ρ => some (ρ.set i (some v))
  | .tp ts, .tup vs, ρ => bTs ts vs ρ
  | .tp _, _, _ => none
@[simp] def bTs : List Tg → List Val → Sl → Option Sl
  | [], [], ρ => some ρ
  | t :: ts, v :: vs, ρ => match bT t v ρ with
    | some ρ' => bTs ts vs ρ'
    | none => none
  | _, _, _ => none
end
mutual
def gT (K : PySem.W.Frag) : Tg → TG
  | .nm i => gName i
  | .tp ts => gTup K ts.length (gTs K ts)
def gTs (K : PySem.W.Frag) : List Tg → TGs
  | [] => gNil
  | t :: ts => gCons (gT K t) (gTs K ts)
end
mutual
def slots : Tg → List Nat
  | .nm i => [i]
  | .tp ts => slotsL ts
def slotsL : List Tg → List Nat
  | [] => []
  | t :: ts => slots t ++ slotsL ts
end
theorem wipe_set {σ : L2.St} {i : Nat} {x : Option V} : ∀ {vs : List Nat}, i ∈ vs → wipe (σ.set i x) vs = wipe σ vs
  | v :: vs, h => by
    unfold wipe
    by_cases e : i ∈ vs
    · rw [wipe_set e]
    · have : i = v := by
        rcases List.mem_cons.mp h with z | z
        · exact z
        · exact absurd z e
      subst this
      have aux : ∀ (ws : List Nat) (τ : L2.St), i ∉ ws → wipe (τ.set i x) ws = (wipe τ ws).set i x := by
        intro ws
        induction ws with
        | nil => intro τ _; rfl
        | cons w ws ih =>
          intro τ hw
          unfold wipe
          rw [ih τ (fun z => hw (List.mem_cons_of_mem _ z)), List.set_comm _ _ (fun z => hw (by rw [z]; exact List.mem_cons_self))]
      rw [aux vs σ e, List.set_set]
section
variable {K : PySem.W.Frag} {H : Hp} {h : Hv}
mutual
theorem gT_rel : ∀ {t : Tg} {v : Val} {x : V} {ρ ρ' : Sl} {σ : L2.St}, RV K H h v x → RS K H h ρ σ → bT t v ρ = some ρ' → ∀ Q : L2.St → Hp → Prop, (∀ σ', RS K H h ρ' σ' → (∀ ws, (∀ i ∈ slots t, i ∈ ws) → wipe σ' ws = wipe σ ws) → Q σ' H) → gT K t x σ H Q
  | .nm i, v, x, ρ, ρ', σ, rv, rs, e, Q, k => by
    rw [bT] at e; cases e
    rw [gT]
    exact k _ (rs.set i rv) fun ws hw => wipe_set (hw i (by rw [slots]; exact List.mem_singleton_self _))
  | .tp ts, v, x, ρ, ρ', σ, rv, rs, e, Q, k => by
    cases v with
    | tup vs =>
      rw [bT] at e
      rw [RV] at rv
      obtain ⟨a, xs, e1, n, ha, rss⟩ := rv
      rw [gT]
      refine ⟨a, xs, e1, .of ha, ?_, gTs_rel rss rs e Q fun σ' r' hw => k σ' r' fun ws h1 => hw ws fun i hi => h1 i (by rw [slots]; exact hi)⟩
      rw [← rss.len]
      exact bTs_len e
    | _ => rw [bT] at e; cases e; (try (intros; contradiction))
theorem gTs_rel : ∀ {ts : List Tg} {vs : List Val} {xs : List V} {ρ ρ' : Sl} {σ : L2.St}, RVs K H h vs xs → RS K H h ρ σ → bTs ts vs ρ = some ρ' → ∀ Q : L2.St → Hp → Prop, (∀ σ', RS K H h ρ' σ' → (∀ ws, (∀ i ∈ slotsL ts, i ∈ ws) → wipe σ' ws = wipe σ ws) → Q σ' H) → gTs K ts xs σ H Q
  | [], [], xs, ρ, ρ', σ, rv, rs, e, Q, k => by
    rw [bTs] at e; cases e
    rw [RVs] at rv
    rw [gTs]
    exact ⟨rv, k _ rs fun _ _ => rfl⟩
  | [], _ :: _, xs, ρ, ρ', σ, rv, rs, e, Q, k => by simp at e
  | _ :: _, [], xs, ρ, ρ', σ, rv, rs, e, Q, k => by simp at e
  | t :: ts, v :: vs, xs, ρ, ρ', σ, rv, rs, e, Q, k => by
    rw [bTs] at e
    rw [RVs] at rv
    obtain ⟨y, ys, e1, r1, r2⟩ := rv
    split at e
    · rename_i ρ1 e2
      rw [gTs]
      refine ⟨y, ys, e1, gT_rel r1 rs e2 _ fun σ1 rs1 w1 => gTs_rel r2 rs1 e Q fun σ2 rs2 w2 => k σ2 rs2 fun ws hw => ?_⟩
      rw [w2 ws (fun i hi => hw i (by rw [slotsL]; exact List.mem_append_right _ hi)), w1 ws (fun i hi => hw i (by rw [slotsL]; exact List.mem_append_left _ hi))]
    · cases e
theorem bTs_len : ∀ {ts : List Tg} {vs : List Val} {ρ ρ' : Sl}, bTs ts vs ρ = some ρ' → vs.length = ts.length
  | [], [], _, _, _ => rfl
  | [], _ :: _, _, _, e => by simp at e
  | _ :: _, [], _, _, e => by simp at e
  | t :: ts, v :: vs, ρ, ρ', e => by
    rw [bTs] at e
    split at e
    · rename_i ρ1 e2
      rw [List.length_cons, List.length_cons, bTs_len e]
    · cases e
end
end
section
variable {X : Cx} {B : Bs} {e tg : Expr} {de : ED} {pos : Pos} {t : Tg}
@[simp] def sAsg (t : Tg) (de : ED) : SD := fun ρ h D E => de ρ h (fun v h1 => match bT t v ρ with
  | some ρ' => D.nx ρ' h1
  | none => False) E
theorem ds_asg (he : DE X B e de) (hg : PG X tg (gT X.K t)) (hs : swapsWithSole [tg] e pos.line X.env = pure false := by rfl) (hw : swappedStores [tg] e X.env = pure none := by rfl)
    (h1 : (assignEach [tg] X.env).map (·.2) = [assign tg X.env] := by rfl) : DS X B (.Assign [tg] e pos) (sAsg t de) :=
  PSi (ps_asg he hg hs hw h1) fun D σ H ⟨ρ, h, D', S, q, C⟩ => ⟨ρ, h, _, S, q, fun v h1 x H1 q1 s1 rv1 r1 => by
    have S1 := S.step s1 r1
    split at q1
    · rename_i ρ' e1
      exact gT_rel rv1 S1.s e1 _ fun σ' rs' _ => C.nx _ _ _ _ q1 s1 ⟨rs', r1, S1.b⟩
    · exact q1.elim⟩
@[simp] def sPar (is : List Nat) (aa : AD) : SD := fun ρ h D E => aa ρ h (fun vs h1 => match bTs (is.map Tg.nm) vs ρ with
  | some ρ' => D.nx ρ' h1
  | none => False) E
theorem ds_par2 {i j : Nat} {x y : Str} {a b : Expr} {aa : AD} {px py pt : Pos} {kt k2 pt2} (hc : X.calm = true) (hN : X.N.Nodup) (hi : X.N[i]? = some x) (hj : X.N[j]? = some y) (hij : i ≠ j)
    (hx : X.env.scope.names.lookup x = some .local) (hy : X.env.scope.names.lookup y = some .local) (ha : DA X B [a, b] aa)
    (hw : swappedStores [.Tuple [.Name x px, .Name y py] kt pt] (.Tuple [a, b] k2 pt2) X.env = pure (some [x, y]) := by rfl)
    (hs : swapsWithSole [.Tuple [.Name x px, .Name y py] kt pt] (.Tuple [a, b] k2 pt2) pos.line X.env = pure false := by rfl) :
    DS X B (.Assign [.Tuple [.Name x px, .Name y py] kt pt] (.Tuple [a, b] k2 pt2) pos) (sPar [i, j] aa) :=
  PSi (ps_par hc hN hi hj hij hx hy ha hw hs) fun D σ H ⟨ρ, h, D', S, q, C⟩ => ⟨ρ, h, _, S, q, fun vs h1 xs H1 q1 s1 rv1 r1 => by
    have S1 := S.step s1 r1
    match vs, q1 with
    | [v, w], q1 =>
      obtain ⟨x, y, e, rx, ry⟩ := rvs2 rv1
      exact ⟨x, y, e, C.nx _ _ _ _ q1 s1 ((S1.set i rx).set j ry)⟩
    | [], q1 => exact q1.elim
    | [_], q1 => exact q1.elim
    | _ :: _ :: _ :: _, q1 => exact q1.elim⟩
theorem ds_par3 {i j l : Nat} {x y z : Str} {a b c : Expr} {aa : AD} {px py pz pt : Pos} {kt k2 pt2} (hc : X.calm = true) (hN : X.N.Nodup) (hi : X.N[i]? = some x) (hj : X.N[j]? = some y) (hl : X.N[l]? = some z) (hij : i ≠ j) (hil : i ≠ l) (hjl : j ≠ l)
    (hx : X.env.scope.names.lookup x = some .local) (hy : X.env.scope.names.lookup y = some .local) (hz : X.env.scope.names.lookup z = some .local) (ha : DA X B [a, b, c] aa)
    (hw : swappedStores [.Tuple [.Name x px, .Name y py, .Name z pz] kt pt] (.Tuple [a, b, c] k2 pt2) X.env = pure (some [x, y, z]) := by rfl)
    (hs : swapsWithSole [.Tuple [.Name x px, .Name y py, .Name z pz] kt pt] (.Tuple [a, b, c] k2 pt2) pos.line X.env = pure false := by rfl) :
    DS X B (.Assign [.Tuple [.Name x px, .Name y py, .Name z pz] kt pt] (.Tuple [a, b, c] k2 pt2) pos) (sPar [i, j, l] aa) :=
  PSi (ps_par3 hc hN hi hj hl hij hil hjl hx hy hz ha hw hs) fun D σ H ⟨ρ, h, D', S, q, C⟩ => ⟨ρ, h, _, S, q, fun vs h1 xs H1 q1 s1 rv1 r1 => by
    have S1 := S.step s1 r1
    match vs, q1 with
    | [v, w, u], q1 =>
      rw [RVs] at rv1
      obtain ⟨x, xr, e1, rx, rr⟩ := rv1
      obtain ⟨y, z, e, ry, rz⟩ := rvs2 rr
      subst e
      exact ⟨x, y, z, e1, C.nx _ _ _ _ q1 s1 (((S1.set i rx).set j ry).set l rz)⟩
    | [], q1 => exact q1.elim
    | [_], q1 => exact q1.elim
    | [_, _], q1 => exact q1.elim
    | _ :: _ :: _ :: _ :: _, q1 => exact q1.elim⟩
end
end DL
namespace DL
open PySem PySem.Spec PyProof.Rows L2
structure Itr where
  items : List Val
  ok : Hv → Prop
abbrev ID := Sl → Hv → (Itr → Hv → Prop) → PX → Prop
def ItRel (K : PySem.W.Frag) (it : Itr) (J : It) (h : Hv) (H : Hp) : Prop := ∀ h2 H2, StepN h H h2 H2 → RH K H2 h2 → it.ok h2 →
  (∀ (i : Nat) v, it.items[i]? = some v → J.go i H2 ∧ ∀ x H3, J.yld i H2 x H3 → Step h2 H2 h2 H3 ∧ RH K H3 h2 ∧ RV K H3 h2 v x) ∧ J.stop it.items.length H2
def rdI (K : PySem.W.Frag) (B : Bs) (di : ID) : TI := fun σ H R => ∃ ρ h Q', ST K B σ H ρ h ∧ di ρ h Q' B.E ∧ ∀ it h' H' J, Q' it h' → Step h H h' H' → RH K H' h' → ItRel K it J h' H' → R J H'
abbrev DI (X : Cx) (B : Bs) (tg iter : Expr) (di : ID) : Prop := PI X tg iter (rdI X.K B di)
theorem PIi {X : Cx} {tg e : Expr} {t t' : TI} (p : PI X tg e t) (i : ∀ σ H Q, t' σ H Q → t σ H Q) : PI X tg e t' := ⟨fun pins s σ H Q I q => p.run pins s σ H Q I (i σ H Q q)⟩

def iAny (K : PySem.W.Frag) (tl : TE) : TI := fun σ H R => tl σ H fun x H1 => (∃ a, x = .ref a ∧ (∃ xs, SqL K H1 a xs) ∧ R (Itl K a) H1) ∨ (∃ a, x = .ref a ∧ (∃ xs, SqT K H1 a xs) ∧ R (Itt K a) H1) ∨ ∃ z, x = .str z ∧ R (Its z) H1
theorem pi_any {X : Cx} {tg l : Expr} {tl : TE} (hl : PE X l tl) : PI X tg l (iAny X.K tl) := by
  refine ⟨fun pins s σ H R I h => ?_⟩
  refine thn (hl.run pins s σ H _ I h) fun v s1 ⟨x, H1, I1, r1, q1⟩ => ?_
  rcases q1 with ⟨a, e, ⟨xs, hq⟩, q⟩ | ⟨a, e, ⟨xs, hq⟩, q⟩ | ⟨z, e, q⟩
  · subst e
    cases r1
    obtain ⟨its, rv, p, hz⟩ := I1.list hq
    refine wpAny_pyIter_list p.isList ?_
    refine ⟨s1.heap.objs.size, [s1.heap.objs.size], _, _, H1, rfl, I1.kept (t' := s1.toks) fun b o e => Heap.get?_push_of_some _ e, turn_list a _, ⟨_, Heap.get?_push_size _ rfl, rfl, rfl⟩, fun b hb => ?_, q⟩
    have e : b = s1.heap.objs.size := by simpa using hb
    subst e
    exact I1.fpOk (Nat.le_refl _) (I1.hok.fresh (Nat.le_refl _))
  · subst e
    cases r1
    obtain ⟨its, rv, p, hz⟩ := I1.tuple hq
    refine wpAny_pyIter_tuple (show s1.heap.IsTuple a its.toArray from p) ?_
    refine ⟨s1.heap.objs.size, [s1.heap.objs.size], _, _, H1, rfl, I1.kept (t' := s1.toks) fun b o e => Heap.get?_push_of_some _ e, turn_tuple a _, ⟨_, Heap.get?_push_size _ rfl, rfl, rfl⟩, fun b hb => ?_, q⟩
    have e : b = s1.heap.objs.size := by simpa using hb
    subst e
    exact I1.fpOk (Nat.le_refl _) (I1.hok.fresh (Nat.le_refl _))
  · subst e
    obtain ⟨t, rfl⟩ := r1
    cases ha : z.cps.all (· < 128)
    · exact wpAny_pyIter_wide ha (pi_one (tk := s1.toks) I1 _ (turn_str _ z t "str_iterator" (.inr rfl)) ⟨_, Heap.get?_push_size _ rfl, rfl, rfl⟩ q)
    · exact wpAny_pyIter_ascii ha (pi_one (tk := s1.toks) I1 _ (turn_str _ z t "str_ascii_iterator" (.inl rfl)) ⟨_, Heap.get?_push_size _ rfl, rfl, rfl⟩ q)

section
variable {K : PySem.W.Frag}
theorem itl_rel {h : Hv} {H : Hp} {a : Addr} {vs : List Val} {ok : Hv → Prop} (e : ∀ h2 H2, StepN h H h2 H2 → RH K H2 h2 → ok h2 → ∃ xs, SqL K H2 a xs ∧ RVs K H2 h2 vs xs) : ItRel K ⟨vs, ok⟩ (Itl K a) h H := fun h2 H2 s2 r2 o2 => by
  obtain ⟨xs, hq, rs⟩ := e h2 H2 s2 r2 o2
  refine ⟨fun i v hv => ?_, xs, hq, by rw [rs.len]; exact Nat.le_refl _⟩
  obtain ⟨x, ex, rx⟩ := rs.get hv
  refine ⟨⟨xs, x, hq, ex⟩, fun y H3 hy => ?_⟩
  obtain ⟨e3, hy⟩ := hy
  subst e3
  have := hy xs hq
  rw [ex] at this
  cases this
  exact ⟨Step.refl _ _, r2, rx⟩
theorem itt_rel {h : Hv} {H : Hp} {a : Addr} {vs : List Val} {ok : Hv → Prop} (e : ∀ h2 H2, StepN h H h2 H2 → RH K H2 h2 → ok h2 → ∃ xs, SqT K H2 a xs ∧ RVs K H2 h2 vs xs) : ItRel K ⟨vs, ok⟩ (Itt K a) h H := fun h2 H2 s2 r2 o2 => by
  obtain ⟨xs, hq, rs⟩ := e h2 H2 s2 r2 o2
  refine ⟨fun i v hv => ?_, xs, hq, by rw [rs.len]; exact Nat.le_refl _⟩
  obtain ⟨x, ex, rx⟩ := rs.get hv
  refine ⟨⟨xs, x, hq, ex⟩, fun y H3 hy => ?_⟩
  obtain ⟨e3, hy⟩ := hy
  subst e3
  have := hy xs hq
  rw [ex] at this
  cases this
  exact ⟨Step.refl _ _, r2, rx⟩
theorem its_rel {h : Hv} {H : Hp} {z : Str} {ok : Hv → Prop} : ItRel K ⟨z.cps.toList.map fun c => Val.str ⟨#[c]⟩, ok⟩ (Its z) h H := fun h2 H2 s2 r2 o2 => by
  refine ⟨fun i v hv => ?_, by show z.cps.size ≤ _; simp⟩
  simp only [List.getElem?_map, Option.map_eq_some_iff] at hv
  obtain ⟨c, hc, e⟩ := hv
  have hc' : z.cps[i]? = some c := by simpa using hc
  refine ⟨(Array.getElem?_eq_some_iff.mp hc').1, fun y H3 hy => ?_⟩
  obtain ⟨e3, c', hc2, ey⟩ := hy
  rw [hc'] at hc2
  cases hc2
  subst e3 e ey
  exact ⟨Step.refl _ _, r2, rv_str⟩
theorem itr_rel {h : Hv} {H : Hp} {lo : Int} {n : Nat} {ok : Hv → Prop} : ItRel K ⟨(List.range n).map fun i => Val.int (lo + (i : Nat)), ok⟩ (L2.Itr lo n) h H := fun h2 H2 s2 r2 o2 => by
  refine ⟨fun i v hv => ?_, by show n ≤ _; simp⟩
  simp only [List.getElem?_map, Option.map_eq_some_iff] at hv
  obtain ⟨c, hc, e⟩ := hv
  have hi : i < n := by
    have := (List.getElem?_eq_some_iff.mp hc).1
    simpa using this
  have : c = i := by
    have := (List.getElem?_eq_some_iff.mp hc).2
    simpa using this.symm
  subst this
  refine ⟨hi, fun y H3 hy => ?_⟩
  obtain ⟨e3, ey⟩ := hy
  subst e3 e ey
  exact ⟨Step.refl _ _, r2, rv_int⟩
end
section
variable {X : Cx} {B : Bs} {e e2 tg : Expr} {de : ED} {pos p : Pos} {aa : AD}
@[simp] def iterOf (v : Val) (h : Hv) : Option Itr := match v with
  | .tup vs => some ⟨vs, fun _ => True⟩
  | .tpo vs => some ⟨vs, fun _ => True⟩
  | .lst vs => some ⟨vs, fun _ => True⟩
  | .str z => some ⟨z.cps.toList.map fun c => Val.str ⟨#[c]⟩, fun _ => True⟩
  | .ref a => match h a with
    | some (.lst vs) => some ⟨vs, fun h' => h' a = some (.lst vs)⟩
    | _ => none
  | _ => none
@[simp] def dIt (de : ED) : ID := fun ρ h Q E => de ρ h (fun v h1 => match iterOf v h1 with
  | some it => Q it h1
  | none => False) E
theorem di_any (he : DE X B e de) : DI X B tg e (dIt de) :=
  PIi (pi_any he) fun σ H R ⟨ρ, h, Q', S, q, C⟩ => ⟨ρ, h, _, S, q, fun v h1 x H1 q1 s1 rv1 r1 => by
    split at q1
    · rename_i it ei
      have fin : ∀ J, ItRel X.K it J h1 H1 → R J H1 := fun J hJ => C it h1 H1 J q1 s1 r1 hJ
      cases v with
      | tup vs =>
        rw [RV] at rv1
        obtain ⟨a, xs, e1, n, ha, rs⟩ := rv1
        cases ei
        exact .inr (.inl ⟨a, e1, ⟨xs, .of ha⟩, fin _ (itt_rel fun h2 H2 s2 r2 _ => ⟨xs, .of (s2 a _ ha n nt_tup).1, rs.stepN s2⟩)⟩)
      | tpo vs =>
        rw [RV] at rv1
        obtain ⟨a, xs, o, e1, n, ha, hd, rs⟩ := rv1
        cases ei
        exact .inr (.inl ⟨a, e1, ⟨xs, .inl (.inr ⟨o, ha⟩)⟩, fin _ (itt_rel fun h2 H2 s2 r2 _ => ⟨xs, .inl (.inr ⟨o, (s2 a _ ha n nt_frz).1⟩), rs.stepN s2⟩)⟩)
      | lst vs =>
        rw [RV] at rv1
        obtain ⟨a, xs, e1, n, ha, rs⟩ := rv1
        cases ei
        exact .inl ⟨a, e1, ⟨xs, .of ha⟩, fin _ (itl_rel fun h2 H2 s2 r2 _ => ⟨xs, .of (s2 a _ ha n nt_lst).1, rs.stepN s2⟩)⟩
      | str z =>
        rw [RV] at rv1
        cases ei
        exact .inr (.inr ⟨z, rv1, fin _ its_rel⟩)
      | ref a =>
        rw [RV] at rv1
        unfold iterOf at ei
        dsimp only at ei
        split at ei
        · rename_i vs hv
          cases ei
          obtain ⟨xs, e1, rs⟩ := r1 a _ hv
          exact .inl ⟨a, rv1, ⟨xs, .of e1⟩, fin _ (itl_rel fun h2 H2 s2 r2 o2 => by
            obtain ⟨xs2, e2, rs2⟩ := r2 a _ o2
            exact ⟨xs2, .of e2, rs2⟩)⟩
        · cases ei
      | _ => cases ei
    · exact q1.elim⟩
@[simp] def dRange1 (aa : AD) : ID := fun ρ h Q E => aa ρ h (fun vs h1 => match vs with
  | [.int j] => -(2 ^ 62) ≤ j ∧ j < 2 ^ 62 ∧ Q ⟨(List.range j.toNat).map fun i => Val.int (0 + (i : Nat)), fun _ => True⟩ h1
  | _ => False) E
@[simp] def dRange2 (aa : AD) : ID := fun ρ h Q E => aa ρ h (fun vs h1 => match vs with
  | [.int i, .int j] => (-(2 ^ 62) ≤ i ∧ i < 2 ^ 62 ∧ -(2 ^ 62) ≤ j ∧ j < 2 ^ 62) ∧ Q ⟨(List.range (j - i).toNat).map fun k => Val.int (i + (k : Nat)), fun _ => True⟩ h1
  | _ => False) E
theorem di_range1 (hg : Gl X "range") (hm : X.mg "range" = none) (ha : DA X B [e] aa) (hs : starEach [e] X.env = [(false, eval e X.env)] := by rfl) : DI X B tg (.Call (.Name "range" p) [e] [] pos) (dRange1 aa) :=
  PIi (pi_range1 hg hm ha hs) fun σ H R ⟨ρ, h, Q', S, q, C⟩ => ⟨ρ, h, _, S, q, fun vs h1 xs H1 q1 s1 rv1 r1 => by
    split at q1
    · rename_i j
      obtain ⟨x, e1, rx⟩ := rvs1 rv1
      rw [RV] at rx
      subst rx
      exact ⟨j, e1, q1.1, q1.2.1, C _ h1 H1 _ q1.2.2 s1 r1 itr_rel⟩
    · exact q1.elim⟩
@[simp] def zipOf (v w : Val) (h : Hv) : Option Itr := match v, w with
  | .tup xs, .tup ys => some ⟨(xs.zip ys).map fun p => Val.tup [p.1, p.2], fun _ => True⟩
  | .lst xs, .lst ys => some ⟨(xs.zip ys).map fun p => Val.tup [p.1, p.2], fun _ => True⟩
  | _, _ => none
@[simp] def dZip (aa : AD) : ID := fun ρ h Q E => aa ρ h (fun vs h1 => match vs with
  | [v, w] => (match zipOf v w h1 with
    | some it => Q it h1
    | none => False)
  | _ => False) E
theorem pair_rel {K : PySem.W.Frag} {h2 : Hv} {H2 : Hp} {T : Addr} {v w : Val} {x y : V} (r2 : RH K H2 h2) (rx : RV K H2 h2 v x) (ry : RV K H2 h2 w y) (nT : H2 T = none) :
    Step h2 H2 h2 (upd H2 T (.tup [x, y])) ∧ RH K (upd H2 T (.tup [x, y])) h2 ∧ RV K (upd H2 T (.tup [x, y])) h2 (.tup [v, w]) (.ref T) := by
  refine ⟨Step.fresh nT, r2.fresh nT, ?_⟩
  rw [RV]
  exact ⟨T, _, rfl, r2.nof nT, upd_same, RVs.cons (rx.step (Step.fresh nT)) (RVs.cons (ry.step (Step.fresh nT)) RVs.nil)⟩
def forL (ok : Hv → Prop) (t : Tg) (d : SD) : List Val → Sl → Hv → AE → PX → Prop
  | [], ρ, h, D, _ => ok h ∧ D.nx ρ h
  | v :: vs, ρ, h, D, E => ok h ∧ match bT t v ρ with
    | some ρ' => d ρ' h { D with nx := fun ρ h => forL ok t d vs ρ h D E, ct := fun ρ h => forL ok t d vs ρ h D E, bk := D.nx } E
    | none => False
@[simp] def sFor (di : ID) (t : Tg) (d : SD) : SD := fun ρ h D E => di ρ h (fun it h1 => forL it.ok t d it.items ρ h1 D E) E
theorem ds_for {iter : Expr} {body : List Stmt} {di : ID} {t : Tg} {d : SD} (hp : PassesOwn (model X.prog X.w) X.A X.env X.xe) (hc : X.calm = true) (hi : DI X B tg iter di) (hg : PG X tg (gT X.K t)) (hb : DSs X B body d)
    (hs : ∀ x, foldedSetIterable iter X.env x = pure x := by intro _; rfl) : DS X B (.For tg iter body [] pos) (sFor di t d) := by
  refine PSi (ps_for hp hc hi hg hb hs) fun D σ H ⟨ρ, h, D', S, q, C⟩ => ?_
  refine ⟨ρ, h, _, S, q, fun it h1 H1 J q1 s1 r1 hJ => ?_⟩
  have S1 := S.step s1 r1
  refine ⟨fun i m σ2 H2 => ∃ ρ2 h2, i + m = it.items.length ∧ ST X.K B σ2 H2 ρ2 h2 ∧ Step h1 H1 h2 H2 ∧ forL it.ok t d (it.items.drop i) ρ2 h2 D' B.E, ⟨it.items.length, ρ, h1, by omega, S1, Step.refl _ _, q1⟩, ?_⟩
  rintro i m σ2 H2 ⟨ρ2, h2, em, S2, s2, q2⟩
  cases hd : it.items.drop i with
  | nil =>
    rw [hd] at q2
    have hi : it.items.length ≤ i := List.drop_eq_nil_iff.mp hd
    have ei : i = it.items.length := by omega
    subst ei
    exact .inl ⟨(hJ h2 H2 s2.n S2.r q2.1).2, C.nx _ _ _ _ q2.2 (s1.trans s2) S2⟩
  | cons v vs =>
    rw [hd] at q2
    have hi : i < it.items.length := by
      apply Nat.lt_of_not_le
      intro hh
      rw [List.drop_eq_nil_iff.mpr hh] at hd
      cases hd
    have hv : it.items[i]? = some v := by
      have := congrArg (·[0]?) hd
      simpa using this
    have hdr : it.items.drop (i + 1) = vs := by
      rw [← List.drop_drop, hd] <;> rfl
    obtain ⟨ok2, q2⟩ := q2
    obtain ⟨go, yl⟩ := (hJ h2 H2 s2.n S2.r ok2).1 i v hv
    refine .inr ⟨go, fun σ3 H3 => ∃ ρ3 h3, ST X.K B σ3 H3 ρ3 h3 ∧ Step h1 H1 h3 H3 ∧ forL it.ok t d vs ρ3 h3 D' B.E, fun σ3 H3 ⟨ρ3, h3, S3, s3, q3⟩ => ⟨m - 1, by omega, ρ3, h3, by omega, S3, s3, by rw [hdr]; exact q3⟩, fun x H3 hy => ?_⟩
    obtain ⟨s3, r3, rv3⟩ := yl x H3 hy
    have S3 := S2.step s3 r3
    split at q2
    · rename_i ρ' eρ
      refine gT_rel rv3 S3.s eρ _ fun σ' rs' _ => ?_
      have s13 := s2.trans s3
      exact ⟨ρ', h2, _, ⟨rs', r3, S3.b⟩, q2, ⟨fun ρ4 h4 σ4 H4 q4 s4 S4 => ⟨ρ4, h4, S4, s13.trans s4, q4⟩, fun v h4 x H4 q4 s4 => C.rt v h4 x H4 q4 (s1.trans (s13.trans s4)), fun ρ4 h4 σ4 H4 q4 s4 S4 => C.nx _ _ _ _ q4 (s1.trans (s13.trans s4)) S4, fun ρ4 h4 σ4 H4 q4 s4 S4 => ⟨ρ4, h4, S4, s13.trans s4, q4⟩⟩⟩
    · exact q2.elim
end
end DL
namespace DL
open PySem PySem.Spec PyProof.Rows L2
abbrev EF : PX := fun _ _ _ _ => False
abbrev Bs.blk (B : Bs) : Bs := ⟨EF, B.h0, B.H0⟩
theorem ST.blk {K : PySem.W.Frag} {B : Bs} {σ : L2.St} {H : Hp} {ρ : Sl} {h : Hv} (x : ST K B σ H ρ h) : ST K B.blk σ H ρ h := ⟨x.s, x.r, x.b⟩
@[simp] def wipeA (ρ : Sl) : List Nat → Sl
  | [] => ρ
  | v :: vs => (wipeA ρ vs).set v none
theorem RS.setN {K : PySem.W.Frag} {H : Hp} {h : Hv} {ρ : Sl} {σ : L2.St} (r : RS K H h ρ σ) (i : Nat) : RS K H h (ρ.set i none) (σ.set i none) := by
  refine ⟨by rw [List.length_set, List.length_set]; exact r.1, fun j w e => ?_⟩
  by_cases hj : i = j
  · subst hj
    by_cases hi : i < ρ.length
    · rw [List.getElem?_set_self hi] at e
      cases e
    · rw [List.getElem?_eq_none (by simpa using hi)] at e
      cases e
  · rw [List.getElem?_set_ne hj] at e ⊢
    exact r.2 j w e
theorem RS.wipe {K : PySem.W.Frag} {H : Hp} {h : Hv} {ρ : Sl} {σ : L2.St} (r : RS K H h ρ σ) : ∀ vs : List Nat, RS K H h (wipeA ρ vs) (L2.wipe σ vs)
  | [] => r
  | v :: vs => (RS.wipe r vs).setN v
theorem wipe_sub {σ : L2.St} {vs : List Nat} : ∀ us : List Nat, (∀ i ∈ us, i ∈ vs) → L2.wipe (L2.wipe σ us) vs = L2.wipe σ vs
  | [], _ => rfl
  | u :: us, h => by
    rw [show L2.wipe σ (u :: us) = (L2.wipe σ us).set u none from rfl, wipe_set (h u List.mem_cons_self)]
    exact wipe_sub us fun i hi => h i (List.mem_cons_of_mem _ hi)
theorem wipe_wipe (σ : L2.St) (vs : List Nat) : L2.wipe (L2.wipe σ vs) vs = L2.wipe σ vs := wipe_sub vs fun _ h => h
def lcL (ok : Hv → Prop) (t : Tg) (tt : TD) (te : ED) (ρw : Sl) : List Val → List Val → Hv → (List Val → Hv → Prop) → Prop
  | [], acc, h, Q => ok h ∧ Q acc h
  | v :: vs, acc, h, Q => ok h ∧ match bT t v ρw with
    | some ρ' => tt ρ' h (fun b h1 => if b = true then te ρ' h1 (fun y h2 => acc.length < sizeLine ∧ lcL ok t tt te ρw vs (acc ++ [y]) h2 Q) EF else lcL ok t tt te ρw vs acc h1 Q) EF
    | none => False
@[simp] def tTrue : TD := fun _ h Q _ => Q true h
def dLc (di : ID) (t : Tg) (tt : TD) (te : ED) (vs : List Nat) : ED := fun ρ h Q E => di ρ h (fun it h1 => ∀ D, h1 D = none → lcL it.ok t tt te (wipeA ρ vs) it.items [] (put h1 D .busy) (fun acc h2 => Q (.lst acc) (drop h2 D))) E
def dLcH (di : ID) (t : Tg) (tt : TD) (te : ED) (vs : List Nat) : ED := fun ρ h Q E => di ρ h (fun it h1 => ∀ D, h1 D = none → lcL it.ok t tt te (wipeA ρ vs) it.items [] (put h1 D .busy) (fun acc h2 => Q (.ref D) (put h2 D (.lst acc)))) E
theorem rd_lc {K : PySem.W.Frag} {B : Bs} {di : ID} {t : Tg} {tt : TD} {te : ED} {vs : List Nat} {d : ED} {heap : Bool} (hd : d = if heap = true then dLcH di t tt te vs else dLc di t tt te vs) (hsl : ∀ i ∈ slots t, i ∈ vs) :
    ∀ σ H Q, rdE K B d σ H Q → tLc (rdI K B di) (gT K t) (rdT K B.blk tt) (rdE K B.blk te) vs σ H Q := by
  rintro σ H Q ⟨ρ, h, Q', S, q, C⟩
  have q : di ρ h (fun it h1 => ∀ D, h1 D = none → lcL it.ok t tt te (wipeA ρ vs) it.items [] (put h1 D .busy) (fun acc h2 => if heap = true then Q' (.ref D) (put h2 D (.lst acc)) else Q' (.lst acc) (drop h2 D))) B.E := by
    rw [hd] at q
    cases heap <;> exact q
  refine ⟨ρ, h, _, S, q, fun it h1 H1 J q1 s1 r1 hJ D nD => ?_⟩
  have S1 := S.step s1 r1
  have nd : h1 D = none := r1.nof nD
  have sN : Step h1 H1 (put h1 D .busy) (upd H1 D (.lst [])) := Step.new nD
  have rN : RH K (upd H1 D (.lst [])) (put h1 D .busy) := r1.new nD ⟨_, upd_same, .inl ⟨_, rfl⟩⟩
  refine ⟨fun i m H2 => ∃ acc xs h2, i + m = it.items.length ∧ RH K H2 h2 ∧ Step h1 H1 h2 H2 ∧ h2 D = some .busy ∧ H2 D = some (.lst xs) ∧ RVs K H2 h2 acc xs ∧ lcL it.ok t tt te (wipeA ρ vs) (it.items.drop i) acc h2 (fun acc h2 => if heap = true then Q' (.ref D) (put h2 D (.lst acc)) else Q' (.lst acc) (drop h2 D)),
    ⟨it.items.length, [], [], put h1 D .busy, by omega, rN, sN, put_same, upd_same, RVs.nil, q1 D nd⟩, ?_⟩
  rintro i m H2 ⟨acc, xs, h2, em, r2, s2, hb2, hD2, ra2, q2⟩
  cases hdr : it.items.drop i with
  | nil =>
    rw [hdr] at q2
    have hi : it.items.length ≤ i := List.drop_eq_nil_iff.mp hdr
    have ei : i = it.items.length := by omega
    subst ei
    refine .inl ⟨(hJ h2 H2 s2.n r2 q2.1).2, ?_⟩
    have q3 := q2.2
    cases heap with
    | true =>
      rw [if_pos rfl] at q3
      have sw : StepN h2 H2 (put h2 D (.lst acc)) H2 := fun a o e n _ => by
        have : a ≠ D := fun z => by rw [z, hb2] at n; cases n
        exact ⟨e, by rw [put_ne this]; exact n⟩
      have sf : Step h1 H1 (put h2 D (.lst acc)) H2 := ⟨fun a o e n t => by
        obtain ⟨e2, n2⟩ := s2.n a o e n t
        exact sw a o e2 n2 t, fun a o e n => by
        have ne : a ≠ D := ne_of_none e nD
        rw [put_ne ne]
        exact s2.b a o e n⟩
      refine C _ _ _ _ q3 (s1.trans sf) (by rw [RV]) fun a o q => ?_
      by_cases ha : a = D
      · subst ha
        rw [put_same] at q
        cases q
        exact ⟨xs, hD2, ra2.stepN sw⟩
      · rw [put_ne ha] at q
        exact (r2 a o q).stepN sw fun _ z => z
    | false =>
      rw [if_neg Bool.false_ne_true] at q3
      have sf : Step h1 H1 (drop h2 D) H2 := ⟨fun a o e n t => by
        obtain ⟨e2, n2⟩ := s2.n a o e n t
        exact less_drop.stepN a o e2 n2 t, fun a o e n => by
        have ne : a ≠ D := ne_of_none e nD
        rw [drop_ne ne]
        exact s2.b a o e n⟩
      refine C _ _ _ _ q3 (s1.trans sf) ?_ (r2.less less_drop)
      rw [RV]
      exact ⟨D, xs, rfl, drop_same, hD2, ra2.stepN less_drop.stepN⟩
  | cons v ws =>
    rw [hdr] at q2
    have hi : i < it.items.length := by
      apply Nat.lt_of_not_le
      intro hh
      rw [List.drop_eq_nil_iff.mpr hh] at hdr
      cases hdr
    have hv : it.items[i]? = some v := by
      have := congrArg (·[0]?) hdr
      simpa using this
    have hdr' : it.items.drop (i + 1) = ws := by
      rw [← List.drop_drop, hdr] <;> rfl
    obtain ⟨ok2, q2⟩ := q2
    obtain ⟨go, yl⟩ := (hJ h2 H2 s2.n r2 ok2).1 i v hv
    refine .inr ⟨go, fun H3 => ∃ acc xs h3, RH K H3 h3 ∧ Step h1 H1 h3 H3 ∧ h3 D = some .busy ∧ H3 D = some (.lst xs) ∧ RVs K H3 h3 acc xs ∧ lcL it.ok t tt te (wipeA ρ vs) ws acc h3 (fun acc h2 => if heap = true then Q' (.ref D) (put h2 D (.lst acc)) else Q' (.lst acc) (drop h2 D)),
      fun H3 ⟨acc, xs, h3, r3, s3, b3, d3, a3, q3⟩ => ⟨m - 1, by omega, acc, xs, h3, by omega, r3, s3, b3, d3, a3, by rw [hdr']; exact q3⟩, fun x H3 hy => ?_⟩
    obtain ⟨s3, r3, rv3⟩ := yl x H3 hy
    split at q2
    · rename_i ρ' eρ
      have sl3 : RS K H3 h2 (wipeA ρ vs) (L2.wipe σ vs) := ((S1.s.wipe vs).step s2).step s3
      refine gT_rel rv3 sl3 eρ _ fun σ' rs' hw => ⟨?_, ?_⟩
      · rw [hw vs hsl]
        exact wipe_wipe σ vs
      · refine ⟨ρ', h2, _, ⟨rs', r3, S1.b.trans (s2.trans s3)⟩, q2, fun k h4 H4 q4 s4 r4 => ?_⟩
        have s24 := s3.trans s4
        have b4 := s24.b D _ hD2 hb2
        cases k with
        | false =>
          rw [if_neg Bool.false_ne_true] at q4
          exact iteF ⟨acc, xs, h4, r4, s2.trans s24, b4.2, b4.1, ra2.step s24, q4⟩
        | true =>
          rw [if_pos rfl] at q4
          refine iteT ⟨ρ', h4, _, ⟨rs'.step s4, r4, (S1.b.trans (s2.trans s3)).trans s4⟩, q4, fun y h5 yx H5 q5 s5 rv5 r5 => ?_⟩
          have s25 := s24.trans s5
          have b5 := s25.b D _ hD2 hb2
          refine ⟨xs, b5.1, ?_, acc ++ [y], xs ++ [yx], h5, ?_, ?_, b5.2, upd_same, ?_, q5.2⟩
          · rw [← ra2.len]; exact q5.1
          · intro a o q
            have sD : StepN h5 H5 h5 (upd H5 D (.lst (xs ++ [yx]))) := fun a o e n _ => by
              have : a ≠ D := fun z => by rw [z, b5.2] at n; cases n
              rw [upd_ne this]
              exact ⟨e, n⟩
            by_cases ha : a = D
            · subst ha
              rw [b5.2] at q
              cases q
              exact ⟨_, upd_same, .inl ⟨_, rfl⟩⟩
            · exact (r5 a o q).stepN sD fun _ z => by rw [upd_ne ha]; exact z
          · have s15 := s2.trans s25
            exact ⟨fun a o e n t => by
              obtain ⟨e2, n2⟩ := s15.n a o e n t
              rw [upd_ne (ne_of_none e nD)]
              exact ⟨e2, n2⟩, fun a o e n => by
              obtain ⟨e2, n2⟩ := s15.b a o e n
              rw [upd_ne (ne_of_none e nD)]
              exact ⟨e2, n2⟩⟩
          · have sD : StepN h5 H5 h5 (upd H5 D (.lst (xs ++ [yx]))) := fun a o e n _ => by
              have : a ≠ D := fun z => by rw [z, b5.2] at n; cases n
              rw [upd_ne this]
              exact ⟨e, n⟩
            exact ((ra2.step s25).append (RVs.cons rv5 RVs.nil)).stepN sD
    · exact q2.elim

section
variable {X : Cx} {B : Bs} {elt tg iter c : Expr} {ifs : List Expr} {scope : Scope} {own : List (Str × Nat)} {pos spos : Pos} {di : ID} {t : Tg} {tt : TD} {te : ED}
theorem dts_nil {B : Bs} : PTs X [] (rdT X.K B tTrue) := ⟨fun pins s σ H Q I ⟨ρ, h, Q', S, q, C⟩ => pts_nil.run pins s σ H Q I (C _ _ _ q (Step.refl _ _) S.r)⟩
theorem dts_one {B : Bs} (h : DT X B c tt) : PTs X [c] (rdT X.K B tt) := pts_one h
theorem de_lc (hc : X.calm = true) (hN : X.N.Nodup) (hi : DI X B tg iter di) (ok : BlkOk X.N X.env.scope scope own) (hsl : ∀ i ∈ slots t, i ∈ own.map (·.2))
    (hg : ∀ (s : Shared) (H : Hp) (C : Addr) (cl : List (Str × Addr)) (fp : List Addr), PG (X.blk s H scope (compEnvC scope cl C X.env) fp) tg (gT X.K t)) (ht : ∀ (s : Shared) (H : Hp) (C : Addr) (cl : List (Str × Addr)) (fp : List Addr), PTs (X.blk s H scope (compEnvC scope cl C X.env) fp) ifs (rdT X.K B.blk tt))
    (he : ∀ (s : Shared) (H : Hp) (C : Addr) (cl : List (Str × Addr)) (fp : List Addr), DE (X.blk s H scope (compEnvC scope cl C X.env) fp) B.blk elt te) (hs : ∀ x, foldedSetIterable iter X.env x = pure x := by intro _; rfl) :
    DE X B (.ListComp elt [⟨tg, iter, ifs, 0⟩] scope pos) (dLc di t tt te (own.map (·.2))) := PEi (pe_lc hc hN hi ok hg ht he hs) (rd_lc (heap := false) rfl hsl)
theorem ds_setLc {i : Nat} {y : Str} {py : Pos} {d : ED} (heap : Bool) (hd : d = if heap = true then dLcH di t tt te (own.map (·.2)) else dLc di t tt te (own.map (·.2))) (hc : X.calm = true) (hN : X.N.Nodup) (hy : X.N[i]? = some y) (hyl : X.env.scope.names.lookup y = some .local)
    (hsw : swapsWith (.ListComp elt [⟨tg, iter, ifs, 0⟩] scope pos) (some (.Name y py)) spos.line X.env = pure true) (hi : DI X B tg iter di) (ok : BlkOk X.N X.env.scope scope own) (hsl : ∀ i ∈ slots t, i ∈ own.map (·.2))
    (hg : ∀ (s : Shared) (H : Hp) (C : Addr) (cl : List (Str × Addr)) (fp : List Addr), PG (X.blk s H scope (compEnvC scope cl C X.env) fp) tg (gT X.K t)) (ht : ∀ (s : Shared) (H : Hp) (C : Addr) (cl : List (Str × Addr)) (fp : List Addr), PTs (X.blk s H scope (compEnvC scope cl C X.env) fp) ifs (rdT X.K B.blk tt))
    (he : ∀ (s : Shared) (H : Hp) (C : Addr) (cl : List (Str × Addr)) (fp : List Addr), DE (X.blk s H scope (compEnvC scope cl C X.env) fp) B.blk elt te) (hs : ∀ x, foldedSetIterable iter X.env x = pure x := by intro _; rfl) :
    DS X B (.Assign [.Name y py] (.ListComp elt [⟨tg, iter, ifs, 0⟩] scope pos) spos) (sSet i d) :=
  PSi (ps_setLc hc hN hy hyl hsw hi ok hg ht he hs) fun D σ H z => by
    obtain ⟨ρ, h, Q', S, q, C⟩ := rd_set D σ H z
    exact rd_lc hd hsl σ H _ ⟨ρ, h, Q', S, q, C⟩
end
structure Lss (h h2 : Hv) : Prop where
  l : Less h h2
  b : ∀ a, h a = some .busy → h2 a = some .busy
theorem Lss.refl (h : Hv) : Lss h h := ⟨Less.refl h, fun _ e => e⟩
theorem Lss.trans {h h1 h2 : Hv} (x : Lss h h1) (y : Lss h1 h2) : Lss h h2 := ⟨fun a => by
  rcases y.l a with z | z
  · exact .inl z
  · rw [z]; exact x.l a, fun a e => y.b a (x.b a e)⟩
theorem Lss.put {h : Hv} {p : Addr} {o : Ob} (e : h p = none) (n : o ≠ .busy) : Lss (put h p o) h := ⟨fun a => by
  by_cases ha : a = p
  · subst ha; exact .inl e
  · exact .inr (put_ne ha).symm, fun a q => by
  by_cases ha : a = p
  · subst ha; rw [put_same] at q; cases q; exact absurd rfl n
  · rw [put_ne ha] at q; exact q⟩
theorem Lss.step {h h2 : Hv} {H : Hp} (x : Lss h h2) : Step h H h2 H := ⟨x.l.stepN, fun a o e n => ⟨e, x.b a n⟩⟩
def Conv (v : Val) (h : Hv) (v2 : Val) (h2 : Hv) : Prop := Lss h h2 ∧ ∀ (K : PySem.W.Frag) (H : Hp) (x : V), RH K H h → RV K H h v x → RV K H h2 v2 x
theorem conv_less {v : Val} {h h2 : Hv} (l : Lss h h2) : Conv v h v h2 := ⟨l, fun K H x _ rv => rv.stepN l.l.stepN⟩
theorem conv_frz {h h2 : Hv} {p : Addr} {vs : List Val} (l : Lss h h2) (e : h p = some (.lst vs)) (n : h2 p = none) : Conv (.ref p) h (.lst vs) h2 := ⟨l, fun K H x r rv => by
  rw [RV] at rv
  rw [RV]
  obtain ⟨xs, e1, rs⟩ := r p _ e
  exact ⟨p, xs, rv, n, e1, rs.stepN l.l.stepN⟩⟩
@[simp] def startA (N : List Str) (as : List Val) : Sl := as.map some ++ List.replicate (N.length - as.length) none
theorem RVs.getS {K : PySem.W.Frag} {H : Hp} {h : Hv} {as : List Val} {vs : List V} (r : RVs K H h as vs) (N : List Str) : RS K H h (startA N as) (L2.start N vs) := by
  unfold startA L2.start
  refine ⟨by simp [r.len], fun i v e => ?_⟩
  have hi : i < as.length := by
    apply Nat.lt_of_not_le
    intro hh
    rw [List.getElem?_append_right (by simpa using hh), List.getElem?_replicate] at e
    split at e <;> cases e
  rw [List.getElem?_append_left (by simpa using hi), List.getElem?_map] at e
  obtain ⟨w, e1, e2⟩ := Option.map_eq_some_iff.mp e
  cases e2
  obtain ⟨x, ex, rx⟩ := r.get e1
  refine ⟨x, ?_, rx⟩
  rw [List.getElem?_append_left (by rw [List.length_map, ← r.len]; exact hi), List.getElem?_map, ex]
  rfl
theorem fn_mk {P : Program} {w : World} {K : PySem.W.Frag} {mg : Str → Option Value} {base : Heap} {x qual : Str} {st : Stmt} {f : Addr} {fd : FuncData} {N ps : List Str} {k : Nat} {fs : SpF} {den : SD} (F : Fun K x qual st f fd) (S : FnScope N ps (defScope st))
    (hd : ∀ (cdv : Value) (A : Around) (outer : List Env) (s : Shared) (H : Hp) (E : XK) (B : Bs), Room k (A.deeper (envOfC qual (defScope st) s.heap.objs.size f cdv)) → TakesB (cxOf (L2.CX P w) P w K mg base N qual (defScope st) f cdv A outer s H E) B →
      DSs (cxOf (L2.CX P w) P w K mg base N qual (defScope st) f cdv A outer s H E) B (defBody st) den)
    (hs : ∀ as h Q E, as.length = ps.length → fs as h Q E → den (startA N as) h ⟨fun _ h' => ∃ h2, Lss h' h2 ∧ Q .non h2, fun v h' => ∃ v2 h2, Conv v h' v2 h2 ∧ Q v2 h2, fun _ _ => False, fun _ _ => False⟩ (fun nm pl _ h' => ∃ h2, Lss h' h2 ∧ E nm pl h2)) :
    FnOk P w K mg base (L2.CX P w) (k + 1) f fd ps (spA K mg ps.length fs) := by
  refine F.okX S (fun vs H Q E h => ?_) (fun cdv A outer s H vs Q E hr h => ?_)
  · obtain ⟨as, h, Q', E', rs, _, e, _⟩ := h
    rw [← rs.len]; exact e
  · obtain ⟨as, h, Q', E', rs, r, e, q, C, CX⟩ := h
    refine ⟨_, hd cdv A outer s H E ⟨fun nm pl _ h' => ∃ h2, Lss h' h2 ∧ E' nm pl h2, h, H⟩ hr ?_, startA N as, h, _, ⟨rs.getS N, r, Step.refl _ _⟩, hs as h Q' E' e q, ?_⟩
    · have tk : Takes (cxOf (L2.CX P w) P w K mg base N qual (defScope st) f cdv A outer s H E) (fun cls d _ H => E cls d H) := takes_of rfl rfl rfl rfl
      refine tk.imp fun cls d σ H1 hw => ?_
      obtain ⟨nm, pl, ρ, h1, hm, S1, pld, h2, l2, hE⟩ := hw
      exact CX nm pl h2 cls d H1 hE (S1.b.trans l2.step) (S1.r.less l2.l) hm (pld.step l2.step)
    · refine ⟨fun ρ1 h1 σ1 H1 q1 s1 S1 => ?_, fun v h1 x H1 q1 s1 rv1 r1 => ?_, fun _ _ _ _ z => z.elim, fun _ _ _ _ z => z.elim⟩
      · obtain ⟨h2, l2, q2⟩ := q1
        exact C _ _ _ _ q2 (s1.trans l2.step) rv_non (S1.r.less l2.l)
      · obtain ⟨v2, h2, c2, q2⟩ := q1
        exact C _ _ _ _ q2 (s1.trans c2.1.step) (c2.2 K H1 x r1 rv1) (r1.less c2.1.l)
end DL
namespace DL
open PySem PySem.Spec PyProof.Rows L2
abbrev FM := Val → List Val → Hv → PV → Prop
def tyA (v : Val) (h : Hv) (T : String) : Prop := match v with
  | .str _ => T = "str"
  | .lst _ => T = "list"
  | .ref a => match h a with
    | some (.lst _) => T = "list"
    | some (.dK _) => T = "dict"
    | some (.dT _) => T = "dict"
    | _ => False
  | _ => False
theorem tyA_rel {K : PySem.W.Frag} {H : Hp} {h : Hv} {v : Val} {x : V} {T : String} (r : RH K H h) (rv : RV K H h v x) (e : tyA v h T) : tyV K T x H := by
  cases v with
  | str z => rw [RV] at rv; subst rv; exact e
  | lst vs =>
    rw [RV] at rv
    obtain ⟨a, xs, e1, _, ha, rs⟩ := rv
    subst e1
    exact .inl ⟨e, xs, .of ha⟩
  | ref a =>
    rw [RV] at rv; subst rv
    unfold tyA at e
    dsimp only at e
    split at e
    · rename_i vs hv
      obtain ⟨xs, e1, rs⟩ := r a _ hv
      exact .inl ⟨e, xs, .of e1⟩
    · rename_i vs hv
      obtain ⟨xs, e1, rs⟩ := r a _ hv
      exact .inr (.inr (.inl ⟨e, .inl ⟨xs, e1⟩⟩))
    · rename_i vs hv
      obtain ⟨xs, e1, rs⟩ := r a _ hv
      exact .inr (.inr (.inl ⟨e, .inr ⟨xs, e1⟩⟩))
    · exact e.elim
  | _ => exact e.elim
def MtL (K : PySem.W.Frag) (f : FM) (r : V → List V → Hp → VK → Prop) : Prop := ∀ v ws x ys h H Q' Q, RH K H h → RV K H h v x → RVs K H h ws ys → f v ws h Q' → Cont K h H Q' Q → r x ys H Q
def dBM (T : String) (f : FM) (d : ED) (aa : AD) : ED := fun ρ h Q E => d ρ h (fun v h1 => tyA v h1 T ∧ aa ρ h1 (fun vs h2 => f v vs h2 Q) E) E
section
variable {X : Cx} {B : Bs} {o e : Expr} {es : List Expr} {d : ED} {aa : AD} {name : Str} {apos cpos : Pos} {T id : String} {r : V → List V → Hp → VK → Prop} {f : FM}
theorem de_bm (pa : PlainAttrs T) (slot : Slot T name id) (hty : typeOf (.builtin id) = pure (.type "method_descriptor")) (hm : MtR X id r) (hl : MtL X.K f r) (ho : DE X B o d) (ha : DA X B (e :: es) aa)
    (hbase : attributeBase o name X.env (eval o X.env) = eval o X.env := by rfl)
    (hfew : ((backTo cpos (starEach (e :: es) X.env)).all (fun x => !x.1) && (backToKw cpos (keywordEach [] X.env)).all (fun x => x.1.isSome)
      && decide ((e :: es).length + ([] : List Keyword).length + (if ([] : List Keyword).isEmpty then 0 else 1) < 30)) = true := by rfl)
    (hline : (apos.endLine == cpos.line) = true := by rfl) (hs : starEach (e :: es) X.env = (false, eval e X.env) :: starEach es X.env := by rfl) (hplain : (backTo cpos (starEach es X.env)).any (·.1) = false := by rfl) :
    DE X B (.Call (.Attribute o name apos) (e :: es) [] cpos) (dBM T f d aa) :=
  PEi (pe_bm pa slot hty hm ho ha hbase hfew hline hs hplain) fun σ H Q ⟨ρ, h, Q', S, q, C⟩ => ⟨ρ, h, _, S, q, fun v h1 x H1 q1 s1 rv1 r1 =>
    ⟨tyA_rel r1 rv1 q1.1, ρ, h1, _, S.step s1 r1, q1.2, fun vs h2 xs H2 q2 s2 rv2 r2 => hl v vs x xs h2 H2 Q' Q r2 (rv1.step s2) rv2 q2 (C.trans (s1.trans s2))⟩⟩
end
section
variable {K : PySem.W.Frag}
theorem Cont.write {h : Hv} {H : Hp} {Q' : PV} {Q : VK} (c : Cont K h H Q' Q) (r : RH K H h) {a : Addr} {vs ws : List Val} {ys : List V} {v : Val} {x : V} (e : h a = some (.lst vs)) (rs : RVs K H h ws ys) (rv : RV K H h v x) (q : Q' v (put h a (.lst ws))) : Q x (upd H a (.lst ys)) := by
  have nb : Ob.lst vs ≠ .busy := fun z => nomatch z
  have s : Step h H (put h a (.lst ws)) (upd H a (.lst ys)) := Step.write e nb
  exact c _ _ _ _ q s (rv.step s) (r.write e nb ⟨ys, upd_same, rs.step s⟩)
def fAppend : FM := fun v ws h Q => match v, ws with
  | .ref a, [w] => (match h a with
    | some (.lst vs) => vs.length < sizeLine ∧ Q .non (put h a (.lst (vs ++ [w])))
    | _ => False)
  | _, _ => False
theorem ml_append : MtL K fAppend rAppend := fun v ws x ys h H Q' Q r rv rs q c => by
  unfold fAppend at q
  split at q
  · rename_i a w
    split at q
    · rename_i vs hv
      obtain ⟨y, e1, ry⟩ := rvs1 rs
      obtain ⟨xs, e2, rx⟩ := r a _ hv
      rw [RV] at rv
      exact ⟨a, xs, y, rv, e1, e2, by rw [← rx.len]; exact q.1, c.write r hv (rx.append (RVs.cons ry RVs.nil)) rv_non q.2⟩
    · exact q.elim
  · exact q.elim
def fExtend : FM := fun v ws h Q => match v, ws with
  | .ref a, [w] => (match h a, listOf w h with
    | some (.lst vs), some us => vs.length + us.length ≤ sizeLine ∧ Q .non (put h a (.lst (vs ++ us)))
    | _, _ => False)
  | _, _ => False
theorem ml_extend : MtL K fExtend rExtend := fun v ws x ys h H Q' Q r rv rs q c => by
  unfold fExtend at q
  split at q
  · rename_i a w
    split at q
    · rename_i vs us hv hu
      obtain ⟨y, e1, ry⟩ := rvs1 rs
      obtain ⟨b, zs, e3, hb, rz⟩ := listOf_rel r ry hu
      obtain ⟨xs, e2, rx⟩ := r a _ hv
      rw [RV] at rv
      exact ⟨a, b, xs, zs, rv, by rw [e1, e3], e2, hb, by rw [← rx.len, ← rz.len]; exact q.1, c.write r hv (rx.append rz) rv_non q.2⟩
    · exact q.elim
  · exact q.elim
def fPopAt : FM := fun v ws h Q => match v, ws with
  | .ref a, [.int i] => (match h a with
    | some (.lst vs) => (0 ≤ i ∧ i < 2 ^ 62) ∧ (match vs[i.toNat]? with
      | some u => Q u (put h a (.lst (vs.eraseIdx i.toNat)))
      | none => False)
    | _ => False)
  | _, _ => False
theorem ml_popAt : MtL K fPopAt rPopAt := fun v ws x ys h H Q' Q r rv rs q c => by
  unfold fPopAt at q
  split at q
  · rename_i a i
    split at q
    · rename_i vs hv
      obtain ⟨⟨h0, h9⟩, q⟩ := q
      split at q
      · rename_i u eu
        obtain ⟨y, e1, ry⟩ := rvs1 rs
        rw [RV] at ry
        obtain ⟨xs, e2, rx⟩ := r a _ hv
        obtain ⟨z, ez, rz⟩ := rx.get eu
        rw [RV] at rv
        have hi : i.toNat < xs.length := (List.getElem?_eq_some_iff.mp ez).1
        refine ⟨a, xs, i, i.toNat, z, rv, by rw [e1, ry], e2, by omega, by omega, PySem.StrLaws.seqIndex_nonneg h0 (by omega), ez, ?_⟩
        exact c.write r hv (rx.erase _) rz q
      · exact q.elim
    · exact q.elim
  · exact q.elim
end
section
variable {κ : Type} [DecidableEq κ]
def valA (kvs : List (κ × Val)) (k : κ) : Option Val := (kvs.find? fun kv => decide (kv.1 = k)).map (·.2)
def putA (kvs : List (κ × Val)) (k : κ) (v : Val) : List (κ × Val) :=
  if (kvs.any fun kv => decide (kv.1 = k)) = true then kvs.map (fun kv => if kv.1 = k then (kv.1, v) else kv) else kvs ++ [(k, v)]
theorem RKs.val {K : PySem.W.Frag} {H : Hp} {h : Hv} (k : κ) : ∀ {kvs : List (κ × Val)} {xs : List (κ × V)}, RKs K H h kvs xs → (valA kvs k = none ∧ valV xs k = none) ∨ ∃ v x, valA kvs k = some v ∧ valV xs k = some x ∧ RV K H h v x
  | [], xs, r => by rw [show xs = [] from r]; exact .inl ⟨rfl, rfl⟩
  | (j, v) :: kvs, xs, r => by
    obtain ⟨y, ys, e, r1, r2⟩ := r
    rw [e]
    by_cases q : j = k
    · refine .inr ⟨v, y, ?_, ?_, r1⟩
      · unfold valA; rw [List.find?_cons]; simp [q]
      · exact valV_pos q
    · rcases RKs.val k r2 with ⟨a, b⟩ | ⟨w, x, a, b, c⟩
      · refine .inl ⟨?_, by rw [valV_neg q]; exact b⟩
        rw [← a]; unfold valA; rw [List.find?_cons]; simp [q]
      · refine .inr ⟨w, x, ?_, by rw [valV_neg q]; exact b, c⟩
        rw [← a]; unfold valA; rw [List.find?_cons]; simp [q]
theorem RKs.any {K : PySem.W.Frag} {H : Hp} {h : Hv} (k : κ) : ∀ {kvs : List (κ × Val)} {xs : List (κ × V)}, RKs K H h kvs xs → (kvs.any fun kv => decide (kv.1 = k)) = xs.any fun kv => decide (kv.1 = k)
  | [], xs, r => by rw [show xs = [] from r]; rfl
  | (j, v) :: kvs, xs, r => by
    obtain ⟨y, ys, e, r1, r2⟩ := r
    rw [e, List.any_cons, List.any_cons, RKs.any k r2]
theorem RKs.app {K : PySem.W.Frag} {H : Hp} {h : Hv} {k : κ} {v : Val} {x : V} (rv : RV K H h v x) : ∀ {kvs : List (κ × Val)} {xs : List (κ × V)}, RKs K H h kvs xs → RKs K H h (kvs ++ [(k, v)]) (xs ++ [(k, x)])
  | [], xs, r => by rw [show xs = [] from r]; exact ⟨x, [], rfl, rv, rfl⟩
  | (j, w) :: kvs, xs, r => by
    obtain ⟨y, ys, e, r1, r2⟩ := r
    rw [e]
    exact ⟨y, _, rfl, r1, RKs.app rv r2⟩
theorem RKs.repl {K : PySem.W.Frag} {H : Hp} {h : Hv} {k : κ} {v : Val} {x : V} (rv : RV K H h v x) : ∀ {kvs : List (κ × Val)} {xs : List (κ × V)}, RKs K H h kvs xs → RKs K H h (kvs.map fun kv => if kv.1 = k then (kv.1, v) else kv) (xs.map fun kv => if kv.1 = k then (kv.1, x) else kv)
  | [], xs, r => by rw [show xs = [] from r]; exact rfl
  | (j, w) :: kvs, xs, r => by
    obtain ⟨y, ys, e, r1, r2⟩ := r
    rw [e, List.map_cons, List.map_cons]
    by_cases q : j = k
    · simp only [q, if_true]
      exact ⟨x, _, rfl, rv, RKs.repl rv r2⟩
    · simp only [q, if_false]
      exact ⟨y, _, rfl, r1, RKs.repl rv r2⟩
theorem RKs.put {K : PySem.W.Frag} {H : Hp} {h : Hv} {k : κ} {v : Val} {x : V} {kvs : List (κ × Val)} {xs : List (κ × V)} (r : RKs K H h kvs xs) (rv : RV K H h v x) : RKs K H h (putA kvs k v) (putK xs k x) := by
  unfold putA putK
  rw [r.any k]
  split
  · exact RKs.repl rv r
  · exact RKs.app rv r
omit [DecidableEq κ] in
theorem RKs.len {K : PySem.W.Frag} {H : Hp} {h : Hv} : ∀ {kvs : List (κ × Val)} {xs : List (κ × V)}, RKs K H h kvs xs → kvs.length = xs.length
  | [], xs, r => by rw [show xs = [] from r]; rfl
  | (j, w) :: kvs, xs, r => by
    obtain ⟨y, ys, e, r1, r2⟩ := r
    rw [e, List.length_cons, List.length_cons, RKs.len r2]
end
@[simp] def keyOf : Val → Option Key
  | .int i => some (.inl i)
  | .str z => some (.inr z)
  | _ => none
@[simp] def keysOf : List Val → Option (List Key)
  | [] => some []
  | v :: vs => match keyOf v, keysOf vs with
    | some k, some ks => some (k :: ks)
    | _, _ => none
section
variable {K : PySem.W.Frag} {H : Hp} {h : Hv}
theorem keyOf_rel {v : Val} {x : V} {k : Key} (rv : RV K H h v x) (e : keyOf v = some k) : x = kV k := by
  cases v <;> first | (cases e; done) | skip
  · rw [RV] at rv; cases e; exact rv
  · rw [RV] at rv; cases e; exact rv
theorem keysOf_rel : ∀ {vs : List Val} {xs : List V} {ks : List Key}, RVs K H h vs xs → keysOf vs = some ks → xs = ks.map kV
  | [], xs, ks, r, e => by rw [RVs] at r; cases e; exact r
  | v :: vs, xs, ks, r, e => by
    rw [RVs] at r
    obtain ⟨y, ys, e1, r1, r2⟩ := r
    unfold keysOf at e
    split at e
    · rename_i k ks' h1 h2
      cases e
      rw [e1, keyOf_rel r1 h1, keysOf_rel r2 h2]; rfl
    · cases e
@[simp] def dgetA (d k : Val) (h : Hv) : Option (Option Val) := match d with
  | .ref a => (match h a with
    | some (.dK kvs) => (match keyOf k with
      | some k => some (valA kvs k)
      | none => none)
    | some (.dT kvs) => (match k with
      | .tup ks => (match keysOf ks with
        | some ks => some (valA kvs ks)
        | none => none)
      | _ => none)
    | some (.dF _ _ kvs) => (match keyOf k with
      | some k => some (valA kvs k)
      | none => none)
    | some (.dFT _ _ kvs) => (match k with
      | .tup ks => (match keysOf ks with
        | some ks => some (valA kvs ks)
        | none => none)
      | _ => none)
    | _ => none)
  | _ => none
theorem dget_rel {d k : Val} {x y : V} {o : Option Val} (r : RH K H h) (rd : RV K H h d x) (rk : RV K H h k y) (e : dgetA d k h = some o) : ∃ a u, x = .ref a ∧ DGet H a y u ∧ (IsD H a) ∧ ((o = none ∧ u = none) ∨ ∃ v z, o = some v ∧ u = some z ∧ RV K H h v z) := by
  unfold dgetA at e
  split at e
  · rename_i a
    rw [RV] at rd
    split at e
    · rename_i kvs hv
      obtain ⟨xs, e1, rs⟩ := r a _ hv
      split at e
      · rename_i kk hk
        cases e
        refine ⟨a, _, rd, by rw [keyOf_rel rk hk]; exact .k e1, .inl ⟨xs, .inl e1⟩, ?_⟩
        rcases rs.val kk with ⟨p, q⟩ | ⟨v, z, p, q, rv⟩
        · exact .inl ⟨p, q⟩
        · exact .inr ⟨v, z, p, q, rv⟩
      · cases e
    · rename_i kvs hv
      obtain ⟨xs, e1, rs⟩ := r a _ hv
      split at e
      · rename_i ks
        split at e
        · rename_i kk hk
          cases e
          rw [RV] at rk
          obtain ⟨b, ys, eb, n, hb, rb⟩ := rk
          rw [keysOf_rel rb hk] at hb
          refine ⟨a, _, rd, by rw [eb]; exact .t e1 hb, .inr ⟨xs, .inl e1⟩, ?_⟩
          rcases rs.val kk with ⟨p, q⟩ | ⟨v, z, p, q, rv⟩
          · exact .inl ⟨p, q⟩
          · exact .inr ⟨v, z, p, q, rv⟩
        · cases e
      · cases e
    · rename_i o xs kvs hv
      obtain ⟨e1, rs⟩ := r a _ hv
      split at e
      · rename_i kk hk
        cases e
        refine ⟨a, _, rd, by rw [keyOf_rel rk hk]; exact .inl ⟨xs, kk, .inr ⟨o, e1⟩, rfl, rfl⟩, .inl ⟨xs, .inr ⟨o, e1⟩⟩, ?_⟩
        rcases rs.val kk with ⟨p, q⟩ | ⟨v, z, p, q, rv⟩
        · exact .inl ⟨p, q⟩
        · exact .inr ⟨v, z, p, q, rv⟩
      · cases e
    · rename_i o xs kvs hv
      obtain ⟨e1, rs⟩ := r a _ hv
      split at e
      · rename_i ks
        split at e
        · rename_i kk hk
          cases e
          rw [RV] at rk
          obtain ⟨b, ys, eb, n, hb, rb⟩ := rk
          rw [keysOf_rel rb hk] at hb
          refine ⟨a, _, rd, by rw [eb]; exact .inr ⟨xs, kk, b, .inr ⟨o, e1⟩, rfl, hb, rfl⟩, .inr ⟨xs, .inr ⟨o, e1⟩⟩, ?_⟩
          rcases rs.val kk with ⟨p, q⟩ | ⟨v, z, p, q, rv⟩
          · exact .inl ⟨p, q⟩
          · exact .inr ⟨v, z, p, q, rv⟩
        · cases e
      · cases e
    · cases e
  · cases e
def dputA (d k v : Val) (h : Hv) : Option Hv := match d with
  | .ref a => (match h a with
    | some (.dK kvs) => (match keyOf k with
      | some k => if kvs.length < sizeLine then some (put h a (.dK (putA kvs k v))) else none
      | none => none)
    | some (.dT kvs) => (match k with
      | .tup ks => (match keysOf ks with
        | some ks => if kvs.length < sizeLine then some (put h a (.dT (putA kvs ks v))) else none
        | none => none)
      | _ => none)
    | _ => none)
  | _ => none
theorem dput_rel {d k v : Val} {x y z : V} {h' : Hv} (r : RH K H h) (rd : RV K H h d x) (rk : RV K H h k y) (rv : RV K H h v z) (e : dputA d k v h = some h') : ∃ a H', x = .ref a ∧ DPut H a y z H' ∧ Step h H h' H' ∧ RH K H' h' := by
  unfold dputA at e
  split at e
  · rename_i a
    rw [RV] at rd
    split at e
    · rename_i kvs hv
      obtain ⟨xs, e1, rs⟩ := r a _ hv
      split at e
      · rename_i kk hk
        split at e
        · rename_i hl
          cases e
          have s : Step h H (put h a (.dK (putA kvs kk v))) (upd H a (.dK (putK xs kk z))) := Step.write hv (fun z => nomatch z)
          refine ⟨a, _, rd, by rw [keyOf_rel rk hk]; exact .k e1 (by rw [← rs.len]; exact hl), s, r.write hv (fun z => nomatch z) ⟨_, upd_same, (rs.put rv).step s⟩⟩
        · cases e
      · cases e
    · rename_i kvs hv
      obtain ⟨xs, e1, rs⟩ := r a _ hv
      split at e
      · rename_i ks
        split at e
        · rename_i kk hk
          split at e
          · rename_i hl
            cases e
            rw [RV] at rk
            obtain ⟨b, ys, eb, n, hb, rb⟩ := rk
            rw [keysOf_rel rb hk] at hb
            have s : Step h H (put h a (.dT (putA kvs kk v))) (upd H a (.dT (putK xs kk z))) := Step.write hv (fun z => nomatch z)
            refine ⟨a, _, rd, by rw [eb]; exact .t e1 hb (by rw [← rs.len]; exact hl), s, r.write hv (fun z => nomatch z) ⟨_, upd_same, (rs.put rv).step s⟩⟩
          · cases e
        · cases e
      · cases e
    · cases e
  · cases e
end
section
variable {X : Cx} {B : Bs} {o i e f : Expr} {dd di de df : ED} {pos pos' apos cpos : Pos}
@[simp] def dDGet (dd dk : ED) : ED := fun ρ h Q E => dd ρ h (fun v h1 => dk ρ h1 (fun k h2 => match dgetA v k h2 with
  | some (some u) => Q u h2
  | _ => False) E) E
theorem de_dget (hu : X.A.units + 1 < cLine) (ho : DE X B o dd) (hi : DE X B i di) (hs : NoSl i := by exact fun _ _ => rfl) : DE X B (.Subscript o i pos) (dDGet dd di) :=
  PEi (pe_dget hu ho hi hs) fun σ H Q ⟨ρ, h, Q', S, q, C⟩ => ⟨ρ, h, _, S, q, fun v h1 x H1 q1 s1 rv1 r1 => ⟨ρ, h1, _, S.step s1 r1, q1, fun k h2 y H2 q2 s2 rv2 r2 => by
    split at q2
    · rename_i u eu
      obtain ⟨a, z, ex, g, _, z1 | ⟨w, zz, e1, e2, rv⟩⟩ := dget_rel r2 (rv1.step s2) rv2 eu
      · cases z1.1
      · cases e1
        subst e2
        exact ⟨a, zz, ex, g, (C.trans (s1.trans s2)).val r2 rv q2⟩
    · exact q2.elim⟩⟩
@[simp] def dDGet2 (dd dk df : ED) : ED := fun ρ h Q E => dd ρ h (fun v h1 => (dgetA v (.int 0) h1).isSome = true ∧ dk ρ h1 (fun k h2 => df ρ h2 (fun w h3 => match dgetA v k h3 with
  | some (some u) => Q u h3
  | some none => Q w h3
  | none => False) E) E) E
theorem de_dget2 (hu : X.A.units + 1 < cLine) (ho : DE X B o dd) (he : DE X B e de) (hf : DE X B f df) (m : M2 X o "get" apos e f cpos) : DE X B (.Call (.Attribute o "get" apos) [e, f] [] cpos) (dDGet2 dd de df) :=
  PEi (pe_dget2 hu ho he hf m) fun σ H Q ⟨ρ, h, Q', S, q, C⟩ => ⟨ρ, h, _, S, q, fun v h1 x H1 q1 s1 rv1 r1 => by
    obtain ⟨q0, q1⟩ := q1
    obtain ⟨o', e0⟩ := Option.isSome_iff_exists.mp q0
    obtain ⟨a, z, ex, _, isd, _⟩ := dget_rel r1 rv1 (rv_int (b := 0)) e0
    refine ⟨a, ex, isd, ρ, h1, _, S.step s1 r1, q1, fun k h2 y H2 q2 s2 rv2 r2 => ⟨ρ, h2, _, S.step (s1.trans s2) r2, q2, fun w h3 yw H3 q3 s3 rv3 r3 => ?_⟩⟩
    have C3 := C.trans (s1.trans (s2.trans s3))
    split at q3
    · rename_i u eu
      obtain ⟨a', z, ex', g, _, z1 | ⟨w, zz, e1, e2, rv⟩⟩ := dget_rel r3 (rv1.step (s2.trans s3)) (rv2.step s3) eu
      · cases z1.1
      · cases e1
        subst e2
        rw [ex] at ex'
        cases ex'
        exact ⟨_, g, C3.val r3 rv q3⟩
    · rename_i eu
      obtain ⟨a', z, ex', g, _, z1 | ⟨w, zz, e1, e2, rv⟩⟩ := dget_rel r3 (rv1.step (s2.trans s3)) (rv2.step s3) eu
      · rw [ex] at ex'
        cases ex'
        refine ⟨_, g, ?_⟩
        rw [z1.2]
        exact C3.val r3 rv3 q3
      · cases e1
    · exact q3.elim⟩
@[simp] def dDIn (dk dd : ED) : ED := fun ρ h Q E => dk ρ h (fun k h1 => dd ρ h1 (fun v h2 => match dgetA v k h2 with
  | some o => Q (.bl o.isSome) h2
  | none => False) E) E
@[simp] def dDNotIn (dk dd : ED) : ED := fun ρ h Q E => dk ρ h (fun k h1 => dd ρ h1 (fun v h2 => match dgetA v k h2 with
  | some o => Q (.bl (!o.isSome)) h2
  | none => False) E) E
@[simp] def sDPut (dd dk dv : ED) : SD := fun ρ h D E => dv ρ h (fun v h1 => dd ρ h1 (fun d h2 => dk ρ h2 (fun k h3 => match dputA d k v h3 with
  | some h4 => D.nx ρ h4
  | none => False) E) E) E
theorem ds_dput (hu : X.A.units + 1 < cLine) (ho : DE X B o dd) (hi : DE X B i di) (hv : DE X B e de) (hs : swapsWith e (some (.Subscript o i pos')) pos.line X.env = pure false := by rfl) : DS X B (.Assign [.Subscript o i pos'] e pos) (sDPut dd di de) :=
  PSi (ps_dput hu ho hi hv hs) fun D σ H ⟨ρ, h, D', S, q, C⟩ => ⟨ρ, h, _, S, q, fun v h1 z H1 q1 s1 rv1 r1 => ⟨ρ, h1, _, S.step s1 r1, q1, fun d h2 x H2 q2 s2 rv2 r2 => ⟨ρ, h2, _, S.step (s1.trans s2) r2, q2, fun k h3 y H3 q3 s3 rv3 r3 => by
    split at q3
    · rename_i h4 e4
      obtain ⟨a, H4, ex, g, s4, r4⟩ := dput_rel r3 (rv2.step s3) rv3 (rv1.step (s2.trans s3)) e4
      have s14 := s1.trans (s2.trans (s3.trans s4))
      exact ⟨a, H4, ex, g, C.nx _ _ _ _ q3 s14 (S.step s14 r4)⟩
    · exact q3.elim⟩⟩⟩
@[simp] def dNewK : ED := fun _ h Q _ => ∀ p, h p = none → Q (.ref p) (put h p (.dK []))
@[simp] def dNewT : ED := fun _ h Q _ => ∀ p, h p = none → Q (.ref p) (put h p (.dT []))
theorem de_dnewK : DE X B (.Dict [] [] pos) dNewK := PEi pe_dnewK fun σ H Q ⟨ρ, h, Q', S, q, C⟩ p e => C _ _ _ _ (q p (S.r.nof e)) (Step.new e) (by rw [RV]) (S.r.new e ⟨[], upd_same, rfl⟩)
theorem de_dnewT : DE X B (.Dict [] [] pos) dNewT := PEi pe_dnewT fun σ H Q ⟨ρ, h, Q', S, q, C⟩ p e => C _ _ _ _ (q p (S.r.nof e)) (Step.new e) (by rw [RV]) (S.r.new e ⟨[], upd_same, rfl⟩)
end
end DL
namespace DL
open PySem PySem.Spec PyProof.Rows L2
def gk {α : Type} (np nk : Nat) (us ws : List α) : List α := if us.length = np ∧ ws.length = nk then us ++ ws else []
def FnK (P : Program) (w : World) (K : PySem.W.Frag) (mg : Str → Option Value) (base : Heap) (A : Around) (x : Str) (np : Nat) (ks : List Str) (fs : SpF) : Prop :=
  ∃ (k : Nat) (f : Addr) (fd : FuncData) (ps : List Str), FnOk P w K mg base (L2.CX P w) k f fd ps (spA K mg (np + ks.length) fs) ∧ Room k A ∧ mg x = some (.ref f) ∧ PySem.W.keepIn K (.ref f) = true ∧ KBinds K fd ps ks (gk np ks.length) (gk np ks.length)
abbrev DK (X : Cx) (B : Bs) (kws : List Keyword) (d : AD) : Prop := PK X kws (rdA X.K B d)
section
variable {X : Cx} {B : Bs} {x : Str} {np : Nat} {ks : List Str} {fs : SpF} {p pos kpos : Pos} {e : Expr} {es : List Expr} {kws : List Keyword} {aa dk : AD} {de : ED} {nm : Option Str}
theorem PKi {X : Cx} {e : List Keyword} {t t' : TA} (p : PK X e t) (i : ∀ σ H Q, t' σ H Q → t σ H Q) : PK X e t' := ⟨fun w pins s σ H Q I q => p.run w pins s σ H Q I (i σ H Q q)⟩
theorem dk_nil : DK X B [] aNil := PKi pk_nil fun σ H Q ⟨ρ, h, Q', S, q, C⟩ => C _ _ _ _ q (Step.refl _ _) RVs.nil S.r
theorem dk_cons (ha : DE X B e de) (hr : DK X B kws dk) : DK X B (⟨nm, e, kpos⟩ :: kws) (aCons de dk) :=
  PKi (pk_cons ha hr) fun σ H Q ⟨ρ, h, Q', S, q, C⟩ => ⟨ρ, h, _, S, q, fun v h1 x H1 q1 s1 rv1 r1 =>
    ⟨ρ, h1, _, S.step s1 r1, q1, fun vs h2 xs H2 q2 s2 rv2 r2 => C _ _ _ _ q2 (s1.trans s2) (RVs.cons (rv1.step s2) rv2) r2⟩⟩
@[simp] def dCallK (np nk : Nat) (fs : SpF) (aa dk : AD) : ED := fun ρ h Q E => aa ρ h (fun vs h1 => dk ρ h1 (fun ws h2 => (vs.length = np ∧ ws.length = nk) ∧ fs (vs ++ ws) h2 Q (fun nm pl h' => E nm pl ρ h')) E) E
theorem run_fnkS {CX : CXT} {k : Nat} {f : Addr} {fd : FuncData} {ps : List Str} {sp : Sp} {E : L2.St → XK} {pins : List (Addr × Obj)} {σ : L2.St} {H : Hp} {s : Shared} {Q : VK} {us ws : List Value} {vs zs : List V} {g : List Value → List Value → List Value} {gV : List V → List V → List V} (F : FnOk X.prog X.w X.K X.mg X.base CX k f fd ps sp) (hr : Room k X.A) (hb : KBinds X.K fd ps ks g gV) (hx : PassesAt CX X σ (E σ))
    (I : Inv X pins σ H s) (r : Vals vs us) (rz : Vals zs ws) (h : sp (gV vs zs) H Q (E σ)) : wpAny (model X.prog X.w) X.A (call (.ref f) us (ks.zip ws)) (EP X pins σ Q) X.xe s := by
  have r2 := hb.rel r rz
  have hl : (g us ws).length = ps.length := by rw [← r2.length]; exact F.len _ _ _ _ h
  refine wpAny_call (codeAny_mono (F.run X.A X.stack s H ⟨us, ks.zip ws⟩ (g us ws) (gV vs zs) Q (E σ) hr I.env0 (hb.to s us ws I.kIn hl) r2 h) fun r s' hq => ?_)
  cases r with
  | error e => exact hx pins H s e s' I hq
  | ok fl =>
    cases fl with
    | ret u => exact I.after hq
    | next => exact False.elim hq
    | brk => exact False.elim hq
    | cont => exact False.elim hq
theorem de_callK (F : FnK X.prog X.w X.K X.mg X.base X.A x np ks fs) (tk : TakesB X B) (ha : DA X B (e :: es) aa) (hkw : DK X B kws dk) (hg : Gl X x := by rfl) (hall : (backToKw pos (keywordEach kws X.env)).all (·.1.isSome) = true := by rfl) (hks : (backToKw pos (keywordEach kws X.env)).filterMap (·.1) = ks := by rfl)
    (hdb : (x == ("__debug__" : Str)) = false := by decide) (he : starEach (e :: es) X.env = (false, eval e X.env) :: starEach es X.env := by rfl)
    (hpl : ((backTo pos (starEach (e :: es) X.env)).any (·.1) || (backToKw pos (keywordEach kws X.env)).any (·.1.isNone)) = false := by rfl) :
    DE X B (.Call (.Name x p) (e :: es) kws pos) (dCallK np ks.length fs aa dk) := by
  obtain ⟨k, f, fd, ps, G, hr, hm, hk, hb⟩ := F
  refine ⟨fun pins s σ H Q I ⟨ρ, h, Q', S, q, C⟩ => ?_⟩
  refine wpAny_Call_Name_kw (ld_glob I hg hm ?_ hdb)
  refine PySem.W.callWith_KW (h₀ := X.base) I.ok.mod.kin hk hall (thn (ha.run pos pins s σ H _ I ⟨ρ, h, _, S, q, fun vs h1 xs H1 q1 s1 rv1 r1 => (show (fun xs H1 => ∃ vs h1, Step h H h1 H1 ∧ RVs X.K H1 h1 vs xs ∧ RH X.K H1 h1 ∧ dk ρ h1 (fun ws h2 => (vs.length = np ∧ ws.length = ks.length) ∧ fs (vs ++ ws) h2 Q' (fun nm pl h' => B.E nm pl ρ h')) B.E) xs H1 from ⟨vs, h1, s1, rv1, r1, q1⟩)⟩) fun us s1 ⟨xs, H1, I1, r, vs, h1, st1, rv1, r1, q1⟩ => ?_) hpl he
  refine thn (hkw.run pos pins s1 σ H1 _ I1 ⟨ρ, h1, _, S.step st1 r1, q1, fun ws h2 ys H2 q2 s2 rv2 r2 => (show (fun ys H2 => ∃ ws h2, Step h H h2 H2 ∧ RVs X.K H2 h2 (vs ++ ws) (gk np ks.length xs ys) ∧ RH X.K H2 h2 ∧ (vs.length = np ∧ ws.length = ks.length) ∧ fs (vs ++ ws) h2 Q' (fun nm pl h' => B.E nm pl ρ h')) ys H2 from ⟨ws, h2, st1.trans s2, by rw [show gk np ks.length xs ys = xs ++ ys from if_pos ⟨rv1.len.symm.trans q2.1.1, rv2.len.symm.trans q2.1.2⟩]; exact (rv1.step s2).append rv2, r2, q2⟩)⟩) fun ws2 s2 ⟨ys, H2, I2, rz, ws, h2, st2, rv2, r2, ln, q2⟩ => ⟨I2.kIn, ?_⟩
  rw [hks]
  exact run_fnkS (E := WE (wx X.mg X.K B)) G hr hb (passAt tk σ) I2 r rz ⟨vs ++ ws, h2, Q', _, rv2, r2, by rw [List.length_append, ln.1, ln.2], q2, C.trans st2, fun nm pl h' cls d H' hE s3 r3 hm pld => ⟨nm, pl, ρ, h', hm, S.step (st2.trans s3) r3, pld, hE⟩⟩
theorem de_callK0 (F : FnK X.prog X.w X.K X.mg X.base X.A x np ks fs) (tk : TakesB X B) (hkw : DK X B kws dk) (hg : Gl X x := by rfl) (hall : (backToKw pos (keywordEach kws X.env)).all (·.1.isSome) = true := by rfl) (hks : (backToKw pos (keywordEach kws X.env)).filterMap (·.1) = ks := by rfl)
    (hdb : (x == ("__debug__" : Str)) = false := by decide)
    (hpl : ((backTo pos (starEach [] X.env)).any (·.1) || (backToKw pos (keywordEach kws X.env)).any (·.1.isNone)) = false := by rfl) :
    DE X B (.Call (.Name x p) [] kws pos) (dCallK np ks.length fs aNil dk) := by
  obtain ⟨k, f, fd, ps, G, hr, hm, hk, hb⟩ := F
  refine ⟨fun pins s σ H Q I ⟨ρ, h, Q', S, q, C⟩ => ?_⟩
  refine wpAny_Call_Name_kw (ld_glob I hg hm ?_ hdb)
  refine PySem.W.callWith_KW0 (h₀ := X.base) I.ok.mod.kin hk hall ?_ hpl
  have z := hkw.run pos pins s σ H (fun ys H2 => ∃ ws h2, Step h H h2 H2 ∧ RVs X.K H2 h2 ([] ++ ws) (gk np ks.length [] ys) ∧ RH X.K H2 h2 ∧ (([] : List Val).length = np ∧ ws.length = ks.length) ∧ fs ([] ++ ws) h2 Q' (fun nm pl h' => B.E nm pl ρ h')) I ⟨ρ, h, _, S, q, fun ws h2 ys H2 q2 s2 rv2 r2 => ⟨ws, h2, s2, by rw [show gk np ks.length [] ys = [] ++ ys from if_pos ⟨q2.1.1, rv2.len.symm.trans q2.1.2⟩]; exact rv2, r2, q2⟩⟩
  refine thn z fun ws2 s2 z2 => ?_
  obtain ⟨ys, H2, I2, rz, ws, h2, st2, rv2, r2, ln, q2⟩ := z2
  refine ⟨I2.kIn, ?_⟩
  rw [hks]
  exact run_fnkS (us := []) (vs := []) (E := WE (wx X.mg X.K B)) G hr hb (passAt tk σ) I2 .nil rz ⟨[] ++ ws, h2, Q', _, rv2, r2, by rw [List.length_append, ln.1, ln.2], q2, C.trans st2, fun nm pl h' cls d H' hE s3 r3 hm pld => ⟨nm, pl, ρ, h', hm, S.step (st2.trans s3) r3, pld, hE⟩⟩
end
theorem gk_vals {np nk : Nat} {vs : List V} {us : List Value} {zs : List V} {ws : List Value} (a : Vals vs us) (b : Vals zs ws) : Vals (gk np nk vs zs) (gk np nk us ws) := by
  unfold gk
  rw [a.length, b.length]
  split
  · exact a.append b
  · exact .nil
theorem kbinds {K : PySem.W.Frag} {x qual : Str} {st : Stmt} {f : Addr} {fd : FuncData} {ps ks : List Str} {np : Nat} (F : Fun K x qual st f fd) (hp : ps ≠ [])
    (h : ∀ (kV doc pm : Value) (an : Option Addr) (cdv ct : Value) (us ws : List Value), us.length = np → ws.length = ks.length → bindArgs (PySem.W.fnOf x qual (defArgs st) (defBody st) (defScope st) .none kV doc pm an cdv ct) ⟨us, ks.zip ws⟩ = pure (ps.zip (us ++ ws))) : KBinds K fd ps ks (gk np ks.length) (gk np ks.length) := by
  obtain ⟨oc, od, kV, doc, pm, an, cdv, ct, osl, rfl, lk, hcd⟩ := F.ex
  refine ⟨fun s us ws _ hl => ?_, fun a b => gk_vals a b⟩
  unfold gk at hl ⊢
  split at hl
  · rename_i e
    rw [if_pos e]
    exact .of_eq (h kV doc pm an cdv ct us ws e.1 e.2)
  · exact absurd (List.eq_nil_of_length_eq_zero hl.symm) hp

@[simp] def dPairs : List (ED × ED) → Sl → Hv → (List (Val × Val) → Hv → Prop) → PX → Prop
  | [], _, h, Q, _ => Q [] h
  | (dk, dv) :: r, ρ, h, Q, E => dk ρ h (fun k h1 => dv ρ h1 (fun v h2 => dPairs r ρ h2 (fun ps h3 => Q ((k, v) :: ps) h3) E) E) E
@[simp] def kvsOf : List (Val × Val) → Option (List (Key × Val))
  | [] => some []
  | (k, v) :: r => match keyOf k, kvsOf r with
    | some k, some r => some ((k, v) :: r)
    | _, _ => none
@[simp] def mergeA (kvs more : List (Key × Val)) : List (Key × Val) := more.foldl (fun acc kv => putA acc kv.1 kv.2) kvs
def dDisp (ps : List (ED × ED)) : ED := fun ρ h Q E => ∀ p, h p = none → dPairs ps ρ (put h p .busy) (fun kvs h2 => match kvsOf kvs with
  | some kvs => kvs.length ≤ 15 ∧ Q (.ref p) (put h2 p (.dK (mergeA [] kvs)))
  | none => False) E
def RPs (K : PySem.W.Frag) (H : Hp) (h : Hv) : List (Val × Val) → List (V × V) → Prop
  | [], xs => xs = []
  | (k, v) :: r, xs => ∃ y z ys, xs = (y, z) :: ys ∧ RV K H h k y ∧ RV K H h v z ∧ RPs K H h r ys
theorem RPs.step {K : PySem.W.Frag} {H H' : Hp} {h h' : Hv} (s : Step h H h' H') : ∀ {ps : List (Val × Val)} {xs : List (V × V)}, RPs K H h ps xs → RPs K H' h' ps xs
  | [], xs, r => r
  | (k, v) :: ps, xs, r => by
    obtain ⟨y, z, ys, e, r1, r2, r3⟩ := r
    exact ⟨y, z, ys, e, r1.step s, r2.step s, RPs.step s r3⟩
theorem kvs_rel {K : PySem.W.Frag} {H : Hp} {h : Hv} : ∀ {ps : List (Val × Val)} {xs : List (V × V)} {kvs : List (Key × Val)}, RPs K H h ps xs → kvsOf ps = some kvs → ∃ ws : List (Key × V), xs = ws.map (fun kv => (kV kv.1, kv.2)) ∧ RKs K H h kvs ws
  | [], xs, kvs, r, e => by cases e; exact ⟨[], r, rfl⟩
  | (k, v) :: ps, xs, kvs, r, e => by
    obtain ⟨y, z, ys, e1, r1, r2, r3⟩ := r
    unfold kvsOf at e
    split at e
    · rename_i kk rr h1 h2
      cases e
      obtain ⟨ws, e2, rw'⟩ := kvs_rel r3 h2
      refine ⟨(kk, z) :: ws, ?_, z, ws, rfl, r2, rw'⟩
      rw [e1, e2, keyOf_rel r1 h1]; rfl
    · cases e
theorem merge_rel {K : PySem.W.Frag} {H : Hp} {h : Hv} : ∀ {more : List (Key × Val)} {ws : List (Key × V)} {kvs : List (Key × Val)} {xs : List (Key × V)}, RKs K H h more ws → RKs K H h kvs xs → RKs K H h (mergeA kvs more) (mergeK xs ws)
  | [], ws, kvs, xs, r, q => by rw [show ws = [] from r]; exact q
  | (k, v) :: more, ws, kvs, xs, r, q => by
    obtain ⟨y, ys, e, r1, r2⟩ := r
    rw [e]
    show RKs K H h (mergeA (putA kvs k v) more) (mergeK (putK xs k y) ys)
    exact merge_rel r2 (q.put r1)
section
variable {X : Cx} {B : Bs} {pos : Pos}
def trsOf (K : PySem.W.Frag) (B : Bs) (ps : List (ED × ED)) : List (TE × TE) := ps.map fun p => (rdE K B p.1, rdE K B p.2)
theorem pairs_rel {K : PySem.W.Frag} {B : Bs} : ∀ (ps : List (ED × ED)) {σ : L2.St} {H : Hp} {ρ : Sl} {h : Hv} {Q' : List (Val × Val) → Hv → Prop} {Q : List (V × V) → Hp → Prop}, ST K B σ H ρ h → dPairs ps ρ h Q' B.E →
    (∀ kvs h' xs H', Q' kvs h' → Step h H h' H' → RPs K H' h' kvs xs → RH K H' h' → Q xs H') → tPairs (trsOf K B ps) σ H Q
  | [], σ, H, ρ, h, Q', Q, S, q, C => C _ _ _ _ q (Step.refl _ _) rfl S.r
  | (dk, dv) :: ps, σ, H, ρ, h, Q', Q, S, q, C => by
    refine ⟨ρ, h, _, S, q, fun k h1 y H1 q1 s1 rv1 r1 => ⟨ρ, h1, _, S.step s1 r1, q1, fun v h2 z H2 q2 s2 rv2 r2 => ?_⟩⟩
    exact pairs_rel ps (S.step (s1.trans s2) r2) q2 fun kvs h3 xs H3 q3 s3 rp r3 => C _ _ _ _ q3 (s1.trans (s2.trans s3)) ⟨y, z, xs, rfl, rv1.step (s2.trans s3), rv2.step s3, rp⟩ r3
theorem de_disp {keys : List (Option Expr)} {values : List Expr} {ps : List (ED × ED)} (h : PPs X pos keys values (trsOf X.K B ps)) (hall : keys.all (·.isSome) = true := by rfl) (hl : keys.length = values.length := by rfl) (h0 : keys ≠ [] := by exact fun z => nomatch z)
    (h15 : keys.length ≤ 15 := by decide) : DE X B (.Dict keys values pos) (dDisp ps) := by
  refine PEi (pe_disp h hall hl h0 h15) fun σ H Q ⟨ρ, h, Q', S, q, C⟩ p e => ?_
  have nh : h p = none := S.r.nof e
  have s0 : Step h H (put h p .busy) (upd H p (.dK [])) := Step.new e
  have r0 : RH X.K (upd H p (.dK [])) (put h p .busy) := S.r.new e ⟨_, upd_same, .inr ⟨_, rfl⟩⟩
  refine pairs_rel ps (S.step s0 r0) (q p nh) fun kvs h2 xs H2 q2 s2 rp r2 => ?_
  have b2 := s2.b p _ upd_same put_same
  refine ⟨b2.1, ?_⟩
  split at q2
  · rename_i kvs' ek
    obtain ⟨ws, e1, rw'⟩ := kvs_rel rp ek
    refine ⟨ws, e1, by rw [← rw'.len]; exact q2.1, ?_⟩
    have sN : StepN h2 H2 (put h2 p (.dK (mergeA [] kvs'))) (upd H2 p (.dK (mergeK [] ws))) := fun a o ea n _ => by
      have : a ≠ p := fun z => by rw [z, b2.2] at n; cases n
      rw [upd_ne this, put_ne this]
      exact ⟨ea, n⟩
    have sf : Step h H (put h2 p (.dK (mergeA [] kvs'))) (upd H2 p (.dK (mergeK [] ws))) := ⟨fun a o ea n t => by
      obtain ⟨e2, n2⟩ := (s0.trans s2).n a o ea n t
      exact sN a o e2 n2 t, fun a o ea n => by
      have ne : a ≠ p := ne_of_none ea e
      rw [upd_ne ne, put_ne ne]
      exact (s0.trans s2).b a o ea n⟩
    refine C _ _ _ _ q2.2 sf (by rw [RV]) fun a o qa => ?_
    by_cases ha : a = p
    · subst ha
      rw [put_same] at qa
      cases qa
      exact ⟨_, upd_same, (merge_rel rw' (show RKs X.K H2 h2 [] [] from rfl)).stepN sN⟩
    · rw [put_ne ha] at qa
      exact (r2 a o qa).stepN sN fun _ z => by rw [upd_ne ha]; exact z
  · exact q2.elim
end
end DL
namespace DL
open PySem PySem.Spec PyProof.Rows L2
open PySem.AutoSeq1 (wpAny_loadPart')
open PySem.MeetsSeq PySem.MeetsSeq2 PySem.MeetsSeq3
theorem tuple_mul1 (l : Addr) (items : Array Value) (n : Nat) (dd : Option Addr) (sl : Array (Option Value)) (x : Int) (u : Tok) (c0 : (decide (x < -(2 ^ 63)) || decide (x ≥ 2 ^ 63)) = false) (c1 : (items.isEmpty || x == 1) = true) :
    Meets (Builtin.«tuple.__mul__» ⟨[.ref l, .int x u], []⟩) (fun _ R s => s.heap.get? l = some { cls := .type "tuple", dict := dd, data := .seq items n, slots := sl } ∧ R (.ok (.ret (Value.ref l))) s) :=
  .of_wp fun prog w A R s h => by
    obtain ⟨hp, g, d, tk, os⟩ := s
    obtain ⟨hl, h⟩ := h
    have f1 := AutoSeq1.idx_int
    wp_walk using wpAny_loadPart' hl
    refine wpAny_ite_false (decide_eq_false (by rw [c0]; exact Bool.false_ne_true)) ?_
    wp_walk using wpAny_loadPart' hl
    exact ⟨_, rfl, h⟩
theorem tuple_mul0 (l : Addr) (items : Array Value) (n : Nat) (dd : Option Addr) (sl : Array (Option Value)) (x : Int) (u : Tok) (c0 : (decide (x < -(2 ^ 63)) || decide (x ≥ 2 ^ 63)) = false) (c1 : (items.isEmpty || x == 1) = false) (c2 : (decide (x ≤ 0) || items.isEmpty) = true) :
    Meets (Builtin.«tuple.__mul__» ⟨[.ref l, .int x u], []⟩) (fun _ R s => s.heap.get? l = some { cls := .type "tuple", dict := dd, data := .seq items n, slots := sl } ∧
      R (.ok (.ret (Value.ref s.heap.objs.size))) { s with heap := s.heap.push { cls := Value.type "tuple", data := Data.seq #[] }, toks := s.toks }) :=
  .of_wp fun prog w A R s h => by
    obtain ⟨hp, g, d, tk, os⟩ := s
    obtain ⟨hl, h⟩ := h
    have f1 := AutoSeq1.idx_int
    wp_walk using wpAny_loadPart' hl
    repeat (first
      | (refine wpAny_ite_false (decide_eq_false (by rw [c0]; exact Bool.false_ne_true)) ?_; wp_walk using wpAny_loadPart' hl)
      | (refine wpAny_ite_false (decide_eq_false (by rw [c1]; exact Bool.false_ne_true)) ?_; wp_walk using wpAny_loadPart' hl)
      | (refine wpAny_ite_true (decide_eq_true c2) ?_; wp_walk using wpAny_loadPart' hl))
    exact ⟨_, rfl, h⟩
def rRepA (K : PySem.W.Frag) : R2 := fun x y H Q => ∃ l k xs, x = .ref l ∧ y = .int k ∧ SqT K H l xs ∧ -1000 ≤ k ∧ k ≤ 1000 ∧ xs.length ≤ 1000 ∧
  ((xs = [] ∨ k = 1) → Q (.ref l) H) ∧ (xs ≠ [] → k ≤ 0 → ∀ p, H p = none → Q (.ref p) (upd H p (.tup []))) ∧ (xs ≠ [] → 2 ≤ k → ∀ p, H p = none → Q (.ref p) (upd H p (.tup (List.replicate k.toNat xs).flatten)))
theorem op_repA {X : Cx} : OpR X (binaryOp .Mult) (rRepA X.K) := by
  intro pins s σ H x y v u Q I rx ry h
  obtain ⟨l, k, xs, e1, e2, hT, h1, h2, hz, q1, q2, q3⟩ := h
  by_cases hc : xs ≠ [] ∧ 2 ≤ k
  · exact op_repT pins s σ H x y v u Q I rx ry ⟨l, k, xs, e1, e2, hT, hc.1, hc.2, h2, hz, q3 hc.1 hc.2⟩
  subst e1; subst e2
  cases rx
  obtain ⟨t, rfl⟩ := ry
  obtain ⟨its, r, ⟨⟨cls, dd, data, sl⟩, ho, hcc, n, hd⟩, hs⟩ := I.tuple hT
  simp only at hcc hd
  subst hcc hd
  have hle : its.length = xs.length := r.length.symm
  have c0 : (decide (k < -(2 ^ 63)) || decide (k ≥ 2 ^ 63)) = false := by
    rw [decide_eq_false (by omega), decide_eq_false (by omega)] <;> rfl
  by_cases hx : xs = [] ∨ k = 1
  · have c1 : (its.toArray.isEmpty || k == 1) = true := by
      rcases hx with hx | hx
      · have : its = [] := List.eq_nil_of_length_eq_zero (by rw [hle, hx]; rfl)
        rw [this]; rfl
      · rw [hx]; simp
    exact wpAny_binaryOp_repeat_ref (T := "tuple") (U := "int") (by decide) ⟨_, ho, rfl⟩ (fun s' => typeIs_int s' k t) noFill_tuple_mul F.fills_int_mul F.slot_int_rmul repeat_tuple F.slot_int_index.lookup
      (call_meets F.slot_int_rmul (typeIs_int s k t) F.entry_int_rmul (F.args_int_rmul_2 _ _) (int_rmul_tuple k t l its.toArray n dd sl)
        ⟨ho, rfl, ⟨_, ho, rfl⟩, call_meets F.slot_tuple_mul ⟨_, ho, rfl⟩ F.entry_tuple_mul (F.args_tuple_mul_2 _ _) (tuple_mul1 l its.toArray n dd sl k t c0 c1) ⟨ho, ⟨.ref l, H, I, rfl, q1 hx⟩⟩⟩)
  · have hn : xs ≠ [] := fun z => hx (.inl z)
    have hk : k ≤ 0 := by
      apply Int.not_lt.mp
      intro hk
      exact hc ⟨hn, by have : k ≠ 1 := fun z => hx (.inr z); omega⟩
    have hi : its.toArray.isEmpty = false := by
      cases its with
      | nil => exact absurd (List.eq_nil_of_length_eq_zero hle.symm) hn
      | cons a b => rfl
    have c1 : (its.toArray.isEmpty || k == 1) = false := by
      rw [hi, Bool.false_or]
      exact beq_eq_false_iff_ne.mpr (by omega)
    have c2 : (decide (k ≤ 0) || its.toArray.isEmpty) = true := by rw [decide_eq_true hk]; rfl
    refine wpAny_binaryOp_repeat_ref (T := "tuple") (U := "int") (by decide) ⟨_, ho, rfl⟩ (fun s' => typeIs_int s' k t) noFill_tuple_mul F.fills_int_mul F.slot_int_rmul repeat_tuple F.slot_int_index.lookup
      (call_meets F.slot_int_rmul (typeIs_int s k t) F.entry_int_rmul (F.args_int_rmul_2 _ _) (int_rmul_tuple k t l its.toArray n dd sl)
        ⟨ho, rfl, ⟨_, ho, rfl⟩, call_meets F.slot_tuple_mul ⟨_, ho, rfl⟩ F.entry_tuple_mul (F.args_tuple_mul_2 _ _) (tuple_mul0 l its.toArray n dd sl k t c0 c1 c2) ⟨ho, ?_⟩⟩)
    refine ⟨.ref s.heap.objs.size, _, I.laid (t' := s.toks) (o := .tup []) (fun b ob q => Heap.get?_push_of_some _ q) (Nat.le_refl _) ?_, rfl, q2 hn hk _ (I.hok.fresh (Nat.le_refl _))⟩
    exact ⟨Nat.zero_le _, [], .nil, IsTup.new _ _⟩
@[simp] def fMulA : F2 := fun v w h Q => match v, w with
  | .int i, .int j => CMul i j ∧ Q (.int (i * j)) h
  | .tup xs, .int k => -1000 ≤ k ∧ k ≤ 1000 ∧ xs.length ≤ 1000 ∧ Q (.tup (List.replicate k.toNat xs).flatten) h
  | _, _ => False
theorem or_mul {X : Cx} : OpR X (binaryOp .Mult) (fun x y H Q => rI CMul (fun i j => .int (i * j)) x y H Q ∨ rRepA X.K x y H Q) := op_mul.or op_repA
theorem RVs.rep {K : PySem.W.Frag} {H : Hp} {h : Hv} {vs : List Val} {xs : List V} (r : RVs K H h vs xs) : ∀ k : Nat, RVs K H h (List.replicate k vs).flatten (List.replicate k xs).flatten
  | 0 => RVs.nil
  | k + 1 => by rw [List.replicate_succ, List.replicate_succ, List.flatten_cons, List.flatten_cons]; exact r.append (RVs.rep r k)
theorem ol_mul {K : PySem.W.Frag} : OpL K fMulA (fun x y H Q => rI CMul (fun i j => .int (i * j)) x y H Q ∨ rRepA K x y H Q) := fun v w x y h H Q' Q r rv rw' q c => by
  unfold fMulA at q
  split at q
  · rw [RV] at rv rw'; exact .inl ⟨_, _, rv, rw', q.1, c.val r rv_int q.2⟩
  · rename_i vs k
    have rv0 := rv
    rw [RV] at rv
    rw [RV] at rw'
    obtain ⟨a, xs, e1, n, ha, rs⟩ := rv
    obtain ⟨h1, h2, h3, q⟩ := q
    refine .inr ⟨a, k, xs, e1, rw', .of ha, h1, h2, by rw [← rs.len]; exact h3, fun hx => ?_, fun hx hk p e => ?_, fun hx hk p e => c.tup r (rs.rep _) e q⟩
    · rw [← e1]
      rcases hx with hx | hx
      · have : vs = [] := List.eq_nil_of_length_eq_zero (by rw [rs.len, hx]; rfl)
        subst this
        have : (List.replicate k.toNat ([] : List Val)).flatten = [] := by simp
        rw [this] at q
        exact c.val r rv0 q
      · subst hx
        simp only [Int.toNat_one, List.replicate_one, List.flatten_singleton] at q
        exact c.val r rv0 q
    · have : k.toNat = 0 := by omega
      rw [this] at q
      exact c.tup r RVs.nil e q
  · exact q.elim
theorem rev_pick (xs : Array Value) : ((List.range xs.size).filterMap fun (k : Nat) => xs[(((xs.size : Int) - 1) + (k : Int) * (-1)).toNat]?) = xs.toList.reverse := by
  have e : (fun (k : Nat) => xs[(((xs.size : Int) - 1) + (k : Int) * (-1)).toNat]?) = fun k => xs[xs.size - 1 - k]? := by
    funext k
    have : (((xs.size : Int) - 1) + (k : Int) * (-1)).toNat = xs.size - 1 - k := by omega
    rw [this]
  rw [e]
  have := PySem.W.krv_range xs.size
  have h2 : (List.range xs.size).filterMap (fun k => xs[xs.size - 1 - k]?) = ((List.range xs.size).map fun k => xs.size - 1 - k).filterMap (fun j => xs[j]?) := by
    rw [List.filterMap_map]; rfl
  rw [h2, this, List.filterMap_reverse, PySem.W.krv_all]
section
variable {prog : Program} {w : World} {A : Around} {E : Value → Shared → Prop} {s : Shared}
theorem getItem_tuple_rev {t sl : Addr} {items : Array Value} {vk : Value} {Q : Value → Shared → Prop} (ht : IsTup s.heap t items) (hs : s.heap.IsSliceOf sl .none .none vk) (pk : IsPart vk (some (-1)))
    (h : Q (.ref s.heap.objs.size) { s with heap := s.heap.push { cls := .type "tuple", data := .seq items.toList.reverse.toArray } })
    (hsz : items.size ≤ sizeLine) : wpAny (model prog w) A (getItem (.ref t) (.ref sl)) Q E s := by
  have htake : sizeOk (.seq items.toList.reverse.toArray) := by
    show items.toList.reverse.toArray.size ≤ sizeLine
    rw [List.size_toArray, List.length_reverse, Array.length_toList]
    omega
  obtain ⟨os, hos, hcs, hds⟩ := id hs
  have hTs : s.TypeIs (.ref sl) "slice" := ⟨os, hos, hcs⟩
  unfold getItem
  try with_reducible refine wpAny_holding ?_
  first | refine wpAny_bind (wpAny_pure ?_) | skip
  refine wpAny_bind (wpAny_sequenceKey ht.typeIs (by decide) ?_)
  refine wpAny_bind (wpAny_callSpecial?_slot (name := Str.ofString "__getitem__") ht.typeIs PyProof.Rows.slot_tuple_getitem
    (wpAny_call_entry PyProof.Rows.slot_tuple_getitem ht.typeIs entry_tuple_getitem ?_ (args_tuple_getitem _ _)))
  show wpAny _ _ (Builtin.Tuple.tupleItemsOf (.ref t) >>= _) _ _ s
  refine wpAny_bind (tupleItemsOf_ ht ?_)
  refine wpAny_bind (wpAny_typeOf hTs ?_)
  rw [if_pos (by decide)]
  have ap : ∀ {Q : Int × Int × Nat → Shared → Prop}, Q ((items.size : Int) - 1, -1, items.size) s → wpAny (model prog w) (A.under (.builtin "tuple.__getitem__" ⟨[.ref t, .ref sl], []⟩)) (Builtin.Slice.sliceApplied (.ref sl) (pure (items.size : Int))) Q E s := fun {Q} h => by
    unfold Builtin.Slice.sliceApplied Builtin.Slice.sliceFields
    refine wpAny_bind (wpAny_bind (wpAny_field hos hds (x := .none) rfl (wpAny_bind (wpAny_field hos hds (x := .none) rfl (wpAny_bind (wpAny_field hos hds (x := vk) rfl (wpAny_pure ?_)))))))
    refine wpAny_bind (HT.slicePart_ pk ?_)
    show wpAny _ _ (if ((-1 : Int) == 0) = true then _ else _) _ _ s
    rw [if_neg (by decide)]
    refine wpAny_bind (slicePart_none (wpAny_bind (slicePart_none (wpAny_bind (wpAny_pure ?_)))))
    show wpAny _ _ (pure ((items.size : Int) - 1, (-1 : Int), Builtin.Slice.slicePlaces ((items.size : Int) - 1) (-1) (-1))) _ _ s
    have e : Builtin.Slice.slicePlaces ((items.size : Int) - 1) (-1) (-1) = items.size := by
      unfold Builtin.Slice.slicePlaces
      have h1 : ¬ ((-1 : Int) > 0) := by decide
      rw [if_neg h1]
      by_cases h2 : (items.size : Int) - 1 > -1
      · rw [if_pos h2]
        have : ((items.size : Int) - 1 - -1 - 1) / (- -1) + 1 = (items.size : Int) := by
          rw [show (- -1 : Int) = 1 by decide, Int.ediv_one]
          omega
        rw [this]; omega
      · rw [if_neg h2]; omega
    rw [e]
    exact wpAny_pure h
  refine wpAny_bind ?_
  refine ap ?_
  have hno : ¬ ((((items.size : Int) - 1) == 0 && (-1 : Int) == 1 && items.size == items.size) = true) := by
    intro q
    rw [Bool.and_eq_true, Bool.and_eq_true] at q
    exact absurd q.1.2 (by decide)
  show wpAny _ _ (if ((((items.size : Int) - 1) == 0 && (-1 : Int) == 1 && items.size == items.size)) = true then _ else _) _ _ s
  rw [if_neg hno, rev_pick]
  first
    | exact wpAny_bind (m := Builtin.Tuple.tupleExact _) (wpAny_newObj_type (wpAny_pure ⟨_, rfl, wpAny_pure h⟩) htake)
    | exact wpAny_bind (m := Builtin.Tuple.tupleExact _) (wpAny_newObj_type (wpAny_bind (wpAny_pure (wpAny_pure ⟨_, rfl, wpAny_pure h⟩))) htake)
    | exact wpAny_bind (wpAny_bind (m := Builtin.Tuple.tupleExact _) (wpAny_newObj_type (wpAny_pure (wpAny_pure ⟨_, rfl, wpAny_pure h⟩)) htake))
    | exact wpAny_bind (wpAny_bind (m := Builtin.Tuple.tupleExact _) (wpAny_newObj_type (wpAny_pure ⟨_, rfl, wpAny_pure h⟩) htake))
end
def tRevA (K : PySem.W.Frag) (te : TE) : TE := fun σ H Q => te σ H fun x H1 => (∃ a xs, x = .ref a ∧ SqL K H1 a xs ∧ ∀ p, H1 p = none → Q (.ref p) (upd H1 p (.lst xs.reverse))) ∨ ∃ a xs, x = .ref a ∧ SqT K H1 a xs ∧ ∀ p, H1 p = none → Q (.ref p) (upd H1 p (.tup xs.reverse))
theorem pe_revA {X : Cx} {e : Expr} {te : TE} {k : Nat} {p1 p2 p3 pos : Pos} (he : PE X e te) : PE X (.Subscript e (.Slice none none (some (.UnaryOp .USub (.Constant (.int 1) k p1) p2)) p3) pos) (tRevA X.K te) := by
  refine ⟨fun pins s σ H Q I h => ?_⟩
  refine Subscript_ (thn (he.run pins s σ H _ I h) fun v s1 ⟨x, H1, I1, r1, q1⟩ => ?_)
  have hst : PO X (some (.UnaryOp .USub (.Constant (.int 1) k p1) p2)) (tPart (tUn (rU fun i => .int (-i)) (tC (.int 1)))) := po_some (pe_un un_neg pe_int)
  have hnone : ∀ {s : Shared} {H1 : Hp} {R : Value → Shared → Prop}, Inv X pins σ H1 s → (∀ s', Inv X pins σ H1 s' → R .none s') → wpAny (model X.prog X.w) X.A (evalPart none X.env) R X.xe s := fun {s H1 R} I h => by
    rw [evalPart_none]
    exact wpAny_pure (h s I)
  refine wpAny_Slice (hnone I1 fun s2 I2 => hnone I2 fun s3 I3 => ?_)
  refine thn (hst.run pins s3 σ H1 (fun o H4 => o = some (-1) ∧ H4 = H1) I3 ⟨1, rfl, -1, rfl, rfl, rfl⟩) fun vs s4 ⟨o, H4, I4, ps, eo, e4⟩ => ?_
  subst eo e4
  have I5 : Inv X pins σ H4 { s4 with heap := s4.heap.push { cls := .type "slice", data := .fields #[.none, .none, vs] } } := I4.kept (t' := s4.toks) fun b ob q => Heap.get?_push_of_some _ q
  rcases q1 with ⟨a, xs, ex, hx, q⟩ | ⟨a, xs, ex, hx, q⟩
  · subst ex
    cases r1
    obtain ⟨its, r, ht, hz⟩ := I5.list hx
    have hlen := r.length
    show wpAny (model X.prog X.w) X.A (subscriptTail e (.Slice none none (some (.UnaryOp .USub (.Constant (.int 1) k p1) p2)) p3) (.ref a) (.ref s4.heap.objs.size)) (EP X pins σ Q) X.xe { s4 with heap := s4.heap.push { cls := .type "slice", data := .fields #[.none, .none, vs] } }
    refine tail_any (ops := [.ref a, .ref s4.heap.objs.size]) ht.isList.typeIs (PySem.slot_list_getitem.lookup) ?_ (by with_unfolding_all rfl)
    refine wpAny_getItem_list_slice ht.isList (Heap.IsSliceOf.new _ .none .none vs) .none .none ps (by decide) ?_ (by rw [List.size_toArray]; omega)
    rw [PySem.W.krv_pick]
    refine ⟨.ref _, _, I5.laid (t' := s4.toks) (o := .lst xs.reverse) (fun b ob q => Heap.get?_push_of_some _ q) (Nat.le_refl _) ?_, rfl, q _ (I5.hok.fresh (Nat.le_refl _))⟩
    exact ⟨by rw [List.length_reverse]; exact hz, _, 0, r.reverse, Heap.get?_push_size _ rfl⟩
  · subst ex
    cases r1
    obtain ⟨its, r, ht, hz⟩ := I5.tuple hx
    have hlen := r.length
    show wpAny (model X.prog X.w) X.A (subscriptTail e (.Slice none none (some (.UnaryOp .USub (.Constant (.int 1) k p1) p2)) p3) (.ref a) (.ref s4.heap.objs.size)) (EP X pins σ Q) X.xe { s4 with heap := s4.heap.push { cls := .type "slice", data := .fields #[.none, .none, vs] } }
    refine tail_any (ops := [.ref a, .ref s4.heap.objs.size]) ht.typeIs (PyProof.Rows.slot_tuple_getitem.lookup) ?_ (by with_unfolding_all rfl)
    refine getItem_tuple_rev ht (Heap.IsSliceOf.new _ .none .none vs) ps ?_ (by rw [List.size_toArray]; omega)
    refine ⟨.ref _, _, I5.laid (t' := s4.toks) (o := .tup xs.reverse) (fun b ob q => Heap.get?_push_of_some _ q) (Nat.le_refl _) ?_, rfl, q _ (I5.hok.fresh (Nat.le_refl _))⟩
    exact ⟨by rw [List.length_reverse]; exact hz, _, r.reverse, IsTup.new _ _⟩
@[simp] def dRev (d : ED) : ED := fun ρ h Q E => d ρ h (fun v h1 => match v with
  | .tup vs => Q (.tup vs.reverse) h1
  | .tpo vs => Q (.tup vs.reverse) h1
  | v => match listOf v h1 with
    | some vs => Q (.lst vs.reverse) h1
    | none => False) E
theorem de_rev {X : Cx} {B : Bs} {e : Expr} {d : ED} {k : Nat} {p1 p2 p3 pos : Pos} (he : DE X B e d) : DE X B (.Subscript e (.Slice none none (some (.UnaryOp .USub (.Constant (.int 1) k p1) p2)) p3) pos) (dRev d) :=
  PEi (pe_revA he) fun σ H Q ⟨ρ, h, Q', S, q, C⟩ => ⟨ρ, h, _, S, q, fun v h1 x H1 q1 s1 rv1 r1 => by
    have C1 := C.trans s1
    split at q1
    · rename_i vs
      rw [RV] at rv1
      obtain ⟨a, xs, e1, n, ha, rs⟩ := rv1
      exact .inr ⟨a, xs, e1, .of ha, fun p e => C1.tup r1 rs.reverse e q1⟩
    · obtain ⟨a, xs, e1, ha, rs⟩ := tpo_sqt rv1
      exact .inr ⟨a, xs, e1, ha, fun p e => C1.tup r1 rs.reverse e q1⟩
    · split at q1
      · rename_i vs ev
        obtain ⟨a, xs, e1, ha, rs⟩ := listOf_rel r1 rv1 ev
        exact .inl ⟨a, xs, e1, .of ha, fun p e => C1.lst r1 rs.reverse e q1⟩
      · exact q1.elim⟩
end DL
namespace DL
open PySem PySem.Spec PyProof.Rows L2
theorem bt_len : bootBuiltins "len" = some (.builtin "len") := by decide +kernel
theorem bt_all : bootBuiltins "all" = some (.builtin "all") := by decide +kernel
theorem bt_sum : bootBuiltins "sum" = some (.builtin "sum") := by decide +kernel
theorem bt_sorted : bootBuiltins "sorted" = some (.builtin "sorted") := by decide +kernel
theorem bt_isinstance : bootBuiltins "isinstance" = some (.builtin "isinstance") := by decide +kernel
theorem bt_min : bootBuiltins "min" = some (.builtin "min") := by decide +kernel
theorem bt_max : bootBuiltins "max" = some (.builtin "max") := by decide +kernel
theorem bt_tuple : bootBuiltins "tuple" = some (.type "tuple") := by decide +kernel
theorem bt_list : bootBuiltins "list" = some (.type "list") := by decide +kernel
theorem bt_int : bootBuiltins "int" = some (.type "int") := by decide +kernel
theorem bt_bool : bootBuiltins "bool" = some (.type "bool") := by decide +kernel
theorem bt_str : bootBuiltins "str" = some (.type "str") := by decide +kernel
section
variable {X : Cx} {pos : Pos}
theorem gt_name {i : Nat} {x : Str} (hN : X.N.Nodup) (hi : X.N[i]? = some x) (hx : Loc X.env.scope x) (hf : X.fn x = true ∨ X.env.scope.names.lookup x = some .local := by first | exact .inl rfl | exact .inr rfl | assumption) : PG X (.Name x pos) (gT X.K (.nm i)) := by
  rw [gT]; exact pg_name hN hi hx hf
theorem gts_nil : PGs X [] (gTs X.K []) := by rw [gTs]; exact pgs_nil
theorem gts_cons {e : Expr} {es : List Expr} {t : Tg} {ts : List Tg} (h1 : PG X e (gT X.K t)) (h2 : PGs X es (gTs X.K ts))
    (hs : (assignEach (e :: es) X.env).map (·.2) = assign e X.env :: (assignEach es X.env).map (·.2) := by rfl) : PGs X (e :: es) (gTs X.K (t :: ts)) := by
  rw [gTs]; exact pgs_cons h1 h2 hs
theorem gt_tup {es : List Expr} {k : Nat} {ts : List Tg} (hc : X.calm = true) (h : PGs X es (gTs X.K ts))
    (hn : (assignEach es X.env).length = ts.length := by rfl) (hst : (assignEach es X.env).findIdx? (·.1) = none := by rfl) : PG X (.Tuple es k pos) (gT X.K (.tp ts)) := by
  rw [gT]; exact pg_tup hc h hn hst
end
def FnR (P : Program) (w : World) (K : PySem.W.Frag) (mg : Str → Option Value) (base : Heap) (k : Nat) (x : Str) (n : Nat) (fs : SpF) : Prop :=
  ∃ (f : Addr) (fd : FuncData) (ps : List Str), FnOk P w K mg base (L2.CX P w) k f fd ps (spA K mg n fs) ∧ mg x = some (.ref f) ∧ PySem.W.keepIn K (.ref f) = true ∧ Binds K fd ps []
theorem FnR.at {P : Program} {w : World} {K : PySem.W.Frag} {mg : Str → Option Value} {base : Heap} {k j : Nat} {x : Str} {n : Nat} {fs : SpF} {A : Around} (F : FnR P w K mg base k x n fs) (hr : Room j A) (h : k ≤ j := by decide) : Fn P w K mg base A x n fs :=
  let ⟨f, fd, ps, a, b, c, d⟩ := F; ⟨k, f, fd, ps, a, hr.mono h, b, c, d⟩
def FnKR (P : Program) (w : World) (K : PySem.W.Frag) (mg : Str → Option Value) (base : Heap) (k : Nat) (x : Str) (np : Nat) (ks : List Str) (fs : SpF) : Prop :=
  ∃ (f : Addr) (fd : FuncData) (ps : List Str), FnOk P w K mg base (L2.CX P w) k f fd ps (spA K mg (np + ks.length) fs) ∧ mg x = some (.ref f) ∧ PySem.W.keepIn K (.ref f) = true ∧ KBinds K fd ps ks (gk np ks.length) (gk np ks.length)
theorem FnKR.at {P : Program} {w : World} {K : PySem.W.Frag} {mg : Str → Option Value} {base : Heap} {k j : Nat} {x : Str} {np : Nat} {ks : List Str} {fs : SpF} {A : Around} (F : FnKR P w K mg base k x np ks fs) (hr : Room j A) (h : k ≤ j := by decide) : FnK P w K mg base A x np ks fs :=
  let ⟨f, fd, ps, a, b, c, d⟩ := F; ⟨k, f, fd, ps, a, hr.mono h, b, c, d⟩
end DL
namespace DL
open PySem PySem.Spec PyProof.Rows L2
section
variable {X : Cx} {B : Bs}
end
section
variable {α : Type} (le : α → α → Bool)
def insB (x : α) : List α → List α
  | [] => [x]
  | y :: r => if le x y = true then x :: y :: r else y :: insB x r
def srtB : List α → List α
  | [] => []
  | x :: r => insB le x (srtB r)
variable {le}
theorem insB_perm (x : α) : ∀ l, (insB le x l).Perm (x :: l)
  | [] => List.Perm.refl _
  | y :: r => by
    unfold insB
    split
    · exact List.Perm.refl _
    · exact ((insB_perm x r).cons y).trans (List.Perm.swap x y r)
theorem srtB_perm : ∀ l : List α, (srtB le l).Perm l
  | [] => List.Perm.refl _
  | x :: r => (insB_perm x (srtB le r)).trans ((srtB_perm r).cons x)
theorem insB_srt (tot : ∀ a b, le a b = true ∨ le b a = true) (tr : ∀ a b c, le a b = true → le b c = true → le a c = true) (x : α) : ∀ {l}, l.Pairwise (fun a b => le a b = true) → (insB le x l).Pairwise (fun a b => le a b = true)
  | [], _ => by unfold insB; simp
  | y :: r, h => by
    rw [List.pairwise_cons] at h
    unfold insB
    split
    · rename_i hxy
      rw [List.pairwise_cons]
      refine ⟨fun z hz => ?_, List.pairwise_cons.mpr h⟩
      rcases List.mem_cons.mp hz with e | e
      · rw [e]; exact hxy
      · exact tr x y z hxy (h.1 z e)
    · rename_i hxy
      have hyx := (tot y x).resolve_right hxy
      rw [List.pairwise_cons]
      refine ⟨fun z hz => ?_, insB_srt tot tr x h.2⟩
      rcases List.mem_cons.mp ((insB_perm x r).subset hz) with e | e
      · rw [e]; exact hyx
      · exact h.1 z e
theorem srtB_srt (tot : ∀ a b, le a b = true ∨ le b a = true) (tr : ∀ a b c, le a b = true → le b c = true → le a c = true) : ∀ l : List α, (srtB le l).Pairwise (fun a b => le a b = true)
  | [] => List.Pairwise.nil
  | x :: r => insB_srt tot tr x (srtB_srt tot tr r)
theorem srt_unique (asym : ∀ a b, le a b = true → le b a = true → a = b) : ∀ {l m : List α}, l.Perm m → l.Pairwise (fun a b => le a b = true) → m.Pairwise (fun a b => le a b = true) → l = m
  | [], m, p, _, _ => (List.Perm.nil_eq p)
  | x :: r, [], p, _, _ => absurd p.length_eq (by simp)
  | x :: r, y :: t, p, h1, h2 => by
    rw [List.pairwise_cons] at h1 h2
    have hx : x = y := by
      have m1 : x ∈ y :: t := p.subset List.mem_cons_self
      have m2 : y ∈ x :: r := p.symm.subset List.mem_cons_self
      rcases List.mem_cons.mp m1 with e | e
      · exact e
      · rcases List.mem_cons.mp m2 with e2 | e2
        · exact e2.symm
        · exact asym x y (h1.1 y e2) (h2.1 x e)
    subst hx
    rw [srt_unique asym ((List.perm_cons x).mp p) h1.2 h2.2]
theorem srtB_eq (tot : ∀ a b, le a b = true ∨ le b a = true) (tr : ∀ a b c, le a b = true → le b c = true → le a c = true) (asym : ∀ a b, le a b = true → le b a = true → a = b) {l m : List α} (p : l.Perm m) (h : l.Pairwise (fun a b => le a b = true)) : l = srtB le m :=
  srt_unique asym (p.trans (srtB_perm m).symm) h (srtB_srt tot tr m)
end
def leI (a b : Int) : Bool := decide (a ≤ b)
def sortI (ns : List Int) : List Int := srtB leI ns
theorem leI_tot (a b : Int) : leI a b = true ∨ leI b a = true := by unfold leI; simp; omega
theorem leI_tr (a b c : Int) (h : leI a b = true) (h' : leI b c = true) : leI a c = true := by unfold leI at *; simp at *; omega
theorem leI_as (a b : Int) (h : leI a b = true) (h' : leI b a = true) : a = b := by unfold leI at *; simp at *; omega
theorem sortI_eq {l m : List Int} (p : l.Perm m) (h : l.Pairwise (· ≤ ·)) : l = sortI m := srtB_eq leI_tot leI_tr leI_as p (h.imp fun h => decide_eq_true h)
theorem sortI_perm (ns : List Int) : (sortI ns).Perm ns := srtB_perm ns
def leS (a b : Str) : Bool := !decide (b.cps.toList < a.cps.toList)
def sortZ (zs : List Str) : List Str := srtB leS zs
theorem leS_iff {a b : Str} : leS a b = true ↔ ¬ b.cps.toList < a.cps.toList := by unfold leS; simp [-Array.lt_toList]
theorem str_ext {a b : Str} (h : a.cps.toList = b.cps.toList) : a = b := by
  obtain ⟨⟨l⟩⟩ := a
  obtain ⟨⟨m⟩⟩ := b
  simp at h
  rw [h]
theorem leS_tot (a b : Str) : leS a b = true ∨ leS b a = true := by
  rw [leS_iff, leS_iff]
  by_cases h : b.cps.toList < a.cps.toList
  · exact .inr (List.lt_asymm h)
  · exact .inl h
theorem leS_tr (a b c : Str) (h : leS a b = true) (h' : leS b c = true) : leS a c = true := by
  rw [leS_iff] at *
  exact List.not_lt.mpr (List.le_trans (List.not_lt.mp h) (List.not_lt.mp h'))
theorem leS_as (a b : Str) (h : leS a b = true) (h' : leS b a = true) : a = b := by
  rw [leS_iff] at *
  exact str_ext (List.le_antisymm (List.not_lt.mp h) (List.not_lt.mp h'))
theorem ltCps_iff (a b : List Nat) : ltCps a b = true ↔ a < b := by
  rw [PyProof.Rows.ltCps_eq, decide_eq_true_eq]
theorem risingS_pw : ∀ {zs : List Str} {p : Str}, risingS p zs = true → (p :: zs).Pairwise fun a b => leS a b = true
  | [], p, _ => by simp
  | x :: r, p, h => by
    unfold risingS at h
    rw [Bool.and_eq_true] at h
    have hpx : leS p x = true := by
      rw [leS_iff, ← ltCps_iff]
      simpa using h.1
    have i := risingS_pw h.2
    rw [List.pairwise_cons]
    refine ⟨fun z hz => ?_, i⟩
    rcases List.mem_cons.mp hz with e | e
    · rw [e]; exact hpx
    · exact leS_tr p x z hpx ((List.pairwise_cons.mp i).1 z e)
theorem sortZ_eq {l m : List Str} (p : l.Perm m) (h : sortedS l = true) : l = sortZ m := by
  refine srtB_eq leS_tot leS_tr leS_as p ?_
  cases l with
  | nil => exact List.Pairwise.nil
  | cons x r => exact risingS_pw h
theorem sortZ_perm (ns : List Str) : (sortZ ns).Perm ns := srtB_perm ns
@[simp] def strsOf : List Val → Option (List Str)
  | [] => some []
  | .str z :: r => (strsOf r).map (z :: ·)
  | _ => none
theorem strsOf_eq : ∀ {vs : List Val} {zs : List Str}, strsOf vs = some zs → vs = zs.map .str
  | [], zs, e => by cases e; rfl
  | v :: r, zs, e => by
    cases v with
    | str z =>
      simp only [strsOf, Option.map_eq_some_iff] at e
      obtain ⟨ys, e1, rfl⟩ := e
      rw [strsOf_eq e1]; rfl
    | _ => simp [strsOf] at e
theorem strsOf_map (zs : List Str) : strsOf (zs.map Val.str) = some zs := by
  induction zs with
  | nil => rfl
  | cons z r ih => simp [strsOf, ih]
def fSorted : FA := fun vs h Q => match vs with
  | [v] => match (listOf v h).bind intsOf, (listOf v h).bind strsOf with
    | some ns, _ => Q (.lst ((sortI ns).map .int)) h
    | none, some zs => zs.length < 64 ∧ Q (.lst ((sortZ zs).map .str)) h
    | none, none => False
  | _ => False
def rSortedAll (K : PySem.W.Frag) : List V → Hp → VK → Prop := fun vs H Q => rSortedI K vs H Q ∨ rSortedS K vs H Q
section
variable {X : Cx} {K : PySem.W.Frag}
theorem CallR.or {f : Value} {r r' : List V → Hp → VK → Prop} (a : CallR X f r) (b : CallR X f r') : CallR X f (fun vs H Q => r vs H Q ∨ r' vs H Q) := by
  intro pins s σ H vs us Q I rv h
  rcases h with h | h
  · exact a pins s σ H vs us Q I rv h
  · exact b pins s σ H vs us Q I rv h
theorem cr_sortedAll : CallR X (.builtin "sorted") (rSortedAll X.K) := CallR.or cr_sortedI cr_sortedS
theorem cl_sorted : CaL K fSorted (rSortedAll K) := fun vs xs h H Q' Q r rs q c => by
  unfold fSorted at q
  split at q
  · obtain ⟨x, e, rv⟩ := rvs1 rs
    split at q
    · rename_i ns eb
      obtain ⟨ws, e1, e2⟩ := Option.bind_eq_some_iff.mp ‹_›
      obtain ⟨a, ys, e3, ha, rss⟩ := listOf_rel r rv e1
      rw [intsOf_eq e2] at rss
      rw [rss.ints] at ha
      refine .inl ⟨a, ns, by rw [e, e3], .of ha, fun ns' p pm pw hp => ?_⟩
      rw [sortI_eq pm pw]
      exact c.lst r (RVs.ofInts _) hp q
    · rename_i zs e0 eb
      obtain ⟨ws, e1, e2⟩ := Option.bind_eq_some_iff.mp eb
      obtain ⟨a, ys, e3, ha, rss⟩ := listOf_rel r rv e1
      rw [strsOf_eq e2] at rss
      rw [rss.strs] at ha
      refine .inr ⟨a, zs, by rw [e, e3], .of ha, q.1, fun ns' p pm pw hp => ?_⟩
      rw [sortZ_eq pm pw]
      exact c.lst r (RVs.ofStrs _) hp q.2
    · exact q.elim
  · exact q.elim
def fMin2 : FA := fun vs h Q => match vs with
  | [.int i, .int j] => Q (.int (if j < i then j else i)) h
  | _ => False
theorem cl_min2 : CaL K fMin2 (fun xs H Q => ∃ i j, xs = [.int i, .int j] ∧ Q (.int (if j < i then j else i)) H) := fun vs xs h H Q' Q r rs q c => by
  unfold fMin2 at q
  split at q
  · rename_i i j
    have : xs = [.int i, .int j] := RVs.ints (ns := [i, j]) rs
    exact ⟨i, j, this, c.val r rv_int q⟩
  · exact q.elim
end
def metI (ns : List Int) : List Int := firstMet (fun i => ns.getD i 0) ns.length
def tLenSetG (K : PySem.W.Frag) (ta : TE) : TE := fun σ H Q => ta σ H fun x H1 => ∃ (l : Addr) (ns : List Int), x = .ref l ∧ SqL K H1 l (ns.map V.int) ∧ ns.length ≤ 4000 ∧ Q (.int ((metI ns).length : Nat)) H1
theorem pe_lenSetG {X : Cx} {a : Expr} {ta : TE} {p p2 q pos : Pos} (hg : Gl X "len") (hm : X.mg "len" = none) (hg2 : Gl X "set") (hm2 : X.mg "set" = none) (ha : PE X a ta) (hc : X.calm = true := by rfl)
    (na : starEach [a] X.env = (false, eval a X.env) :: starEach [] X.env := by rfl) : PE X (.Call (.Name "len" p) [.Call (.Name "set" p2) [a] [] q] [] pos) (tLenSetG X.K ta) := by
  refine ⟨fun pins s σ H Q I h => ?_⟩
  refine Call_ (ld_blt I hg hm boot_len ?_)
  refine PyProof.Rows.callWith_builtin1 (PyProof.Rows.args_cons ?_ rfl) rfl rfl
  refine Call_ (ld_blt I hg2 hm2 boot_set ?_)
  refine PyProof.Rows.callWith_type1 (PyProof.Rows.args_cons (thn (ha.run pins s σ H _ I h) fun v s1 ⟨x, H1, I1, r1, q1⟩ => PyProof.Rows.args_nil ?_) na) na rfl
  obtain ⟨l, ns, rfl, hq, hl, q1⟩ := q1
  cases r1
  obtain ⟨its, r, pl, hz⟩ := I1.list hq
  have hlen : its.toArray.size = ns.length := by rw [List.size_toArray, ← r.length, List.length_map]
  refine call_set_list (I1.ok.hd hc) pl.isList (by simpa using RZ.intsAre_vals r) (by rw [hlen]; unfold scanBound; omega) fun h' tk hS hk => ?_
  refine PyProof.Rows.args_nil ?_
  rw [hlen] at hS
  obtain ⟨o, es, ep, t, ho, hex, hd, _, _, _, hf, hn⟩ := hS
  have I2 : Inv X pins σ H1 { s1 with heap := h', toks := tk } := I1.kept fun b o e => hk b o (Heap.lt_size e) e
  have hle : (metI ns).length ≤ ns.length := firstMet_length_le _ _
  exact call_len_set ho hex hd hf (by rw [hn]; unfold metI at hle; omega) ⟨.int ((metI ns).length : Nat), H1, I2.tok _, ⟨_, by rw [hn]; rfl⟩, q1⟩
def dLenSet (de : ED) : ED := fun ρ h Q E => de ρ h (fun v h1 => match (listOf v h1).bind intsOf with
  | some ns => ns.length ≤ 4000 ∧ Q (.int ((metI ns).length : Nat)) h1
  | none => False) E
theorem de_lenSet {X : Cx} {B : Bs} {a : Expr} {da : ED} {p p2 q pos : Pos} (hg : Gl X "len") (hm : X.mg "len" = none) (hg2 : Gl X "set") (hm2 : X.mg "set" = none) (ha : DE X B a da) (hc : X.calm = true := by rfl)
    (na : starEach [a] X.env = (false, eval a X.env) :: starEach [] X.env := by rfl) : DE X B (.Call (.Name "len" p) [.Call (.Name "set" p2) [a] [] q] [] pos) (dLenSet da) :=
  PEi (pe_lenSetG hg hm hg2 hm2 ha hc na) fun σ H Q ⟨ρ, h, Q', S, q, C⟩ => ⟨ρ, h, _, S, q, fun v h1 x H1 q1 s1 rv1 r1 => by
    split at q1
    · rename_i ns eb
      obtain ⟨ws, e1, e2⟩ := Option.bind_eq_some_iff.mp eb
      obtain ⟨a, ys, e3, ha, rss⟩ := listOf_rel r1 rv1 e1
      rw [intsOf_eq e2] at rss
      rw [rss.ints] at ha
      exact ⟨a, ns, e3, .of ha, q1.1, (C.trans s1).val r1 rv_int q1.2⟩
    · exact q1.elim⟩
end DL
namespace PySem
set_option maxHeartbeats 1000000 in
theorem meets_enumerate_new1 {v : Value} {o : Obj} {H : Heap → Prop} (B : Begins v o H) :
    Meets (Builtin.«enumerate.__new__» ⟨[.type "enumerate", v], []⟩) (fun _ R s => H s.heap ∧
      R (.ok (.ret (.ref (s.heap.push o).objs.size))) { s with heap := (s.heap.push o).push { cls := .type "enumerate", data := .fields #[.none, .bool false, .ref s.heap.objs.size, rawInt 0, .none, .none] } }) :=
  .of_wp fun prog w A R s h => by
    obtain ⟨hp, g, d, tk, os⟩ := s; obtain ⟨h1, h⟩ := h
    have hsub := sub_enumerate
    have q1 : ∀ {A' : Around} {E : Value → Shared → Prop} {Q : Value → Shared → Prop}, Q (.ref hp.objs.size) ⟨hp.push o, g, d, tk, os⟩ → wpAny (model prog w) A' (pyIter v) Q E ⟨hp, g, d, tk, os⟩ :=
      fun q => B.iter prog w _ _ ⟨hp, g, d, tk, os⟩ _ h1 q
    wp_walk using q1
    refine wpAny_stack_any fun st => wpAny_pure ?_
    split
    · rename_i c _ _ _ _ _
      cases (c == Value.type "enumerate")
      · wp_walk using q1
        exact ⟨_, rfl, h⟩
      · wp_walk using q1
        exact ⟨_, rfl, h⟩
    · wp_walk using q1
      exact ⟨_, rfl, h⟩
theorem enum_begins1 {prog : Program} {w : World} {A : Around} {E : Value → Shared → Prop} {s : Shared} {v : Value} {o : Obj} {H : Heap → Prop} {Q : Value → Shared → Prop} (B : Begins v o H) (h1 : H s.heap)
    (h : ∀ h', IsEnum h' (s.heap.objs.size + 1) s.heap.objs.size 0 .none → h'.get? s.heap.objs.size = some o → h'.objs.size = s.heap.objs.size + 2 →
      (∀ b o, s.heap.get? b = some o → h'.get? b = some o) → Q (.ref (s.heap.objs.size + 1)) { s with heap := h' }) :
    wpAny (model prog w) A (call (.type "enumerate") [v]) Q E s := by
  refine callType_new F.called_enumerate (by decide) (F.typeCall_enumerate_1 _) (F.newCall_enumerate_1 _) (fun obj => F.args_object_init_2 obj _) F.entry_enumerate_new
    (meets_enumerate_new1 B) ⟨h1, ?_⟩
  have hz : (s.heap.push o).objs.size = s.heap.objs.size + 1 := Heap.size_push ..
  show _ ∧ _
  rw [hz]
  have he : IsEnum ((s.heap.push o).push { cls := .type "enumerate", data := .fields #[.none, .bool false, .ref s.heap.objs.size, rawInt 0, .none, .none] }) (s.heap.objs.size + 1) s.heap.objs.size 0 .none := by
    have := Heap.get?_push_size (s.heap.push o) (o := { cls := .type "enumerate", data := .fields #[.none, .bool false, .ref s.heap.objs.size, rawInt 0, .none, .none] }) rfl
    rw [hz] at this; exact this
  refine ⟨⟨_, he, rfl⟩, h _ he (Heap.get?_push_of_some _ (Heap.get?_push_size _ B.free)) (by rw [Heap.size_push, hz]) fun b o x => Heap.get?_push_of_some _ (Heap.get?_push_of_some _ x)⟩
end PySem
namespace DL
open PySem PySem.Spec PyProof.Rows L2
def IteT (K : PySem.W.Frag) (a : Addr) : It :=
  ⟨fun i H => ∃ (xs : List V) (x : V), SqT K H a xs ∧ xs[i]? = some x, fun i H v H' => ∃ T x, v = .ref T ∧ H T = none ∧ H' = upd H T (.tup [.int (i : Nat), x]) ∧ ∀ xs, SqT K H a xs → xs[i]? = some x, fun i H => ∃ xs : List V, SqT K H a xs ∧ xs.length = i⟩
theorem turn_enumT {P : Program} {w : World} {K : PySem.W.Frag} {elts : List Expr} {kk : Nat} {tpos : Pos} (a e it : Addr) :
    Turn P w K (.Tuple elts kk tpos) (IteT K a) [e, it] e (fun i h => (∃ old, IsEnum h e it ((i : Nat) : Int) old) ∧ h.IsTupleIter it a i ∧ e ≠ it ∧ a ≠ it ∧ a ≠ e) where
  mem := by simp
  obj := fun i h st b hb => by
    obtain ⟨⟨old, he⟩, ⟨o, ho, hc, hd⟩, _⟩ := st
    have e' : b = e ∨ b = it := by simpa using hb
    rcases e' with z | z
    · rw [z]; exact ⟨_, he, fun v q => nomatch q⟩
    · rw [z]; exact ⟨o, ho, fun v q => by rw [hd] at q; cases q⟩
  keep := fun i h h' st k => let ⟨⟨old, he⟩, hi, hne⟩ := st; ⟨⟨old, k e (by simp) _ he⟩, hi.at fun o q => k it (by simp) o q, hne⟩
  item := by
    intro X hP hw hK hc i pins s σ H E I hf st hg
    subst hP hw hK
    obtain ⟨⟨old, he⟩, hit, hne, ha1, ha2⟩ := st
    obtain ⟨xs, x, hq, hx⟩ := hg
    obtain ⟨its, rv, p, hz⟩ := I.tuple hq
    obtain ⟨u, hu, ru⟩ := rv.get hx
    have hel : e < s.heap.objs.size := Heap.lt_size he
    have hil : it < s.heap.objs.size := by obtain ⟨_, q, _⟩ := hit; exact Heap.lt_size q
    have pt : s.heap.IsTuple a its.toArray := p
    have hh1 : X.A.in1.handled = none := I.ok.hd hc
    have hi' : i < its.toArray.size := by
      obtain ⟨hlt, _⟩ := List.getElem?_eq_some_iff.mp hu
      simpa using hlt
    refine wpAny_pyNext_enum_itemD (Draws.tuple hh1 it a ha1 its.toArray) he ⟨hit, pt⟩ hi' hne (by simp; exact ⟨hne, ha2.symm⟩) fun x' h' tk hP ho hst hT hsz hk => ?_
    have ex : x' = u := by
      have : its.toArray[i]? = some u := by simpa using hu
      rw [this] at hP
      exact (Option.some.inj hP).symm
    subst ex
    refine ⟨_, rfl, wpAny_letOwnedTupleGo_enum (s := { s with heap := h', toks := tk + 1 }) ho fun h'' he' sb => ?_⟩
    have hT2 : h''.get? s.heap.objs.size = some { cls := .type "tuple", data := .seq #[.int i tk, x'] } := (sb.2 _ (Nat.ne_of_gt hel)).trans hT
    have new : ObjOk X.prog X.w (upd H s.heap.objs.size (.tup [.int (i : Nat), x])) h'' s.heap.objs.size (.tup [.int (i : Nat), x]) :=
      ⟨by show 2 ≤ sizeLine; decide, [.int i tk, x'], .cons ⟨_, rfl⟩ (.cons ru .nil), ⟨_, hT2, rfl, _, rfl⟩⟩
    have I1 : Inv X pins σ (upd H s.heap.objs.size (.tup [.int (i : Nat), x])) { s with heap := h'', toks := tk + 1 } :=
      I.turnedNew (ch := [e, it]) (fun b ob hb q => (sb.2 b (fun z => hb (by simp [z]))).trans (hk b ob (fun z => hb (by simp [z])) (fun z => hb (by simp [z])) q)) hf (Nat.le_refl _) new
    refine ⟨.ref s.heap.objs.size, _, I1, rfl, ⟨_, x, rfl, I.hok.fresh (Nat.le_refl _), rfl, fun ys hy => by rw [I.tuple_inj hy hq]; exact hx⟩, ⟨⟨x', ?_⟩, hst.1.at fun o q => (sb.2 it (Ne.symm hne)).trans q, hne, ha1, ha2⟩, fun b hb => ?_⟩
    · have e1 : ((i + 1 : Nat) : Int) = (i : Int) + 1 := by omega
      rw [e1]; exact he'
    · have hb' : b < s.heap.objs.size := by
        have e' : b = e ∨ b = it := by simpa using hb
        rcases e' with z | z
        · rw [z]; exact hel
        · rw [z]; exact hil
      rw [upd_ne (Nat.ne_of_lt hb')]
      exact (hf b hb).1
  done := by
    intro X hP hw hK hc i pins s σ H E I hf st hg
    subst hP hw hK
    obtain ⟨⟨old, he⟩, hit, hne, ha1, ha2⟩ := st
    obtain ⟨xs, hq, hx⟩ := hg
    obtain ⟨its, rv, p, hz⟩ := I.tuple hq
    obtain ⟨f0, f1, f2, f3, f4, f5⟩ := hf it (by simp)
    have hl := rv.length
    have pt : s.heap.IsTuple a its.toArray := p
    have hh1 : X.A.in1.handled = none := I.ok.hd hc
    have hsz : its.toArray.size = i := by simp; omega
    have st' : (fun i h => h.IsTupleIter it a i ∧ h.IsTuple a its.toArray) its.toArray.size s.heap := by rw [hsz]; exact ⟨hit, pt⟩
    exact wpAny_pyNext_enum_endD (Draws.tuple hh1 it a ha1 its.toArray) he st' fun h' eb => ⟨rfl, I.turned (t' := s.toks) (fun b o hb q => eb b o hb q) f0 f1 f3 f4 f5⟩
  self := fun A i s Q E st h => let ⟨⟨_, he⟩, _⟩ := st; wpAny_pyIter_enum he h
def iEnumA (K : PySem.W.Frag) (ta : TA) : TI := fun σ H R => ta σ H fun vs H1 => ∃ a xs, vs = [.ref a] ∧ ((SqL K H1 a xs ∧ R (Ite K a) H1) ∨ (SqT K H1 a xs ∧ R (IteT K a) H1))
theorem pi_enumA {X : Cx} {e : Expr} {ta : TA} {p pos tpos : Pos} {elts : List Expr} {kk : Nat} (hg : Gl X "enumerate") (hm : X.mg "enumerate" = none) (ha : PA X [e] ta) (hs : starEach [e] X.env = [(false, eval e X.env)] := by rfl) :
    PI X (.Tuple elts kk tpos) (.Call (.Name "enumerate" p) [e] [] pos) (iEnumA X.K ta) := by
  refine ⟨fun pins s σ H R I h => ?_⟩
  refine Call_ (ld_blt I hg hm boot_enumerate (PyProof.Rows.callWith_type1 (thn (ha.run pos pins s σ H _ I h) fun us s1 ⟨vs, H1, I1, r1, q1⟩ => ?_) hs rfl))
  obtain ⟨a, xs, ex, q1⟩ := q1
  subst ex
  cases r1 with
  | cons r rr =>
    cases rr
    cases r
    have fp : ∀ b ∈ [s1.heap.objs.size + 1, s1.heap.objs.size], FpOk X pins H1 b := fun b hb => by
      have e' : b = s1.heap.objs.size + 1 ∨ b = s1.heap.objs.size := by simpa using hb
      have hle : s1.heap.objs.size ≤ b := by
        rcases e' with z | z
        · rw [z]; exact Nat.le_add_right _ _
        · rw [z]; exact Nat.le_refl _
      exact I1.fpOk hle (I1.hok.fresh hle)
    rcases q1 with ⟨hq, q⟩ | ⟨hq, q⟩
    · obtain ⟨its, rv, p', hz⟩ := I1.list hq
      refine call_enumerate_list p'.isList fun h' he hit hsz hk => wpAny_pyIter_enum he ?_
      have I2 : Inv X pins σ H1 { s1 with heap := h' } := I1.kept (t' := s1.toks) hk
      exact ⟨s1.heap.objs.size + 1, [s1.heap.objs.size + 1, s1.heap.objs.size], _, _, H1, rfl, I2, turn_enum a (s1.heap.objs.size + 1) s1.heap.objs.size, ⟨⟨.none, he⟩, hit, Nat.succ_ne_self _⟩, fp, q⟩
    · obtain ⟨its, rv, p', hz⟩ := I1.tuple hq
      have pt : s1.heap.IsTuple a its.toArray := p'
      have hal : a < s1.heap.objs.size := by obtain ⟨o, ho, _⟩ := id p'; exact Heap.lt_size ho
      refine enum_begins1 (begins_tuple a its.toArray) pt fun h' he hit hsz hk => wpAny_pyIter_enum he ?_
      have I2 : Inv X pins σ H1 { s1 with heap := h' } := I1.kept (t' := s1.toks) hk
      exact ⟨s1.heap.objs.size + 1, [s1.heap.objs.size + 1, s1.heap.objs.size], _, _, H1, rfl, I2, turn_enumT a (s1.heap.objs.size + 1) s1.heap.objs.size, ⟨⟨.none, he⟩, ⟨_, hit, rfl, rfl⟩, Nat.succ_ne_self _, Nat.ne_of_lt hal, Nat.ne_of_lt (Nat.lt_succ_of_lt hal)⟩, fp, q⟩
def enumV (vs : List Val) : List Val := (vs.zip (List.range vs.length)).map fun p => Val.tup [.int (p.2 : Nat), p.1]
theorem enumV_get {vs : List Val} {i : Nat} {u : Val} (h : (enumV vs)[i]? = some u) : ∃ v, vs[i]? = some v ∧ u = .tup [.int (i : Nat), v] := by
  unfold enumV at h
  rw [List.getElem?_map, Option.map_eq_some_iff] at h
  obtain ⟨⟨a, b⟩, h1, h2⟩ := h
  rw [List.getElem?_zip_eq_some] at h1
  obtain ⟨h3, h4⟩ := h1
  have : b = i := by
    obtain ⟨_, e⟩ := List.getElem?_eq_some_iff.mp h4
    simpa using e.symm
  subst this
  exact ⟨a, h3, h2.symm⟩
theorem enumV_len (vs : List Val) : (enumV vs).length = vs.length := by unfold enumV; simp
theorem ite_rel {K : PySem.W.Frag} {h : Hv} {H : Hp} {a : Addr} {vs : List Val} {ok : Hv → Prop} (e : ∀ h2 H2, StepN h H h2 H2 → RH K H2 h2 → ok h2 → ∃ xs, SqL K H2 a xs ∧ RVs K H2 h2 vs xs) : ItRel K ⟨enumV vs, ok⟩ (Ite K a) h H := fun h2 H2 s2 r2 o2 => by
  obtain ⟨xs, hq, rs⟩ := e h2 H2 s2 r2 o2
  refine ⟨fun i v hv => ?_, xs, hq, by show xs.length ≤ (enumV vs).length; rw [enumV_len, rs.len]; exact Nat.le_refl _⟩
  obtain ⟨w, hw, rfl⟩ := enumV_get hv
  obtain ⟨x, ex, rx⟩ := rs.get hw
  refine ⟨⟨xs, x, hq, ex⟩, fun y H3 hy => ?_⟩
  obtain ⟨T, x', ez, nT, eH, hx⟩ := hy
  have := hx xs hq
  rw [ex] at this
  cases this
  subst ez eH
  exact pair_rel r2 rv_int rx nT
theorem iteT_rel {K : PySem.W.Frag} {h : Hv} {H : Hp} {a : Addr} {vs : List Val} {ok : Hv → Prop} (e : ∀ h2 H2, StepN h H h2 H2 → RH K H2 h2 → ok h2 → ∃ xs, SqT K H2 a xs ∧ RVs K H2 h2 vs xs) : ItRel K ⟨enumV vs, ok⟩ (IteT K a) h H := fun h2 H2 s2 r2 o2 => by
  obtain ⟨xs, hq, rs⟩ := e h2 H2 s2 r2 o2
  refine ⟨fun i v hv => ?_, xs, hq, by show xs.length = (enumV vs).length; rw [enumV_len, rs.len]⟩
  obtain ⟨w, hw, rfl⟩ := enumV_get hv
  obtain ⟨x, ex, rx⟩ := rs.get hw
  refine ⟨⟨xs, x, hq, ex⟩, fun y H3 hy => ?_⟩
  obtain ⟨T, x', ez, nT, eH, hx⟩ := hy
  have := hx xs hq
  rw [ex] at this
  cases this
  subst ez eH
  exact pair_rel r2 rv_int rx nT
@[simp] def dEnum (aa : AD) : ID := fun ρ h Q E => aa ρ h (fun vs h1 => match vs with
  | [.tup us] => Q ⟨enumV us, fun _ => True⟩ h1
  | [.lst us] => Q ⟨enumV us, fun _ => True⟩ h1
  | [.ref a] => (match h1 a with
    | some (.lst us) => Q ⟨enumV us, fun h' => h' a = some (.lst us)⟩ h1
    | _ => False)
  | _ => False) E
theorem di_enum {X : Cx} {B : Bs} {e : Expr} {aa : AD} {p pos tpos : Pos} {elts : List Expr} {kk : Nat} (hg : Gl X "enumerate") (hm : X.mg "enumerate" = none) (ha : DA X B [e] aa) (hs : starEach [e] X.env = [(false, eval e X.env)] := by rfl) :
    DI X B (.Tuple elts kk tpos) (.Call (.Name "enumerate" p) [e] [] pos) (dEnum aa) :=
  PIi (pi_enumA hg hm ha hs) fun σ H R ⟨ρ, h, Q', S, q, C⟩ => ⟨ρ, h, _, S, q, fun vs h1 xs H1 q1 s1 rv1 r1 => by
    split at q1
    · rename_i us
      obtain ⟨x, e1, rx⟩ := rvs1 rv1
      rw [RV] at rx
      obtain ⟨a, ys, ea, na, ha, ra⟩ := rx
      exact ⟨a, ys, by rw [e1, ea], .inr ⟨.of ha, C _ h1 H1 _ q1 s1 r1 (iteT_rel fun h2 H2 s2 r2 _ => ⟨ys, .of (s2 a _ ha na nt_tup).1, ra.stepN s2⟩)⟩⟩
    · rename_i us
      obtain ⟨x, e1, rx⟩ := rvs1 rv1
      rw [RV] at rx
      obtain ⟨a, ys, ea, na, ha, ra⟩ := rx
      exact ⟨a, ys, by rw [e1, ea], .inl ⟨.of ha, C _ h1 H1 _ q1 s1 r1 (ite_rel fun h2 H2 s2 r2 _ => ⟨ys, .of (s2 a _ ha na nt_lst).1, ra.stepN s2⟩)⟩⟩
    · rename_i a
      obtain ⟨x, e1, rx⟩ := rvs1 rv1
      rw [RV] at rx
      subst rx
      split at q1
      · rename_i us eu
        obtain ⟨ys, hy, ry⟩ := r1 a _ eu
        exact ⟨a, ys, e1, .inl ⟨.of hy, C _ h1 H1 _ q1 s1 r1 (ite_rel fun h2 H2 s2 r2 o2 => by
          obtain ⟨zs, hz, rz⟩ := r2 a _ o2
          exact ⟨zs, .of hz, rz⟩)⟩⟩
      · exact q1.elim
    · exact q1.elim⟩
@[simp] def sLPut (dd dk dv : ED) : SD := fun ρ h D E => dv ρ h (fun v h1 => dd ρ h1 (fun d h2 => dk ρ h2 (fun k h3 => match d, k with
  | .ref a, .int i => (match h3 a with
    | some (.lst us) => (match ixN us.length i with
      | some j => D.nx ρ (put h3 a (.lst (us.set j v)))
      | none => False)
    | _ => False)
  | _, _ => False) E) E) E
theorem RVs.setv {K : PySem.W.Frag} {H : Hp} {h : Hv} {v : Val} {x : V} (rv : RV K H h v x) : ∀ {vs : List Val} {xs : List V} (j : Nat), RVs K H h vs xs → RVs K H h (vs.set j v) (xs.set j x)
  | [], xs, j, r => by rw [RVs] at r; subst r; exact RVs.nil
  | w :: vs, xs, j, r => by
    rw [RVs] at r
    obtain ⟨y, ys, rfl, r1, r2⟩ := r
    cases j with
    | zero => exact RVs.cons rv r2
    | succ j => exact RVs.cons r1 (RVs.setv rv j r2)
theorem ds_lput {X : Cx} {B : Bs} {o i e : Expr} {dd di de : ED} {pos' pos : Pos} (ho : DE X B o dd) (hi : DE X B i di) (hv : DE X B e de) (hs : swapsWithSole [.Subscript o i pos'] e pos.line X.env = pure false := by rfl) (hw : swappedStores [.Subscript o i pos'] e X.env = pure none := by rfl)
    (h1 : (assignEach [.Subscript o i pos'] X.env).map (·.2) = [assign (.Subscript o i pos') X.env] := by rfl) (ha : ∀ v, assign (.Subscript o i pos') X.env v = (do
      let ov ← holding [v] (eval o X.env)
      let iv ← holding [v, ov] (eval i X.env)
      standAt pos'
      holding [v, ov, iv] (setItem ov iv v)
      release [v, ov, iv] []) := by intro _; rfl) : DS X B (.Assign [.Subscript o i pos'] e pos) (sLPut dd di de) :=
  PSi (ps_asg hv (pg_sub ho hi set_list ha) hs hw h1) fun D σ H ⟨ρ, h, D', S, q, C⟩ => ⟨ρ, h, _, S, q, fun v h1 z H1 q1 s1 rv1 r1 => ⟨ρ, h1, _, S.step s1 r1, q1, fun d h2 x H2 q2 s2 rv2 r2 => ⟨ρ, h2, _, S.step (s1.trans s2) r2, q2, fun k h3 y H3 q3 s3 rv3 r3 => by
    split at q3
    · rename_i a i
      split at q3
      · rename_i us eu
        split at q3
        · rename_i j ej
          have rv2 := rv2.step s3
          rw [RV] at rv2
          rw [RV] at rv3
          obtain ⟨xs, e1, rx⟩ := r3 a _ eu
          have nb : Ob.lst us ≠ .busy := fun z => nomatch z
          have rv1 := rv1.step (s2.trans s3)
          have s4 : Step h3 H3 (put h3 a (.lst (us.set j v))) (upd H3 a (.lst (xs.set j z))) := Step.write eu nb
          have r4 : RH X.K (upd H3 a (.lst (xs.set j z))) (put h3 a (.lst (us.set j v))) := r3.write eu nb ⟨xs.set j z, upd_same, (RVs.setv rv1 j rx).step s4⟩
          have s14 := s1.trans (s2.trans (s3.trans s4))
          exact ⟨a, xs, i, j, rv2, rv3, e1, by rw [← rx.len]; exact ej, C.nx _ _ _ _ q3 s14 (S.step s14 r4)⟩
        · exact q3.elim
      · exact q3.elim
    · exact q3.elim⟩⟩⟩
def tListRange (ta : TE) : TE := fun σ H Q => ta σ H fun x H1 => ∃ j : Nat, x = .int (j : Int) ∧ j ≤ 1000 ∧ ∀ p, H1 p = none → Q (.ref p) (upd H1 p (.lst (((List.range j).map fun (i : Nat) => (i : Int)).map V.int)))
theorem pe_listRange {X : Cx} {a : Expr} {ta : TE} {p p2 q pos : Pos} (hg : Gl X "list") (hm : X.mg "list" = none) (hg2 : Gl X "range") (hm2 : X.mg "range" = none) (ha : PE X a ta) (hc : X.calm = true := by rfl)
    (na : starEach [a] X.env = (false, eval a X.env) :: starEach [] X.env := by rfl) : PE X (.Call (.Name "list" p) [.Call (.Name "range" p2) [a] [] q] [] pos) (tListRange ta) := by
  refine ⟨fun pins s σ H Q I h => ?_⟩
  refine Call_ (ld_blt I hg hm bt_list ?_)
  refine PyProof.Rows.callWith_type1 (PyProof.Rows.args_cons ?_ rfl) rfl rfl
  refine Call_ (ld_blt I hg2 hm2 boot_range ?_)
  refine PyProof.Rows.callWith_type1 (PyProof.Rows.args_cons (thn (ha.run pins s σ H _ I h) fun v s1 ⟨x, H1, I1, r1, q1⟩ => PyProof.Rows.args_nil ?_) na) na rfl
  obtain ⟨j, rfl, hj, q1⟩ := q1
  obtain ⟨t, rfl⟩ := r1
  refine call_range_1 ?_
  refine PyProof.Rows.args_nil ?_
  have hR : IsRange (s1.heap.push { cls := .type "range", data := .fields #[.int 0 s1.toks, .int (j : Int) t, .int 1 (s1.toks + 1)] }) s1.heap.objs.size 0 j 1 s1.toks t (s1.toks + 1) := Heap.get?_push_size _ rfl
  refine call_list_range (n := j) (I1.ok.hd hc) hR ?_ ?_ (by omega) fun h' tk acc' c' hk hS hacc => ?_
  · exact small_one (by decide) (by omega) (by omega) (by omega)
  · rw [rangeSize_one]; split <;> omega
  · have I2 : Inv X pins σ H1 { s1 with heap := s1.heap.push { cls := .type "range", data := .fields #[.int 0 s1.toks, .int (j : Int) t, .int 1 (s1.toks + 1)] }, toks := s1.toks + 1 + 1 } := I1.kept fun b o e => Heap.get?_push_of_some _ e
    have hz : s1.heap.objs.size ≤ (s1.heap.push { cls := .type "range", data := .fields #[.int 0 s1.toks, .int (j : Int) t, .int 1 (s1.toks + 1)] }).objs.size := by rw [Heap.size_push]; omega
    refine ⟨.ref _, upd H1 _ (.lst (((List.range j).map fun (i : Nat) => (i : Int)).map V.int)), I2.laid (t' := tk) (fun b o e => hk b o e) (Nat.le_refl _) ⟨by simp; rw [sizeLine_eq]; omega, acc'.toList, c', ?_, by simpa using hS⟩, rfl, q1 _ (I2.hok.fresh (Nat.le_refl _))⟩
    have hl : acc'.toList.length = j := by rw [Array.length_toList]; exact hacc.1
    have := vals_of_get acc'.toList (fun i => V.int (i : Nat)) fun i u hu => by
      obtain ⟨tt, e⟩ := hacc.2 i u (by simpa using hu)
      exact ⟨tt, by rw [e]; simp⟩
    rw [hl] at this
    rw [List.map_map]
    exact this
@[simp] def dListRange (de : ED) : ED := fun ρ h Q E => de ρ h (fun v h1 => match v with
  | .int j => 0 ≤ j ∧ j ≤ 1000 ∧ Q (.lst (((List.range j.toNat).map fun (i : Nat) => (i : Int)).map .int)) h1
  | _ => False) E
theorem de_listRange {X : Cx} {B : Bs} {a : Expr} {da : ED} {p p2 q pos : Pos} (hg : Gl X "list") (hm : X.mg "list" = none) (hg2 : Gl X "range") (hm2 : X.mg "range" = none) (ha : DE X B a da) (hc : X.calm = true := by rfl)
    (na : starEach [a] X.env = (false, eval a X.env) :: starEach [] X.env := by rfl) : DE X B (.Call (.Name "list" p) [.Call (.Name "range" p2) [a] [] q] [] pos) (dListRange da) :=
  PEi (pe_listRange hg hm hg2 hm2 ha hc na) fun σ H Q ⟨ρ, h, Q', S, q, C⟩ => ⟨ρ, h, _, S, q, fun v h1 x H1 q1 s1 rv1 r1 => by
    split at q1
    · rename_i j
      rw [RV] at rv1
      exact ⟨j.toNat, by rw [rv1]; congr 1; omega, by omega, fun l hl => (C.trans s1).lst r1 (RVs.ofInts _) hl q1.2.2⟩
    · exact q1.elim⟩
end DL
namespace DL
open PySem PySem.Spec PyProof.Rows L2
section
variable {X : Cx} {pins : List (Addr × Obj)} {σ : L2.St} {H : Hp} {s : Shared}
end
section
variable {X : Cx} {x n : Str} {c : Value} {i : Nat} {body suite : List Stmt} {b₀ : Stmt} {np pos pos' : Pos} {tb : WX → TS} {ts : Addr → TS}
end
end DL
namespace DL
open PySem PySem.Spec PyProof.Rows L2
section
variable {X : Cx}
end
def keyV : Key → Val
  | .inl i => .int i
  | .inr x => .str x
theorem RKs.keys {K : PySem.W.Frag} {H : Hp} {h : Hv} : ∀ {kvs : List (Key × Val)} {xs : List (Key × V)}, RKs K H h kvs xs → kvs.map (·.1) = xs.map (·.1)
  | [], xs, r => by rw [show xs = [] from r]; rfl
  | (k, v) :: kvs, xs, r => by
    obtain ⟨y, ys, e, _, r2⟩ := r
    rw [e, List.map_cons, List.map_cons, RKs.keys r2]
structure XcR (K : PySem.W.Frag) (mg : Str → Option Value) (x : Str) : Prop where
  ex : ∃ C, mg x = some (.ref C) ∧ PySem.W.excIn K C [.type "ValueError", .type "Exception", .type "BaseException", .type "object"] "ValueError.__new__" = true ∧ PySem.W.keepIn K (.ref C) = true ∧ PySem.W.subIn K (.ref C) (.type "BaseException") = some true ∧ PySem.W.typeIn K (.ref C) = some (.type "type")
@[simp] def sRaise (x : Str) : SD := fun ρ h _ E => E x none ρ h
theorem ds_raise {X : Cx} {B : Bs} {x m : Str} {j : Nat} {p p2 pos pos' : Pos} (c : XcR X.K X.mg x) (tk : TakesB X B) (hc : X.calm = true := by rfl) (hg : Gl X x := by rfl) (hdb : (x == ("__debug__" : Str)) = false := by decide) :
    DS X B (.Raise (some (.Call (.Name x p) [.Constant (.str m) j p2] [] pos)) none pos') (sRaise x) := by
  obtain ⟨C, hm, q, k, h1, h2⟩ := c.ex
  exact PSi (ps_raise hc tk (pmk_own PySem.F.excBase_ValueError q hm k (raises_own h1 h2) hg hdb)) fun D σ H ⟨ρ, h, D', S, z, c⟩ => ⟨x, none, ρ, h, hm, S, .inl ⟨rfl, rfl⟩, z⟩
end DL
namespace DL
open PySem PySem.Spec PyProof.Rows L2
section
variable {K : PySem.W.Frag} {H H1 : Hp} {h : Hv} {P : Addr} {q : Str}
theorem ro_nt {a : Addr} {o : Ob} (r : RO K H h a o) (n : ∀ q, o ≠ .tab q) {u : HO} (e : H a = some u) : NT u := by
  cases o with
  | lst vs => obtain ⟨_, e1, _⟩ := r; rw [e] at e1; cases e1; exact fun _ z => nomatch z
  | dK vs => obtain ⟨_, e1, _⟩ := r; rw [e] at e1; cases e1; exact fun _ z => nomatch z
  | dT vs => obtain ⟨_, e1, _⟩ := r; rw [e] at e1; cases e1; exact fun _ z => nomatch z
  | ins C fs => obtain ⟨_, _, e1, _⟩ := r; rw [e] at e1; cases e1; exact fun _ z => nomatch z
  | dF o xs kvs => have e1 := r.1; rw [e] at e1; cases e1; exact fun _ z => nomatch z
  | dFT o xs kvs => have e1 := r.1; rw [e] at e1; cases e1; exact fun _ z => nomatch z
  | exc C => obtain ⟨_, _, e1, _⟩ := r; rw [e] at e1; cases e1; exact fun _ z => nomatch z
  | excd C v => obtain ⟨_, _, _, _, e1, _⟩ := r; rw [e] at e1; cases e1; exact fun _ z => nomatch z
  | tab q => exact absurd rfl (n q)
  | dN w kvs => obtain ⟨_, e1, _⟩ := r; rw [e] at e1; cases e1; exact fun _ z => nomatch z
  | busy =>
    obtain ⟨_, e1, f⟩ := r; rw [e] at e1; cases e1
    rcases f with ⟨_, z⟩ | ⟨_, z⟩ <;> subst z <;> exact fun _ z => nomatch z
theorem dno_code {w : World} {c : Addr} {xs : List NE} {q : Str} : DNO w c xs ≠ LamX.CodeO c q := fun e => by
  unfold DNO LamX.CodeO at e
  have e := congrFun (HO.ext.inj e) ⟨Array.replicate (c + 1) { cls := .none, data := .fields #[.none, .str q 0] }, {}⟩
  have g : Heap.get? ⟨Array.replicate (c + 1) { cls := .none, data := .fields #[.none, .str q 0] }, {}⟩ c = some { cls := .none, data := .fields #[.none, .str q 0] } := by
    unfold Heap.get?
    simp
  have p : DNp w c xs ⟨Array.replicate (c + 1) { cls := .none, data := .fields #[.none, .str q 0] }, {}⟩ := by
    rw [e]
    exact ⟨_, _, 0, g, rfl, rfl⟩
  obtain ⟨_, _, _, _, o, _, _, h1, _, h3, _⟩ := p
  rw [g] at h1
  cases h1
  cases h3
theorem ro_noext {a : Addr} {o : Ob} (r : RO K H h a o) {q : Str} : H a ≠ some (LamX.CodeO a q) := fun e => by
  cases o with
  | lst vs => obtain ⟨_, e1, _⟩ := r; rw [e] at e1; cases e1
  | dK vs => obtain ⟨_, e1, _⟩ := r; rw [e] at e1; cases e1
  | dT vs => obtain ⟨_, e1, _⟩ := r; rw [e] at e1; cases e1
  | ins C fs => obtain ⟨_, _, e1, _⟩ := r; rw [e] at e1; cases e1
  | dF o xs kvs => have e1 := r.1; rw [e] at e1; cases e1
  | dFT o xs kvs => have e1 := r.1; rw [e] at e1; cases e1
  | exc C => obtain ⟨_, _, e1, _⟩ := r; rw [e] at e1; cases e1
  | excd C v => obtain ⟨_, _, _, _, e1, _⟩ := r; rw [e] at e1; cases e1
  | tab q => obtain ⟨_, e1, _⟩ := r; rw [e] at e1; cases e1
  | dN w kvs => obtain ⟨_, e1, _⟩ := r; rw [e] at e1; exact dno_code (Option.some.inj e1).symm
  | busy =>
    obtain ⟨_, e1, f⟩ := r; rw [e] at e1; cases e1
    rcases f with ⟨_, z⟩ | ⟨_, z⟩ <;> cases z
theorem ro_some {a : Addr} {o : Ob} (r : RO K H h a o) : ∃ u, H a = some u := by
  cases o with
  | lst vs => obtain ⟨_, e1, _⟩ := r; exact ⟨_, e1⟩
  | dK vs => obtain ⟨_, e1, _⟩ := r; exact ⟨_, e1⟩
  | dT vs => obtain ⟨_, e1, _⟩ := r; exact ⟨_, e1⟩
  | ins C fs => obtain ⟨_, _, e1, _⟩ := r; exact ⟨_, e1⟩
  | dF o xs kvs => exact ⟨_, r.1⟩
  | dFT o xs kvs => exact ⟨_, r.1⟩
  | exc C => obtain ⟨_, _, e1, _⟩ := r; exact ⟨_, e1⟩
  | excd C v => obtain ⟨_, _, _, _, e1, _⟩ := r; exact ⟨_, e1⟩
  | tab q => obtain ⟨_, e1, _⟩ := r; exact ⟨_, e1⟩
  | dN w kvs => obtain ⟨_, e1, _⟩ := r; exact ⟨_, e1⟩
  | busy => obtain ⟨_, e1, f⟩ := r; exact ⟨_, e1⟩
end
structure Tbs (Ts : List (Addr × Str)) (h : Hv) : Prop where
  has : ∀ p ∈ Ts, h p.1 = some (.tab p.2)
  all : ∀ b q, h b = some (.tab q) → (b, q) ∈ Ts
section
variable {K : PySem.W.Frag} {H H1 : Hp} {h : Hv} {Ts : List (Addr × Str)}
theorem Tbs.tabs (t : Tbs Ts h) (r : RH K H h) : LamX.Tabs Ts H := fun p hp => by
  obtain ⟨ps, e, k, z⟩ := r p.1 _ (t.has p hp)
  exact ⟨ps, e, k, fun pos cv hc => let ⟨c, e1, e2, _⟩ := z pos cv hc; ⟨c, e1, e2⟩⟩
theorem Tbs.uniq (t : Tbs Ts h) {P : Addr} {q : Str} (m : (P, q) ∈ Ts) : ∀ p ∈ Ts, p.1 = P → p.2 = q := fun p hp e => by
  have a := t.has p hp
  have b := t.has _ m
  rw [e, b] at a
  cases a
  rfl
theorem Tbs.step (t : Tbs Ts h) (r : RH K H h) (e : LamX.ExtN H H1) (T : LamX.Tabs Ts H1) : RH K H1 h ∧ Step h H h H1 := by
  have s : Step h H h H1 := ⟨fun a o ha hn n => ⟨e a o ha n, hn⟩, fun a o ha hn => ⟨e a o ha (ro_nt (r a _ hn) (fun _ z => nomatch z) ha), hn⟩⟩
  refine ⟨fun a o ha => ?_, s⟩
  have ra := r a o ha
  by_cases n : ∃ q', o = .tab q'
  · obtain ⟨q', rfl⟩ := n
    obtain ⟨ps, e1, k, z⟩ := T (a, q') (t.all a q' ha)
    refine ⟨ps, e1, k, fun pos cv hc => ?_⟩
    obtain ⟨c, e2, e3⟩ := z pos cv hc
    refine ⟨c, e2, e3, ?_⟩
    cases hx : h c with
    | none => rfl
    | some ob =>
      have rc := r c ob hx
      by_cases m : ∃ q', ob = .tab q'
      · obtain ⟨q2, rfl⟩ := m
        obtain ⟨ps2, e4, _⟩ := T (c, q2) (t.all c q2 hx)
        have e4 : H1 c = some (.tbl ps2) := e4
        rw [e4] at e3
        exact absurd (Option.some.inj e3).symm (LamX.codeO_ne _)
      · obtain ⟨u, hu⟩ := ro_some rc
        have := e c u hu (ro_nt rc (fun q' z => m ⟨q', z⟩) hu)
        rw [this] at e3
        rw [Option.some.inj e3] at hu
        exact absurd hu (ro_noext rc)
  · exact ra.stepN s.n fun u hu => e a u hu (ro_nt ra (fun q' z => n ⟨q', z⟩) hu)
theorem Tbs.put {p : Addr} {o : Ob} (x : Tbs Ts h) (e : h p = none) (n : ∀ q, o ≠ .tab q) : Tbs Ts (DL.put h p o) := by
  refine ⟨fun a ha => ?_, fun b q hb => ?_⟩
  · have := x.has a ha
    rw [put_ne (fun z => by rw [z, e] at this; cases this)]; exact this
  · by_cases z : b = p
    · subst z; rw [put_same] at hb; exact absurd (Option.some.inj hb) (n q)
    · rw [put_ne z] at hb; exact x.all b q hb
theorem Tbs.write {p : Addr} {o u : Ob} (x : Tbs Ts h) (e : h p = some u) (nu : ∀ q, u ≠ .tab q) (n : ∀ q, o ≠ .tab q) : Tbs Ts (DL.put h p o) := by
  refine ⟨fun a ha => ?_, fun b q hb => ?_⟩
  · have := x.has a ha
    rw [put_ne (fun z => by rw [z, e] at this; exact nu _ (Option.some.inj this))]; exact this
  · by_cases z : b = p
    · subst z; rw [put_same] at hb; exact absurd (Option.some.inj hb) (n q)
    · rw [put_ne z] at hb; exact x.all b q hb
theorem Tbs.drop {p : Addr} {u : Ob} (x : Tbs Ts h) (e : h p = some u) (nu : ∀ q, u ≠ .tab q) : Tbs Ts (DL.drop h p) := by
  refine ⟨fun a ha => ?_, fun b q hb => ?_⟩
  · have := x.has a ha
    rw [drop_ne (fun z => by rw [z, e] at this; exact nu _ (Option.some.inj this))]; exact this
  · by_cases z : b = p
    · subst z; rw [drop_same] at hb; cases hb
    · rw [drop_ne z] at hb; exact x.all b q hb
end
section
variable {X : Cx} {sg : Scope} {g : Addr} {cdg : Value} {q : Str} {cs : Str → Addr} {rs : List Str} {den : SD} {s1 : Stmt} {rest : List Stmt} {p1 p2 p3 p4 p5 p6 p7 p8 p9 p10 p11 : Pos}
end
end DL
namespace DL
open PySem PySem.Spec PyProof.Rows L2
abbrev lamQ (n : Str) : Str := (n ++ ".<locals>.") ++ "<lambda>"
structure Gx where
  ns : List Str
  T : Str → Addr
  C : Str → Addr
  w : World
def Gx.Ts (G : Gx) : List (Addr × Str) := G.ns.map fun n => (G.T n, lamQ n)
theorem Gx.mem {G : Gx} {n : Str} (h : n ∈ G.ns) : (G.T n, lamQ n) ∈ G.Ts := List.mem_map.mpr ⟨n, h, rfl⟩
end DL
namespace DL
open PySem PySem.Spec PyProof.Rows L2
section
variable {K : PySem.W.Frag} {H : Hp} {h : Hv}
def fMinL : FA := fun vs h Q => ∃ (v : Val) (ns : List Int), vs = [v] ∧ listOf v h = some (ns.map .int) ∧ ns ≠ [] ∧ ∀ m, m ∈ ns → (∀ y ∈ ns, m ≤ y) → Q (.int m) h
theorem cl_minL : CaL K fMinL (rMin K) := fun vs xs h H Q' Q r rs q c => by
  obtain ⟨v, ns, rfl, el, hne, q⟩ := q
  obtain ⟨x, e, rv⟩ := rvs1 rs
  obtain ⟨a, us, e3, ha, rss⟩ := listOf_rel r rv el
  rw [rss.ints] at ha
  exact ⟨a, ns, by rw [e, e3], .of ha, List.length_pos_iff.mpr hne, fun m hm hy => c.val r (by rw [RV]) (q m hm hy)⟩
end
end DL
namespace DL
open PySem PySem.Spec PyProof.Rows L2
def putFA (f : Str) (v : Val) : List (Str × Val) → List (Str × Val)
  | [] => [(f, v)]
  | (g, x) :: r => if g = f then (g, v) :: r else (g, x) :: putFA f v r
section
variable {K : PySem.W.Frag} {H : Hp} {h : Hv}
theorem RKs.look {f : Str} : ∀ {fs : List (Str × Val)} {xs : List (Str × V)}, RKs K H h fs xs → (fs.lookup f = none ∧ xs.lookup f = none) ∨ ∃ v x, fs.lookup f = some v ∧ xs.lookup f = some x ∧ RV K H h v x
  | [], xs, r => by rw [show xs = [] from r]; exact .inl ⟨rfl, rfl⟩
  | (g, v) :: fs, xs, r => by
    obtain ⟨y, ys, e, r1, r2⟩ := r
    subst e
    rw [List.lookup_cons, List.lookup_cons]
    cases f == g with
    | true => exact .inr ⟨v, y, rfl, rfl, r1⟩
    | false => exact RKs.look r2
theorem RKs.putF {f : Str} {v : Val} {y : V} (rv : RV K H h v y) : ∀ {fs : List (Str × Val)} {xs : List (Str × V)}, RKs K H h fs xs → RKs K H h (putFA f v fs) (L2.putF f y xs)
  | [], xs, r => by rw [show xs = [] from r]; exact ⟨y, [], rfl, rv, rfl⟩
  | (g, u) :: fs, xs, r => by
    obtain ⟨z, ys, e, r1, r2⟩ := r
    subst e
    unfold putFA L2.putF
    by_cases hg : g = f
    · rw [if_pos hg, if_pos hg]; exact ⟨y, ys, rfl, rv, r2⟩
    · rw [if_neg hg, if_neg hg]; exact ⟨z, _, rfl, r1, RKs.putF rv r2⟩
end
section
variable {X : Cx} {B : Bs} {o e : Expr} {es : List Expr} {d dv : ED} {aa : AD} {f m x : Str} {C : Addr} {pos pos' apos p : Pos}
@[simp] def dFld (C : Addr) (f : Str) (d : ED) : ED := fun ρ h Q E => d ρ h (fun v h1 => match v with
  | .ref a => (match h1 a with
    | some (.ins C' fs) => C' = C ∧ (match fs.lookup f with
      | some u => Q u h1
      | none => False)
    | _ => False)
  | _ => False) E
theorem de_fld (c : Cls X.K C) (n : NoAttr X.K C f) (ho : DE X B o d) (hb : attributeBase o f X.env (eval o X.env) = eval o X.env := by rfl) : DE X B (.Attribute o f pos) (dFld C f d) :=
  PEi (pe_fld ho hb) fun σ H Q ⟨ρ, h, Q', S, q, Cn⟩ => ⟨ρ, h, _, S, q, fun v h1 x H1 q1 s1 rv1 r1 => by
    split at q1
    · rename_i a
      rw [RV] at rv1
      split at q1
      · rename_i C' fs ha
        obtain ⟨rfl, q1⟩ := q1
        obtain ⟨dx, xs, e1, e2, n2, rs⟩ := r1 a _ ha
        split at q1
        · rename_i u hu
          rcases rs.look (f := f) with ⟨z, _⟩ | ⟨v, y, l1, l2, ry⟩
          · rw [hu] at z; cases z
          · rw [hu] at l1; cases l1
            exact ⟨a, _, dx, xs, y, rv1, e1, c, n, l2, (Cn.trans s1).val r1 ry q1⟩
        · exact q1.elim
      · exact q1.elim
    · exact q1.elim⟩
@[simp] def sFldA (C : Addr) (f : Str) (d dv : ED) : SD := fun ρ h D E => dv ρ h (fun v h1 => d ρ h1 (fun o h2 => match o with
  | .ref a => (match h2 a with
    | some (.ins C' fs) => C' = C ∧ fs.length < 1000 ∧ D.nx ρ (put h2 a (.ins C (putFA f v fs)))
    | _ => False)
  | _ => False) E) E
theorem ds_fld {value : Expr} (c : Cls X.K C) (n : NoAttr X.K C f) (ho : DE X B o d) (hv : DE X B value dv) (hs : swapsWith value (some (.Attribute o f pos')) pos.line X.env = pure false := by rfl) : DS X B (.Assign [.Attribute o f pos'] value pos) (sFldA C f d dv) :=
  PSi (ps_fld ho hv hs) fun D σ H ⟨ρ, h, D', S, q, Cn⟩ => ⟨ρ, h, _, S, q, fun v h1 y H1 q1 s1 rv1 r1 => ⟨ρ, h1, _, S.step s1 r1, q1, fun ov h2 x H2 q2 s2 rv2 r2 => by
    split at q2
    · rename_i a
      rw [RV] at rv2
      split at q2
      · rename_i C' fs ha
        obtain ⟨rfl, fl, q2⟩ := q2
        obtain ⟨dx, xs, e1, e2, n2, rs⟩ := r2 a _ ha
        have nb : Ob.ins C' fs ≠ .busy := fun z => nomatch z
        have st : Step h2 H2 (put h2 a (.ins C' (putFA f v fs))) (upd H2 a (.ins C' dx (L2.putF f y xs))) := Step.write ha nb
        have ne : dx ≠ a := fun z => by rw [z, e1] at e2; cases e2
        have r3 : RH X.K (upd H2 a (.ins C' dx (L2.putF f y xs))) (put h2 a (.ins C' (putFA f v fs))) := r2.write ha nb ⟨dx, _, upd_same, by rw [upd_ne ne]; exact e2, by rw [put_ne ne]; exact n2, (rs.putF (rv1.step s2)).step st⟩
        exact ⟨a, _, dx, xs, rv2, e1, c, n, by rw [← rs.len]; exact fl, Cn.nx _ _ _ _ q2 (s1.trans (s2.trans st)) (S.step (s1.trans (s2.trans st)) r3)⟩
      · exact q2.elim
    · exact q2.elim⟩⟩
@[simp] def dMeth (C : Addr) (m : Str) (n : Nat) (fs : SpF) (d : ED) (aa : AD) : ED := fun ρ h Q E => d ρ h (fun v h1 => match v with
  | .ref a => (match h1 a with
    | some (.ins C' fl) => C' = C ∧ fl.lookup m = none ∧ aa ρ h1 (fun vs h2 => vs.length + 1 = n ∧ fs (.ref a :: vs) h2 Q (fun nm pl h' => E nm pl ρ h')) E
    | _ => False)
  | _ => False) E
def MtF (P : Program) (w : World) (K : PySem.W.Frag) (mg : Str → Option Value) (base : Heap) (A : Around) (C : Addr) (m : Str) (n : Nat) (fs : SpF) : Prop :=
  ∃ (k : Nat) (f : Addr) (fd : FuncData) (ps : List Str), FnOk P w K mg base (L2.CX P w) k f fd ps (spA K mg n fs) ∧ Room k A ∧ Meth K C m f ∧ L2.Binds K fd ps []
theorem de_meth {n : Nat} {fs : SpF} {pl : Sem Bool} (c : Cls X.K C) (F : MtF X.prog X.w X.K X.mg X.base X.A C m n fs) (tk : TakesB X B) (ho : DE X B o d) (ha : DA X B (e :: es) aa)
    (hst : starEach (e :: es) X.env = (false, eval e X.env) :: starEach es X.env := by rfl) (hpl : (backTo pos (starEach es X.env)).any (·.1) = false := by rfl)
    (ht : eval (.Call (.Attribute o m apos) (e :: es) [] pos) X.env = (do
      let ov ← eval o X.env
      standAt apos.atName
      let (f, first) ← holding [ov] (getMethod ov m pl)
      callWith pos f first (backTo pos (starEach (e :: es) X.env)) (backToKw pos (keywordEach [] X.env))) := by rfl) :
    DE X B (.Call (.Attribute o m apos) (e :: es) [] pos) (dMeth C m n fs d aa) := by
  obtain ⟨k, f, fd, ps, G, hr, hm, hb⟩ := F
  refine ⟨fun pins s σ H Q I ⟨ρ, h, Q', S, q, Cn⟩ => ?_⟩
  refine PySem.W.methodCall_KW (pl := pl) (thn (ho.run pins s σ H (fun x H1 => ∃ a dx xs, x = .ref a ∧ H1 a = some (.ins C dx xs) ∧ xs.lookup m = none ∧ rdA X.K B aa σ H1 fun vs H2 => spA X.K X.mg n fs (x :: vs) H2 Q (WE (wx X.mg X.K B) σ)) I ⟨ρ, h, _, S, q, fun v h1 x H1 q1 s1 rv1 r1 => ?_⟩) fun u s1 ⟨x, H1, I1, rx, a, dx, xs, ex, ea, l, q⟩ => ?_) ht
  · split at q1
    · rename_i a
      rw [RV] at rv1
      split at q1
      · rename_i C' fl hfl
        obtain ⟨rfl, hl, q1⟩ := q1
        obtain ⟨dx, xs, e1, e2, n2, rs⟩ := r1 a _ hfl
        have l2 : xs.lookup m = none := by
          rcases rs.look (f := m) with ⟨_, z⟩ | ⟨v, y, l1, _⟩
          · exact z
          · rw [hl] at l1; cases l1
        refine ⟨a, dx, xs, rv1, e1, l2, ρ, h1, _, S.step s1 r1, q1, fun vs h2 ys H2 q2 s2 rv2 r2 => ?_⟩
        refine ⟨.ref a :: vs, h2, Q', fun nm pl h' => B.E nm pl ρ h', RVs.cons (by rw [RV]; exact rv1) rv2, r2, q2.1, q2.2, Cn.trans (s1.trans s2), fun nm pl h' cls dd H' hE s3 r3 hm pld => ⟨nm, pl, ρ, h', hm, S.step (s1.trans (s2.trans s3)) r3, pld, hE⟩⟩
      · exact q1.elim
    · exact q1.elim
  · subst ex
    obtain rfl : u = Value.ref a := rx
    refine getmeth_ok I1 ea c hm l ?_
    refine PySem.W.callWith_K (first := [.ref a]) (h₀ := X.base) I.ok.mod.kin hm.kp (thn (ha.run pos pins s1 σ H1 _ I1 q) fun us s2 ⟨vs, H2, I2, r, q2⟩ => ⟨I2.kIn, ?_⟩) hst hpl
    exact run_fnS (us := .ref a :: us) (vs := .ref a :: vs) (E := WE (wx X.mg X.K B)) G hr hb (passAt tk σ) I2 (.cons rfl r) q2
@[simp] def dNew (C : Addr) (n : Nat) (fs : SpF) (aa : AD) : ED := fun ρ h Q E => aa ρ h (fun vs h1 => ∀ a, h1 a = none → vs.length + 1 = n ∧ fs (.ref a :: vs) (put h1 a (.ins C [])) (fun v h2 => v = .non ∧ Q (.ref a) h2) (fun nm pl h' => E nm pl ρ h')) E
theorem run_makeS {CX : CXT} {k : Nat} {f : Addr} {fd : FuncData} {ps : List Str} {sp : Sp} {E : XK} {pins : List (Addr × Obj)} {σ : L2.St} {H : Hp} {s : Shared} {Q : VK} {us : List Value} {vs : List V} (M : Mk X.K C f) (F : FnOk X.prog X.w X.K X.mg X.base CX k f fd ps sp) (hr : Room (k + 1) X.A) (hb : L2.Binds X.K fd ps [])
    (hx : PassesAt CX X σ E) (I : Inv X pins σ H s) (r : Vals vs us)
    (h : ∀ x dx, H x = none → H dx = none → dx ≠ x → sp (.ref x :: vs) (upd (upd H dx (.own x)) x (.ins C dx [])) (fun v H2 => v = .non ∧ Q (.ref x) H2) E) :
    wpAny (model X.prog X.w) X.A (call (.ref C) us) (EP X pins σ Q) X.xe s := by
  have hq := h (s.heap.objs.size + 1) s.heap.objs.size (I.hok.fresh (Nat.le_succ _)) (I.hok.fresh (Nat.le_refl _)) (Nat.ne_of_lt (Nat.lt_succ_self _))
  have I2 := Inv.made (C := C) I
  have r2 : Vals (V.ref (s.heap.objs.size + 1) :: vs) (Value.ref (s.heap.objs.size + 1) :: us) := .cons rfl r
  have hl : (Value.ref (s.heap.objs.size + 1) :: us ++ []).length = ps.length := by
    have e := r2.length
    rw [F.len _ _ _ _ hq] at e
    rw [List.append_nil]
    exact e.symm
  have b := hb _ (Value.ref (s.heap.objs.size + 1) :: us) I2.kIn hl
  rw [List.append_nil] at b
  refine wpAny_call (make_map (f := f) I.kIn M.makes M.init (beq_iff_eq.mp M.fn) (codeAny_mono (F.run _ X.stack _ _ ⟨Value.ref (s.heap.objs.size + 1) :: us, []⟩ (Value.ref (s.heap.objs.size + 1) :: us) _ _ E (hr.make C us [])
    (I2.env0.make C us []) b r2 hq) fun r s' hq' => ?_))
  cases r with
  | error e => exact hx pins _ _ e s' I2 hq'
  | ok fl =>
    cases fl with
    | ret u =>
      obtain ⟨v, H', I3, rv, ev, q3⟩ := I2.after hq'
      subst ev
      exact ⟨rv, ⟨V.ref (s.heap.objs.size + 1), H', I3, rfl, q3⟩⟩
    | next => exact False.elim hq'
    | brk => exact False.elim hq'
    | cont => exact False.elim hq'
def MkF (P : Program) (w : World) (K : PySem.W.Frag) (mg : Str → Option Value) (base : Heap) (A : Around) (x : Str) (C : Addr) (n : Nat) (fs : SpF) : Prop :=
  ∃ (k : Nat) (f : Addr) (fd : FuncData) (ps : List Str), FnOk P w K mg base (L2.CX P w) k f fd ps (spA K mg n fs) ∧ Room (k + 1) A ∧ Mk K C f ∧ mg x = some (.ref C) ∧ L2.Binds K fd ps []
theorem de_new {n : Nat} {fs : SpF} (F : MkF X.prog X.w X.K X.mg X.base X.A x C n fs) (tk : TakesB X B) (ha : DA X B (e :: es) aa) (hg : Gl X x := by rfl) (hdb : (x == ("__debug__" : Str)) = false := by decide)
    (he : starEach (e :: es) X.env = (false, eval e X.env) :: starEach es X.env := by rfl) (hpl : (backTo pos (starEach es X.env)).any (·.1) = false := by rfl) : DE X B (.Call (.Name x p) (e :: es) [] pos) (dNew C n fs aa) := by
  obtain ⟨k, f, fd, ps, G, hr, M, hm, hb⟩ := F
  refine ⟨fun pins s σ H Q I ⟨ρ, h, Q', S, q, Cn⟩ => ?_⟩
  refine wpAny_Call_Name_kw (ld_glob I hg hm ?_ hdb)
  refine PySem.W.callWith_K (h₀ := X.base) I.ok.mod.kin M.kp (thn (ha.run pos pins s σ H (fun vs H1 => ∀ x dx, H1 x = none → H1 dx = none → dx ≠ x → spA X.K X.mg n fs (.ref x :: vs) (upd (upd H1 dx (.own x)) x (.ins C dx [])) (fun v H2 => v = .non ∧ Q (.ref x) H2) (WE (wx X.mg X.K B) σ)) I ⟨ρ, h, _, S, q, fun vs h1 xs H1 q1 s1 rv1 r1 a dx na nd ne => ?_⟩) fun us s1 ⟨vs, H1, I1, r, q⟩ => ⟨I1.kIn, ?_⟩) he hpl
  · have q2 := q1 a (r1.nof na)
    have sa : Step h1 H1 h1 (upd H1 dx (.own a)) := Step.fresh nd
    have na' : upd H1 dx (.own a) a = none := by rw [upd_ne (Ne.symm ne)]; exact na
    have ra := r1.fresh (o := .own a) nd
    have sb : Step h1 (upd H1 dx (.own a)) (put h1 a (.ins C [])) (upd (upd H1 dx (.own a)) a (.ins C dx [])) := Step.new na'
    have rb : RH X.K (upd (upd H1 dx (.own a)) a (.ins C dx [])) (put h1 a (.ins C [])) := ra.new na' ⟨dx, [], upd_same, by rw [upd_ne ne, upd_same], by rw [put_ne ne]; exact r1.nof nd, rfl⟩
    have s12 := sa.trans sb
    refine ⟨.ref a :: vs, put h1 a (.ins C []), _, fun nm pl h' => B.E nm pl ρ h', RVs.cons (by rw [RV]) (rv1.step s12), rb, q2.1, q2.2, fun v h2 y H2 q3 s3 rv3 r3 => ?_, fun nm pl h' cls dd H' hE s3 r3 hm pld => ⟨nm, pl, ρ, h', hm, S.step (s1.trans (s12.trans s3)) r3, pld, hE⟩⟩
    obtain ⟨rfl, q3⟩ := q3
    rw [RV] at rv3
    exact ⟨rv3, Cn _ _ _ _ q3 (s1.trans (s12.trans s3)) (by rw [RV]) r3⟩
  · exact run_makeS (E := WE (wx X.mg X.K B) σ) M G hr hb (passAt tk σ) I1 r q
end
end DL
namespace DL
open PySem PySem.Spec PyProof.Rows L2
section
variable {X : Cx} {pins : List (Addr × Obj)} {σ : L2.St} {H : Hp} {s : Shared}
structure Own (X : Cx) (pins : List (Addr × Obj)) (b : Addr) : Prop where
  sz : X.s_0.heap.objs.size ≤ b
  L : b ≠ X.env.locals
  c : ∀ x c, X.env.cells.lookup x = some c → c ≠ b
  p : ∀ p ∈ X.pn ++ pins, p.1 ≠ b
  fs : b ∉ X.fs
theorem own_of (I : Inv X pins σ H s) {b : Addr} (hb : s.heap.objs.size ≤ b) : Own X pins b where
  sz := Nat.le_trans I.sz hb
  L := fun e => absurd (e ▸ I.lt) (Nat.not_lt.mpr hb)
  c := fun x c e z => by
    obtain ⟨v, o, ho, _⟩ := I.cell x c e
    exact absurd (z ▸ Heap.lt_size ho) (Nat.not_lt.mpr hb)
  p := fun p hp z => by
    exact absurd (z ▸ Heap.lt_size (I.pin p hp).1) (Nat.not_lt.mpr hb)
  fs := I.nofs hb
theorem Inv.ownw {b : Addr} {h' : Heap} {t' : Nat} (I : Inv X pins σ H s) (o : Own X pins b) (hn : H b = none) (hs : Heap.SameBut b s.heap h') : Inv X pins σ H { s with heap := h', toks := t' } :=
  I.turned (fun c u hc e => (hs.2 c hc).trans e) hn o.L (.inr o.sz) o.c o.p
theorem Inv.fewer {more : List (Addr × Obj)} (I : Inv X (more ++ pins) σ H s) : Inv X pins σ H s := I.pins_of fun p hp => I.pin p (List.mem_append_right _ (List.mem_append_right _ hp))
theorem inv_sorted {a kS : Addr} {h' : Heap} {t' : Nat} {ys : List V} {out : List Value} {c : Nat} (I : Inv X pins σ H s) (oa : Own X pins a) (ok : Own X pins kS) (na : H a = none) (nk : H kS = none) (keep : ∀ b o, b ≠ a → b ≠ kS → s.heap.get? b = some o → h'.get? b = some o)
    (ha : h'.get? a = some (seqObj "list" out.toArray c)) (hz : ys.length ≤ sizeLine) (rv : Vals ys out) : Inv X pins σ (upd H a (.lst ys)) { s with heap := h', toks := t' } := by
  have nt : ∀ b u, H b = some u → b ≠ a := fun b u e z => by rw [z, na] at e; cases e
  have ntk : ∀ b u, H b = some u → b ≠ kS := fun b u e z => by rw [z, nk] at e; cases e
  refine I.step (g' := s.gens) (d' := s.drawn) (ch := [a, kS]) (fun b hb => ?_) (fun b o _ _ hc e _ => keep b o (fun z => hc (by simp [z])) (fun z => hc (by simp [z])) e) (fun b o _ _ hc e _ => ⟨o.slots, keep b o (fun z => hc (by simp [z])) (fun z => hc (by simp [z])) e⟩)
    (fun b o hc e n => by rw [upd_ne (fun z => hc (by simp [z]))]; exact n) (fun b o hc e => ⟨o, keep b o (fun z => hc (by simp [z])) (fun z => hc (by simp [z])) e⟩)
    (fun b xs e => by rw [upd_ne (nt b _ e)]; exact e) (fun b o u e => by rw [upd_ne (nt b _ e)]; exact e) (fun b ps e => ⟨#[], by rw [upd_ne (nt b _ e), e]; simp⟩) (fun m hm => ?_) (fun b u e => ?_) I.bare
  · rcases List.mem_cons.mp hb with z | hb
    · subst z; exact ⟨.inr oa.sz, oa.L, oa.c, oa.p⟩
    · rw [List.mem_singleton.mp hb]; exact ⟨.inr ok.sz, ok.L, ok.c, ok.p⟩
  · obtain ⟨o, es, ep, ho, r⟩ := hm
    exact ⟨o, es, ep, keep _ o (Ne.symm oa.L) (Ne.symm ok.L) ho, r⟩
  · by_cases hb : b = a
    · subst hb
      rw [upd_same] at e
      cases e
      exact ⟨hz, out, c, rv, ha⟩
    · rw [upd_ne hb] at e
      refine (I.hok b u e).stay (fun d v hd q => keep d v ?_ ?_ q) (fun d q => by rw [upd_ne (nt d _ q)]; exact q) fun d xs q => by rw [upd_ne (nt d _ q)]; exact q
      · rcases hd with z | z
        · rw [z]; exact hb
        · exact nt d _ z
      · rcases hd with z | z
        · rw [z]; exact ntk b _ e
        · exact ntk d _ z
end
theorem vals_zip : ∀ {ws : List Val} {xs : List V} {its : List Value}, ws.length = xs.length → Vals xs its → PySem.W.EachIs (fun u (b : Val × V) => RelV b.2 u) its (ws.zip xs)
  | [], xs, its, hl, r => by
    have : xs = [] := List.length_eq_zero_iff.mp hl.symm
    subst this
    cases r
    exact .nil
  | w :: ws, [], its, hl, r => by simp at hl
  | w :: ws, x :: xs, its, hl, r => by
    cases r with
    | cons r1 r2 => exact .cons r1 (vals_zip (by simpa using hl) r2)
theorem vals_each : ∀ {bs : List (Val × V)} {out : List Value}, PySem.W.EachIs (fun u (b : Val × V) => RelV b.2 u) out bs → Vals (bs.map (·.2)) out
  | [], out, e => by cases e; exact .nil
  | b :: bs, out, e => by
    cases e with
    | cons e1 e2 => exact .cons e1 (vals_each e2)
theorem rvs_zip {K : PySem.W.Frag} {H : Hp} {h : Hv} : ∀ {ws : List Val} {xs : List V}, RVs K H h ws xs → ∀ b ∈ ws.zip xs, RV K H h b.1 b.2
  | [], xs, r, b, hb => by simp at hb
  | w :: ws, xs, r, b, hb => by
    rw [RVs] at r
    obtain ⟨y, ys, e, r1, r2⟩ := r
    subst e
    rw [List.zip_cons_cons] at hb
    rcases List.mem_cons.mp hb with z | z
    · rw [z]; exact r1
    · exact rvs_zip r2 b z
theorem rvs_of_all {K : PySem.W.Frag} {H : Hp} {h : Hv} : ∀ {bs : List (Val × V)}, (∀ b ∈ bs, RV K H h b.1 b.2) → RVs K H h (bs.map (·.1)) (bs.map (·.2))
  | [], _ => RVs.nil
  | b :: bs, e => RVs.cons (e b List.mem_cons_self) (rvs_of_all fun c hc => e c (List.mem_cons_of_mem _ hc))
theorem each_keys_of {K : PySem.W.Frag} {X : Cx} {pins : List (Addr × Obj)} {σ : L2.St} {H : Hp} {s : Shared} {h : Hv} (I : Inv X pins σ H s) (hK : X.K = K) (k : Val → Val) (kd : Val → PyData) : ∀ {ws : List Val} {ys : List V} {us : List Value}, (∀ w ∈ ws, dat (k w) = some (kd w)) → RVs K H h (ws.map k) ys → Vals ys us →
    PySem.W.EachIs (fun v d => ∃ as, Reads s.heap v d as) us (ws.map kd)
  | [], ys, us, _, r, v => by
    rw [List.map_nil, RVs] at r
    subst r
    cases v
    exact .nil
  | w :: ws, ys, us, hd, r, v => by
    rw [List.map_cons, RVs] at r
    obtain ⟨y, zs, e, r1, r2⟩ := r
    subst e
    cases v with
    | cons v1 v2 =>
      subst hK
      exact .cons (Dp.reads I _ _ _ (dat_rel r1 (hd w List.mem_cons_self)) v1) (each_keys_of I rfl k kd (fun w hw => hd w (List.mem_cons_of_mem _ hw)) r2 v2)
section
variable {X : Cx} {pins : List (Addr × Obj)} {σ : L2.St} {H : Hp} {s : Shared} {h : Hv}
theorem sorted_keyI {Q : VK} {l f : Addr} {ws : List Val} {xs : List V} (k : Val → Val) (kd : Val → PyData) (I : Inv X pins σ H s) (r : RH X.K H h) (hl : SqL X.K H l xs) (rs : RVs X.K H h ws xs)
    (hk : ∀ w ∈ ws, dat (k w) = some (kd w)) (hal : PySem.W.AllAlike (ws.map kd)) (hsk : PySem.W.Sortable (ws.map kd)) (hu : ∀ w ∈ ws, X.A.units + 2 + (kd w).depth < cLine)
    (turn : ∀ (more : List (Addr × Obj)) (w : Val) (x : V) (u : Value) (s' : Shared) (H' : Hp), w ∈ ws → Inv X (more ++ pins) σ H' s' → Step h H h H' → RH X.K H' h → RV X.K H' h w x → RelV x u →
      wpAny (model X.prog X.w) X.A.in1.in1 (call (.ref f) [u]) (EP X (more ++ pins) σ (fun y H2 => Step h H' h H2 ∧ RH X.K H2 h ∧ RV X.K H2 h (k w) y)) (fun _ _ => False) s')
    (q : ∀ p H' ys, Step h H h H' → RH X.K H' h → H' p = none → RVs X.K H' h (ws.mergeSort (PySem.W.dataLe false kd)) ys → Q (.ref p) (upd H' p (.lst ys))) :
    wpAny (model X.prog X.w) X.A (call (.builtin "sorted") [.ref l] [(Str.ofString "key", .ref f)]) (EP X pins σ Q) X.xe s := by
  obtain ⟨its, rv, hpl, hz⟩ := I.list hl
  have hwx : ws.length = xs.length := rs.len
  have hlen : its.length = ws.length := by rw [← rv.length]; exact hwx.symm
  have hZ : its.length ≤ sizeLine := by rw [← rv.length]; exact hz
  refine PySem.W.sorted_of_sort hpl.isList hZ (PyProof.Rows.ksk_s1 _ _) (fun _ => PyProof.Rows.ksk_l1 _ _) fun E' => ?_
  rw [PyProof.Rows.ksk_t1]
  have h0 := PySem.W.copyHeap_at s.heap its
  have I0 : Inv X pins σ H { s with heap := PySem.W.copyHeap s.heap its } := I.kept fun b u e => PySem.W.copyHeap_old e
  have oa : Own X pins (s.heap.objs.size + 1) := own_of I (Nat.le_succ _)
  have na : H (s.heap.objs.size + 1) = none := I.hok.fresh (Nat.le_succ _)
  generalize s.heap.objs.size + 1 = a at *
  generalize PySem.W.copyHeap s.heap its = h1 at *
  obtain ⟨e1, ho1⟩ : ∃ e1, (h1.update a (Obj.mapSeq fun _ => (#[] : Array Value))).get? a = some (seqObj "list" #[] e1) := ⟨_, get?_update_seq h0 fun _ => #[]⟩
  unfold PyProof.Rows.ksk_tree
  refine wpAny_bind (listItems_at h0 rfl ?_)
  refine wpAny_bind (listUpdate_at h0 rfl ?_ (by rw [List.size_toArray]; exact hZ) (Nat.zero_le _))
  refine wpAny_bind (seqEpoch_at ho1 rfl ?_)
  refine wpAny_bind (wpAny_newTuple ?_ (by show its.length ≤ _; exact hZ))
  refine wpAny_bind (wpAny_newList ?_ (Nat.zero_le _))
  refine wpAny_holding ?_
  have I1 : Inv X pins σ H { s with heap := h1.update a (Obj.mapSeq fun _ => (#[] : Array Value)) } := Inv.ownw (s := { s with heap := h1 }) (t' := s.toks) I0 oa na (Heap.SameBut.update h1 a _)
  dsimp only
  generalize h1.update a (Obj.mapSeq fun _ => (#[] : Array Value)) = h2 at *
  have I2 : Inv X pins σ H { s with heap := (h2.push (seqObj "tuple" its.toArray 0)).push (seqObj "list" #[] 0) } := I1.kept fun b u e => Heap.get?_push_of_some _ (Heap.get?_push_of_some _ e)
  have hkn : H (h2.push (seqObj "tuple" its.toArray 0)).objs.size = none := I1.hok.fresh (by show h2.objs.size ≤ _; rw [Heap.size_push]; omega)
  have hkS : ((h2.push (seqObj "tuple" its.toArray 0)).push (seqObj "list" #[] 0)).get? (h2.push (seqObj "tuple" its.toArray 0)).objs.size = some (seqObj "list" #[] 0) := Heap.get?_push_size _ rfl
  have okS : Own X pins (h2.push (seqObj "tuple" its.toArray 0)).objs.size := own_of I1 (by show h2.objs.size ≤ _; rw [Heap.size_push]; omega)
  have haS : ((h2.push (seqObj "tuple" its.toArray 0)).push (seqObj "list" #[] 0)).get? a = some (seqObj "list" #[] e1) := Heap.get?_push_of_some _ (Heap.get?_push_of_some _ ho1)
  have hka : (h2.push (seqObj "tuple" its.toArray 0)).objs.size ≠ a := fun z => by
    have := Heap.lt_size ho1
    rw [← z, Heap.size_push] at this
    exact absurd this (Nat.not_lt.mpr (Nat.le_succ _))
  generalize (h2.push (seqObj "tuple" its.toArray 0)).objs.size = kS at *
  generalize (h2.push (seqObj "tuple" its.toArray 0)).push (seqObj "list" #[] 0) = h3 at *
  unfold PyProof.Rows.ksk_rest
  refine wpAny_bind (wpAny_rule ?_)
  first
    | rw [List.forIn_toArray]
    | (rw [← Array.forIn_toList]; simp only [List.toList_toArray])
    | rw [← Array.forIn_toList]
  have pinsOk : ∀ {H' : Hp} {s' : Shared} {kA : Array Value} {e : Nat}, Inv X pins σ H' s' → s'.heap.get? kS = some (seqObj "list" kA e) → s'.heap.get? a = some (seqObj "list" #[] e1) → H' kS = none → H' a = none →
      Inv X ([(kS, seqObj "list" kA e), (a, seqObj "list" #[] e1)] ++ pins) σ H' s' := fun {H' s' kA e} J g1 g2 n1 n2 => J.pins_of fun p hp => by
    rcases List.mem_append.mp hp with hp | hp
    · rcases List.mem_cons.mp hp with z | hp
      · subst z; exact ⟨g1, n1, okS.L, okS.fs, fun v z => by cases z⟩
      · rw [List.mem_singleton.mp hp]; exact ⟨g2, n2, oa.L, oa.fs, fun v z => by cases z⟩
    · exact J.pin p (List.mem_append_right _ hp)
  refine wpAny_bind (PyProof.Rows.ksk_fold (fun i s' => ∃ H' kA e ys, Inv X pins σ H' s' ∧ s'.heap.get? kS = some (seqObj "list" kA e) ∧ s'.heap.get? a = some (seqObj "list" #[] e1) ∧ H' kS = none ∧ H' a = none ∧ Step h H h H' ∧ RH X.K H' h ∧ Vals ys kA.toList ∧ RVs X.K H' h ((ws.take i).map k) ys) its 0 _
    ⟨H, #[], 0, [], I2, hkS, haS, hkn, na, Step.refl _ _, r, .nil, by rw [List.take_zero]; exact RVs.nil⟩ ?step ?done)
  case step =>
    rintro j u s' hx ⟨H', kA, e, ys, J, g1, g2, n1, n2, st, rH, vy, ry⟩
    simp only [Nat.zero_add] at ry ⊢
    have hj : j < its.length := (List.getElem?_eq_some_iff.mp hx).1
    obtain ⟨w, hw⟩ : ∃ w, ws[j]? = some w := ⟨_, List.getElem?_eq_getElem (by omega)⟩
    obtain ⟨x, hxs, rwx⟩ := rs.get hw
    obtain ⟨u', hu', rxu⟩ := rv.get hxs
    rw [hx] at hu'
    cases hu'
    have hkz : kA.size = j := by
      have z1 : ys.length = kA.toList.length := vy.length
      have z2 : ((ws.take j).map k).length = ys.length := ry.len
      rw [List.length_map, List.length_take] at z2
      have z3 : kA.toList.length = kA.size := Array.length_toList
      rw [← z3, ← z1, ← z2]
      exact Nat.min_eq_left (by omega)
    refine wpAny_bind (wpAny_attempt (wpAny_mono (turn _ w x u s' H' (List.mem_of_getElem? hw) (pinsOk J g1 g2 n1 n2) st rH (rwx.step st) rxu) (fun v s'' he => ?_) fun _ _ hF => hF.elim))
    obtain ⟨y, H2, J2, ryv, st2, rH2, rky⟩ := he
    have p1 := J2.pin (kS, seqObj "list" kA e) (List.mem_append_right _ (List.mem_append_left _ (by simp)))
    have p2 := J2.pin (a, seqObj "list" #[] e1) (List.mem_append_right _ (List.mem_append_left _ (by simp)))
    have J3 : Inv X pins σ H2 s'' := Inv.fewer J2
    have s1 := Heap.SameBut.update s''.heap kS (Obj.mapSeq (·.push v))
    obtain ⟨c2, hc2⟩ : ∃ c2, (s''.heap.update kS (Obj.mapSeq (·.push v))).get? kS = some (seqObj "list" (kA.push v) c2) := ⟨_, get?_update_seq p1.1 (·.push v)⟩
    dsimp only
    refine wpAny_bind (listUpdate_at p1.1 rfl ?_ (by rw [hkz]; omega) (by rw [Array.size_push, hkz]; omega))
    have ek : ws.take (j + 1) = ws.take j ++ [w] := by rw [List.take_add_one, hw]; simp
    refine wpAny_pure ⟨rfl, H2, kA.push v, c2, ys ++ [y], Inv.ownw (t' := s''.toks) J3 okS p1.2.1 s1, hc2, (s1.2 a (Ne.symm hka)).trans p2.1, p1.2.1, p2.2.1, st.trans st2, rH2, ?_, ?_⟩
    · rw [Array.toList_push]
      exact Vals.append vy (.cons ryv .nil)
    · rw [ek, List.map_append]
      exact RVs.append (ry.step st2) (RVs.cons rky RVs.nil)
  case done =>
    rintro s' ⟨H', kA, e, ys, J, g1, g2, n1, n2, st, rH, vy, ry⟩
    have e3 : ws.take (0 + its.length) = ws := List.take_of_length_le (by omega)
    rw [e3] at ry
    have hk' := each_keys_of J rfl k kd hk ry vy
    have hsz : kA.size = its.length := by
      have z1 : ys.length = kA.toList.length := vy.length
      have z2 : (ws.map k).length = ys.length := ry.len
      rw [List.length_map] at z2
      have z3 : kA.toList.length = kA.size := Array.length_toList
      rw [← z3, ← z1, ← z2, hlen]
    refine wpAny_bind (listItems_at g1 rfl ?_)
    refine PySem.W.keyH_end (κ := PySem.W.dataKind s'.heap (ws.map kd)) (h₁ := PySem.W.hideAll s'.heap [kS]) (fun b o hb eb => PySem.W.of_hideAll _ eb) (PySem.W.hideAll_none _ (by simp)) g1 g2 hka (PySem.W.SortsAt.data (s := s') hk' hal hsk (fun d hd => ?_)) hsz hZ fun h' tk c kb hc => ⟨rfl, ?_⟩
    · obtain ⟨w, hw, rfl⟩ := List.mem_map.mp hd
      have := hu w hw
      show X.A.units + 1 + 1 + _ < _
      omega
    · have kz : (fun b : Val × V => kd b.1) = (fun b : Val × V => kd b.1) := rfl
      have em : (ws.zip xs).map (fun b : Val × V => kd b.1) = ws.map kd := by
        rw [show (fun b : Val × V => kd b.1) = kd ∘ Prod.fst from rfl, ← List.map_map, List.map_fst_zip (by omega)]
      have ko : PySem.W.KeyedOut false ((ws.zip xs).map fun b : Val × V => kd b.1) its (PySem.W.sortVals (PySem.W.dataKind s'.heap (ws.map kd)) false kA.toList its) := by
        rw [em]; exact ⟨s'.heap, kA.toList, hal, rfl, hk'⟩
      have ea := PySem.W.keyedOut_each (fun b : Val × V => kd b.1) ko (vals_zip hwx rv)
      have vf := vals_each ea
      have hm : ((ws.zip xs).mergeSort (PySem.W.dataLe false fun b : Val × V => kd b.1)).map (·.1) = ws.mergeSort (PySem.W.dataLe false kd) := by
        rw [List.map_mergeSort (r := PySem.W.dataLe false fun b : Val × V => kd b.1) (s := PySem.W.dataLe false kd) (f := fun b : Val × V => b.1) (fun a _ b _ => rfl), List.map_fst_zip (by omega)]
      have rf : RVs X.K H' h (ws.mergeSort (PySem.W.dataLe false kd)) (((ws.zip xs).mergeSort (PySem.W.dataLe false fun b : Val × V => kd b.1)).map (·.2)) := by
        rw [← hm]
        refine rvs_of_all fun b hb => ?_
        exact (rvs_zip rs b (List.mem_mergeSort.mp hb)).step st
      refine ⟨.ref a, _, inv_sorted (t' := tk) J oa okS n2 n1 (fun b o hb hk0 eb => kb b o hb (PySem.W.hideAll_get _ eb (by simpa using hk0))) hc ?_ vf, rfl, q a H' _ st rH n2 rf⟩
      · rw [List.length_map, List.length_mergeSort, List.length_zip]; omega
end
theorem cxF {P : Program} {w : World} {outer : List Env} {H : Hp} {s s' : Shared} {e : Value} (z : L2.CX P w outer H s (fun _ _ _ => False) e s') : False := by
  obtain ⟨_, _, _, _, _, _, _, _, _, _, _, _, hE⟩ := z
  exact hE
theorem lam1_run {P : Program} {w : World} {K : PySem.W.Frag} {mg : Str → Option Value} {base : Heap} {A : Around} {outer : List Env} {s : Shared} {H : Hp} {k : Nat} {f c' : Addr} {q a : Str} {params : Arguments} {body : Expr} {scope : Scope} {pm ctv u : Value} {x : V} {Q : VK} {E : XK} {t : TE}
    (S : FnScope [a] [a] scope) (hr : Room (k + 1) A) (e0 : Env0 P w K mg base A outer s H) (hf : s.heap.get? f = some (PySem.W.kla_obj "<lambda>" q params body scope [] pm c' ctv)) (hc : s.heap.CodeRec (.ref c') q)
    (hb : bindArgs (PySem.W.kla_fn "<lambda>" q params body scope [] pm (.ref c') ctv) ⟨[u], []⟩ = pure [(a, u)]) (r : RelV x u)
    (hbody : Room k (A.deeper (envOfC q scope s.heap.objs.size f (.ref c'))) → PE (cxOf (L2.CX P w) P w K mg base [a] q scope f (.ref c') A outer s H E) body t) (ht : t [some x] H Q) :
    codeAny (model P w) A (.call (.ref f) ⟨[u], []⟩) (CR (L2.CX P w) outer P w H s Q E) s := by
  have lim : s.heap.NoLimit := e0.mod.nolimit.keeps fun b o e => (e0.bs b o e).1
  have hkind : ∀ y ∈ [a].zip [u], scope.names.lookup y.1 = some .local ∨ (scope.names.lookup y.1 = some .cell ∧ ((cellsFrom (s.heap.objs.size + 1) scope.names []).lookup y.1).isSome = true) := fun ⟨n, v⟩ hy => by
    rcases S.par n (List.of_mem_zip hy).1 with q | q
    · exact .inl q
    · exact .inr ⟨q, PySem.W.cellsFrom_some _ _ _ (.inl q)⟩
  refine PySem.W.kla_callFunE hr.depth hf rfl S.co S.gen rfl hc ?_
  rw [hb]
  refine wpAny_pure (wpAny_newFunctionEnv_cells (binds := [a].zip [u]) S.kind hkind fun env he s1 xx => ?_)
  subst he
  refine ⟨lim.keeps xx.toInCall.keep, ?_⟩
  have I : Inv (cxOf (L2.CX P w) P w K mg base [a] q scope f (.ref c') A outer s H E) [] (L2.start [a] [x]) H s1 := inv_start S hr.hd e0 rfl (.cons r .nil) xx
  refine PySem.W.kla_codeExpr (wpAny_mono ((hbody (hr.deeper _)).run [] s1 (L2.start [a] [x]) H Q I ht) (fun v s' hq => ?_) fun e s' hq => hq)
  obtain ⟨w', H', J', rv, qq⟩ := hq
  exact ⟨w', H', J'.os, J'.bare, J'.base, J'.hok, rv, qq⟩
structure KeysOk (h1 : Hv) (d : ED) (ws : List Val) (k : Val → Val) (kd : Val → PyData) : Prop where
  dat : ∀ w ∈ ws, dat (k w) = some (kd w)
  al : PySem.W.AllAlike (ws.map kd)
  so : PySem.W.Sortable (ws.map kd)
  dp : ∀ w ∈ ws, (kd w).depth ≤ 20
  run : ∀ w ∈ ws, ∀ Q' : PV, Q' (k w) h1 → d [some w] h1 Q' EF
def dSortK (Ts : List (Addr × Str)) (P : Addr) (q : Str) (aa : AD) (d : ED) : ED := fun ρ h Q E => aa ρ h (fun vs h1 => match vs with
  | [v] => Tbs Ts h1 ∧ (P, q) ∈ Ts ∧ ∃ (ws : List Val) (k : Val → Val) (kd : Val → PyData), listOf v h1 = some ws ∧ KeysOk h1 d ws k kd ∧ Q (.lst (ws.mergeSort (PySem.W.dataLe false kd))) h1
  | _ => False) E
theorem de_sortK {X : Cx} {B : Bs} {Ts : List (Addr × Str)} {c P : Addr} {k : Nat} {a : Str} {e : Expr} {aa : AD} {d : ED} {params : Arguments} {body : Expr} {scope : Scope} {p lpos kpos pos : Pos} (hm : X.mg "sorted" = none) (TB : LamX.TabB X.base X.mg c P) (hcode : X.env.code = .ref c) (hr : Room (k + 3) X.A) (ha : DA X B [e] aa)
    (S : FnScope [a] [a] scope) (hnc : ∀ cells, cloFrom cells scope.names [] = [])
    (hbody : ∀ (A : Around) (outer : List Env) (s : Shared) (H : Hp) (E : XK) (f c' : Addr) (B' : Bs), Room k (A.deeper (envOfC (X.env.qual ++ "<lambda>") scope s.heap.objs.size f (.ref c'))) → TakesB (cxOf (L2.CX X.prog X.w) X.prog X.w X.K X.mg X.base [a] (X.env.qual ++ "<lambda>") scope f (.ref c') A outer s H E) B' → DE (cxOf (L2.CX X.prog X.w) X.prog X.w X.K X.mg X.base [a] (X.env.qual ++ "<lambda>") scope f (.ref c') A outer s H E) B' body d)
    (hg : Gl X "sorted" := by rfl) (hdef : defaultsOf params X.env = ([], []) := by rfl) (hbind : ∀ (q : Str) (pm cv ctv u : Value), bindArgs (PySem.W.kla_fn "<lambda>" q params body scope [] pm cv ctv) ⟨[u], []⟩ = pure [(a, u)] := by intros; rfl)
    (he : backTo pos (starEach [e] X.env) = (false, eval e X.env) :: backTo pos (starEach [] X.env) := by rfl) (hpl : (backTo pos (starEach [e] X.env)).any (·.1) = false := by rfl) :
    DE X B (.Call (.Name "sorted" p) [e] [⟨some "key", .Lambda params body scope lpos, kpos⟩] pos) (dSortK Ts P (X.env.qual ++ "<lambda>") aa d) := by
  refine ⟨fun pins s σ H Q I ⟨ρ, h, Q', S0, q, C⟩ => ?_⟩
  refine wpAny_Call_Name_kw (ld_blt I hg hm bt_sorted ?_ (by decide) (by decide))
  have hA := ha.run pos pins s σ H (fun vs H1 => ∃ l xs h1 ws, ∃ (kf : Val → Val) (kd : Val → PyData), vs = [V.ref l] ∧ ST X.K B σ H1 ρ h1 ∧ H1 l = some (.lst xs) ∧ RVs X.K H1 h1 ws xs ∧ Tbs Ts h1 ∧ (P, X.env.qual ++ "<lambda>") ∈ Ts ∧ KeysOk h1 d ws kf kd ∧ Q' (.lst (ws.mergeSort (PySem.W.dataLe false kd))) h1 ∧ Cont X.K h1 H1 Q' Q) I ⟨ρ, h, _, S0, q, fun vs h1 xs H1 q1 s1 rv1 r1 => ?_⟩
  · refine PyProof.Rows.callWith_kw (thn hA fun us s1 ⟨vs, H1, I1, r1, l, xs, h1, ws, kf, kd, ev, S1, sq, rs, tb, hin, ko, hQ, C1⟩ => ?_) he hpl (by rfl) (by rfl)
    subst ev
    obtain ⟨u, rfl, ru⟩ := vals1 r1
    obtain rfl : u = Value.ref l := ru
    show wpAny _ _ (evalAll [do let v ← eval (.Lambda params body scope lpos) X.env; standAt pos; pure v]) _ _ s1
    refine wpAny_evalAll_cons (wpAny_bind (LamX.lam_make2 I1 TB hcode hin (tb.uniq hin) (tb.tabs S1.r) hdef (fun y hy hfr => absurd hfr (S.nofree y hy)) fun f c' pm' ctv H2 s2 I2 eN T2 hf hfn hfs hco => wpAny_bind (wpAny_standAt (wpAny_pure (wpAny_evalAll_nil ?_)))))
    rw [hnc] at hf
    obtain ⟨r2, st2⟩ := tb.step S1.r eN T2
    have hsq : H2 l = some (.lst xs) := eN l _ sq nt_lst
    have fL : f ≠ X.env.locals := fun z => by
      obtain ⟨m, ⟨o', es', ep', ho', hd', _⟩, _⟩ := I2.loc
      rw [← z, hf] at ho'
      cases ho'
      cases hd'
    have fF : f ∉ X.fs := fun z => hfs (by
      rcases I2.ok.stk with e | ⟨e, _⟩
      · rw [e]; exact z
      · rw [e]; unfold frs; rw [List.filterMap_cons]; split
        · exact z
        · exact List.mem_cons_of_mem _ z)
    have I3 : Inv X ([(f, PySem.W.kla_obj "<lambda>" (X.env.qual ++ "<lambda>") params body scope [] pm' c' ctv)] ++ pins) σ H2 s2 := I2.pins_of fun p hp => by
      rcases List.mem_append.mp hp with hp | hp
      · rw [List.mem_singleton.mp hp]; exact ⟨hf, hfn, fL, fF, fun v z => by cases z⟩
      · exact I2.pin p (List.mem_append_right _ hp)
    have hco2 : h1 c' = none := by
      obtain ⟨_, _, _, zz⟩ := r2 P _ (tb.has _ hin)
      cases hx : h1 c' with
      | none => rfl
      | some ob =>
        exact absurd hco (ro_noext (r2 c' ob hx))
    refine wpAny_mono (sorted_keyI (h := h1) (Q := Q) (f := f) kf kd I3 r2 (.of hsq) (rs.step st2) ko.dat ko.al ko.so (fun w hw => ?_) (fun more w x u s' H' hw J st rH rx ru => ?_) (fun p H' ys st rH np rys => ?_)) (fun v s' ⟨y, H', J, ry, qq⟩ => ⟨y, H', Inv.fewer J, ry, qq⟩) fun e s' z => z
    · have := ko.dp w hw
      have := hr.un
      omega
    · have hcx : H' c' = some (LamX.CodeO c' (X.env.qual ++ "<lambda>")) := (st.n c' _ hco hco2 (fun ps => LamX.codeO_ne ps)).1
      have hfx := (J.pin (f, PySem.W.kla_obj "<lambda>" (X.env.qual ++ "<lambda>") params body scope [] pm' c' ctv) (List.mem_append_right _ (List.mem_append_right _ (by simp)))).1
      obtain ⟨⟨oc, vs, t, hoc, hdc, hvc⟩, _, _⟩ := J.hok c' _ hcx
      refine wpAny_call (codeAny_mono (lam1_run (k := k) (Q := fun y H2 => Step h1 H' h1 H2 ∧ RH X.K H2 h1 ∧ RV X.K H2 h1 (kf w) y) (E := fun _ _ _ => False) S hr.in1.in1 J.env0.in1.in1 hfx ⟨c', oc, vs, t, rfl, hoc, hdc, hvc⟩ (hbind _ _ _ _ _) ru (fun hr' => hbody _ _ _ _ _ f c' ⟨EF, h1, H'⟩ hr' takesF) ⟨[some w], h1, fun v h2 => v = kf w ∧ h2 = h1, ⟨⟨rfl, fun i v e => ?_⟩, rH, Step.refl _ _⟩, ko.run w hw _ ⟨rfl, rfl⟩, fun v h' y H2 ⟨ev, eh⟩ st' ry rH' => ?_⟩) fun r s2 hq => ?_)
      · match i, e with
        | 0, e => simp at e; subst e; exact ⟨x, rfl, rx⟩
        | n + 1, e => simp at e
      · subst ev
        subst eh
        exact ⟨st', rH', ry⟩
      · cases r with
        | error e => exact cxF hq
        | ok fl =>
          cases fl with
          | ret u => exact J.after hq
          | next => exact False.elim hq
          | brk => exact False.elim hq
          | cont => exact False.elim hq
    · exact (C1.trans (st2.trans st)).lst rH rys np hQ
  · split at q1
    · rename_i v
      obtain ⟨tb, hin, ws, kf, kd, hl, ko, hQ⟩ := q1
      obtain ⟨x, ex, rx⟩ := rvs1 rv1
      obtain ⟨l, ys, e1, e2, e3⟩ := listOf_rel r1 rx hl
      subst e1
      exact ⟨l, ys, h1, ws, kf, kd, ex, S0.step s1 r1, e2, e3, tb, hin, ko, hQ, C.trans s1⟩
    · exact q1.elim
end DL
namespace DL
open PySem PySem.Spec PyProof.Rows L2
section
variable {X : Cx} {B : Bs} {kx vx tg iter c : Expr} {ifs : List Expr} {scope : Scope} {own : List (Str × Nat)} {pos spos : Pos} {di : ID} {t : Tg} {tt : TD} {tk tv : ED}
end
theorem rgV_ints (a b : Int) : rgV a b = ((List.range (b - a).toNat).map fun (i : Nat) => a + (i : Int)).map V.int := by
  unfold rgV; rw [List.map_map]; rfl
def rgI (a b : Int) : List Int := (List.range (b - a).toNat).map fun (i : Nat) => a + (i : Int)
def dListRange2 (aa : AD) : ED := fun ρ h Q E => aa ρ h (fun vs h1 => match vs with
  | [.int i, .int j] => -1000 ≤ i ∧ i ≤ 1000 ∧ j ≤ 1000 ∧ -1000 ≤ j ∧ Q (.lst ((rgI i j).map .int)) h1
  | _ => False) E
theorem de_listRange2 {X : Cx} {B : Bs} {a b : Expr} {da db : ED} {p p2 q pos : Pos} (hg : Gl X "list") (hm : X.mg "list" = none) (hg2 : Gl X "range") (hm2 : X.mg "range" = none) (ha : DE X B a da) (hb : DE X B b db) (hc : X.calm = true := by rfl)
    (na : starEach [a, b] X.env = (false, eval a X.env) :: starEach [b] X.env := by rfl) (nb : starEach [b] X.env = (false, eval b X.env) :: starEach [] X.env := by rfl) (hp : (backTo q (starEach [b] X.env)).any (·.1) = false := by rfl)
    (nc : starEach [.Call (.Name "range" p2) [a, b] [] q] X.env = (false, eval (.Call (.Name "range" p2) [a, b] [] q) X.env) :: starEach [] X.env := by rfl) : DE X B (.Call (.Name "list" p) [.Call (.Name "range" p2) [a, b] [] q] [] pos) (dListRange2 (aCons da (aCons db aNil))) :=
  PEi (pe_listRg hc hg hm (prg_2 hg2 hm2 ha hb na nb hp) nc) fun σ H Q ⟨ρ, h, Q', S, q, C⟩ => ⟨ρ, h, _, S, q, fun v h1 x H1 q1 s1 rv1 r1 => ⟨ρ, h1, _, S.step s1 r1, q1, fun w h2 y H2 q2 s2 rv2 r2 => by
    have q2 : (match [v, w] with
      | [.int i, .int j] => -1000 ≤ i ∧ i ≤ 1000 ∧ j ≤ 1000 ∧ -1000 ≤ j ∧ Q' (.lst ((rgI i j).map .int)) h2
      | _ => False) := q2
    split at q2
    · rename_i i j e
      cases e
      rw [RV] at rv1 rv2
      refine ⟨i, j, rv1, rv2, ⟨by omega, by omega, by omega, by omega, by omega⟩, fun l hl => ?_⟩
      rw [rgV_ints]
      exact (C.trans (s1.trans s2)).lst r2 (RVs.ofInts _) hl q2.2.2.2.2
    · exact q2.elim⟩⟩
def putFs : List (Str × Val) → List (Str × Val) → List (Str × Val)
  | fl, [] => fl
  | fl, (f, v) :: r => putFs (putFA f v fl) r
def sFlds (C : Addr) (i : Nat) (fs : List Str) (aa : AD) : SD := fun ρ h D E => aa ρ h (fun vs h1 => vs.length = fs.length ∧ fs.length ≤ 5 ∧ match ρ[i]? with
  | some (some (.ref a)) => (match h1 a with
    | some (.ins C' fl) => C' = C ∧ fl.length + 5 < 1000 ∧ D.nx ρ (put h1 a (.ins C (putFs fl (fs.zip vs))))
    | _ => False)
  | _ => False) E
theorem putFA_len (f : Str) (v : Val) : ∀ fl : List (Str × Val), (putFA f v fl).length ≤ fl.length + 1
  | [] => by simp [putFA]
  | (g, x) :: r => by
    unfold putFA
    split
    · simp
    · simp; exact putFA_len f v r
def gFld (K : PySem.W.Frag) (C : Addr) (f : Str) (to : TE) : TG := fun y σ H Q => to σ H fun x H1 => ∃ a dx fs, x = .ref a ∧ H1 a = some (.ins C dx fs) ∧ fs.length < 1000 ∧ Q σ (upd H1 a (.ins C dx (L2.putF f y fs)))
section
variable {X : Cx} {B : Bs} {C : Addr} {pos pos' : Pos}
theorem pg_fld {o : Expr} {f : Str} {to : TE} (c : Cls X.K C) (n : NoAttr X.K C f) (ho : PE X o to) : PG X (.Attribute o f pos) (gFld X.K C f to) := by
  refine ⟨fun pins s σ H v u Q I r h => ?_⟩
  rw [arm_assign_Attribute]
  refine wpAny_bind (wpAny_holding (thn (ho.run pins s σ H _ I h) fun ov s1 ⟨x, H1, I1, rx, a, dx, fs, ex, ea, l, q⟩ => ?_))
  subst ex
  obtain rfl : ov = Value.ref a := rx
  refine wpAny_bind (wpAny_standAt (wpAny_bind (wpAny_holding (setattr_ok I1 ea c n l r fun s3 I3 => ?_))))
  exact wpAny_release ⟨σ, _, I3, q⟩
def gsFld (K : PySem.W.Frag) (C : Addr) (i : Nat) : List Str → TGs
  | [] => gNil
  | f :: fs => gCons (gFld K C f (tVar i)) (gsFld K C i fs)
theorem put_self {h : Hv} {a : Addr} {o : Ob} (e : h a = some o) : put h a o = h := by
  funext b
  unfold put
  by_cases z : b = a
  · subst z; rw [if_pos rfl, e]
  · rw [if_neg z]
theorem flds_rel {K : PySem.W.Frag} {a : Addr} {i : Nat} {σ : L2.St} (hi : σ[i]? = some (some (.ref a))) : ∀ (fs : List Str) (vs : List Val) (xs : List V) (fl : List (Str × Val)) {h : Hv} {H : Hp}, vs.length = fs.length → RVs K H h vs xs → RH K H h → h a = some (.ins C fl) → fl.length + fs.length < 1000 →
    ∀ R : L2.St → Hp → Prop, (∀ H', Step h H (put h a (.ins C (putFs fl (fs.zip vs)))) H' → RH K H' (put h a (.ins C (putFs fl (fs.zip vs)))) → R σ H') → gsFld K C i fs xs σ H R
  | [], [], xs, fl, h, H, hl, rs, r, e, hz, R, hR => by
    rw [RVs] at rs
    subst rs
    refine ⟨rfl, hR H ?_ ?_⟩
    · show Step h H (put h a (.ins C fl)) H
      rw [put_self e]; exact Step.refl _ _
    · show RH K H (put h a (.ins C fl))
      rw [put_self e]; exact r
  | f :: fs, v :: vs, xs, fl, h, H, hl, rs, r, e, hz, R, hR => by
    rw [RVs] at rs
    obtain ⟨y, ys, rfl, r1, r2⟩ := rs
    obtain ⟨dx, zs, e1, e2, n2, rz⟩ := r a _ e
    refine ⟨y, ys, rfl, .ref a, hi, a, dx, zs, rfl, e1, ?_, ?_⟩
    · rw [← rz.len]; rw [List.length_cons] at hz; omega
    · have nb : Ob.ins C fl ≠ .busy := fun z => nomatch z
      have st : Step h H (put h a (.ins C (putFA f v fl))) (upd H a (.ins C dx (L2.putF f y zs))) := Step.write e nb
      have ne : dx ≠ a := fun z => by rw [z, e1] at e2; cases e2
      have r3 : RH K (upd H a (.ins C dx (L2.putF f y zs))) (put h a (.ins C (putFA f v fl))) := r.write e nb ⟨dx, _, upd_same, by rw [upd_ne ne]; exact e2, by rw [put_ne ne]; exact n2, (rz.putF r1).step st⟩
      refine flds_rel hi fs vs ys (putFA f v fl) (by simpa using hl) (r2.step st) r3 put_same (by have := putFA_len f v fl; rw [List.length_cons] at hz; omega) R fun H' s' r' => ?_
      rw [put_put] at s' r'
      exact hR H' (st.trans s') r'
  | [], v :: vs, xs, fl, h, H, hl, rs, r, e, hz, R, hR => by simp at hl
  | f :: fs, [], xs, fl, h, H, hl, rs, r, e, hz, R, hR => by simp at hl
theorem ds_flds {es vs : List Expr} {aa : AD} {i : Nat} {fs : List Str} {k k2 : Nat} {p1 p2 : Pos} (hc : X.calm = true) (ha : DA X B vs aa) (hg : PGs X es (gsFld X.K C i fs)) (hn : (assignEach es X.env).length = fs.length := by rfl) (hst : (assignEach es X.env).findIdx? (·.1) = none := by rfl)
    (hs : swapsWithSole [.Tuple es k p1] (.Tuple vs k2 p2) pos.line X.env = pure false := by rfl) (hw : swappedStores [.Tuple es k p1] (.Tuple vs k2 p2) X.env = pure none := by rfl) : DS X B (.Assign [.Tuple es k p1] (.Tuple vs k2 p2) pos) (sFlds C i fs aa) :=
  PSi (ps_asg (pe_tup ha) (pg_tup hc hg hn hst) hs hw) fun D σ H ⟨ρ, h, D', S, q, Cn⟩ => ⟨ρ, h, _, S, q, fun us h1 xs H1 q1 s1 rv1 r1 => by
    obtain ⟨hl, h5, q1⟩ := q1
    refine ⟨by rw [← rv1.len, hl, sizeLine_eq]; omega, fun p np => ?_⟩
    split at q1
    · rename_i a hi
      split at q1
      · rename_i C' fl hfl
        obtain ⟨rfl, hz, q1⟩ := q1
        have st : Step h1 H1 h1 (upd H1 p (.tup xs)) := Step.fresh np
        have r2 := r1.fresh (o := .tup xs) np
        have S2 := S.step (s1.trans st) r2
        obtain ⟨x, ex, rx⟩ := S2.s.2 i _ hi
        rw [RV] at rx
        subst rx
        exact ⟨p, xs, rfl, .of upd_same, by rw [← rv1.len, hl], flds_rel ex fs us xs fl hl (rv1.step st) r2 hfl (by omega) _ fun H' s' r' => Cn.nx _ _ _ _ q1 ((s1.trans st).trans s') (S2.step s' r')⟩
      · exact q1.elim
    · exact q1.elim⟩
end
def MtR (P : Program) (w : World) (K : PySem.W.Frag) (mg : Str → Option Value) (base : Heap) (k : Nat) (C : Addr) (m : Str) (n : Nat) (fs : SpF) : Prop :=
  ∃ (f : Addr) (fd : FuncData) (ps : List Str), FnOk P w K mg base (L2.CX P w) k f fd ps (spA K mg n fs) ∧ Meth K C m f ∧ L2.Binds K fd ps []
theorem MtR.at {P : Program} {w : World} {K : PySem.W.Frag} {mg : Str → Option Value} {base : Heap} {k j : Nat} {C : Addr} {m : Str} {n : Nat} {fs : SpF} {A : Around} (F : MtR P w K mg base k C m n fs) (hr : Room j A) (h : k ≤ j := by decide) : MtF P w K mg base A C m n fs :=
  let ⟨f, fd, ps, a, b, c⟩ := F; ⟨k, f, fd, ps, a, hr.mono h, b, c⟩
def MkR (P : Program) (w : World) (K : PySem.W.Frag) (mg : Str → Option Value) (base : Heap) (k : Nat) (x : Str) (C : Addr) (n : Nat) (fs : SpF) : Prop :=
  ∃ (f : Addr) (fd : FuncData) (ps : List Str), FnOk P w K mg base (L2.CX P w) k f fd ps (spA K mg n fs) ∧ Mk K C f ∧ mg x = some (.ref C) ∧ L2.Binds K fd ps []
theorem MkR.at {P : Program} {w : World} {K : PySem.W.Frag} {mg : Str → Option Value} {base : Heap} {k j : Nat} {x : Str} {C : Addr} {n : Nat} {fs : SpF} {A : Around} (F : MkR P w K mg base k x C n fs) (hr : Room j A) (h : k + 1 ≤ j := by decide) : MkF P w K mg base A x C n fs :=
  let ⟨f, fd, ps, a, b, c, d⟩ := F; ⟨k, f, fd, ps, a, hr.mono h, b, c, d⟩
end DL
namespace DL
open PySem PySem.Spec PyProof.Rows L2
@[simp] def dDGet1 (dd dk : ED) : ED := fun ρ h Q E => dd ρ h (fun v h1 => (dgetA v (.int 0) h1).isSome = true ∧ dk ρ h1 (fun k h2 => match dgetA v k h2 with
  | some o => Q (o.getD .non) h2
  | none => False) E) E
def lcL2 (ok : Hv → Prop) (t : Tg) (tt : TD) (di1 : ID) (t1 : Tg) (tt1 : TD) (te : ED) (vs1 : List Nat) (ρw : Sl) : List Val → List Val → Hv → (List Val → Hv → Prop) → Prop
  | [], acc, h, Q => ok h ∧ Q acc h
  | v :: vs, acc, h, Q => ok h ∧ match bT t v ρw with
    | some ρ' => tt ρ' h (fun b h1 => if b = true then di1 ρ' h1 (fun it h2 => lcL it.ok t1 tt1 te (wipeA ρ' vs1) it.items acc h2 (fun acc' h3 => lcL2 ok t tt di1 t1 tt1 te vs1 ρw vs acc' h3 Q)) EF else lcL2 ok t tt di1 t1 tt1 te vs1 ρw vs acc h1 Q) EF
    | none => False
def dLc2 (di : ID) (t : Tg) (tt : TD) (di1 : ID) (t1 : Tg) (tt1 : TD) (te : ED) (vs vs1 : List Nat) : ED := fun ρ h Q E => di ρ h (fun it h1 => ∀ D, h1 D = none → lcL2 it.ok t tt di1 t1 tt1 te vs1 (wipeA ρ vs) it.items [] (put h1 D .busy) (fun acc h2 => Q (.lst acc) (drop h2 D))) E
theorem rd_lc2 {K : PySem.W.Frag} {B : Bs} {di di1 : ID} {t t1 : Tg} {tt tt1 : TD} {te : ED} {vs vs1 : List Nat} (hsl : ∀ i ∈ slots t, i ∈ vs) (hsl1 : ∀ i ∈ slots t1, i ∈ vs1) :
    ∀ σ H Q, rdE K B (dLc2 di t tt di1 t1 tt1 te vs vs1) σ H Q → tLc2 (rdI K B di) (gT K t) (rdT K B.blk tt) (rdI K B.blk di1) (gT K t1) (rdT K B.blk tt1) (rdE K B.blk te) vs vs1 σ H Q := by
  rintro σ H Q ⟨ρ, h, Q', S, q, C⟩
  refine ⟨ρ, h, _, S, q, fun it h1 H1 J q1 s1 r1 hJ D nD => ?_⟩
  have S1 := S.step s1 r1
  have nd : h1 D = none := r1.nof nD
  have sN : Step h1 H1 (put h1 D .busy) (upd H1 D (.lst [])) := Step.new nD
  have rN : RH K (upd H1 D (.lst [])) (put h1 D .busy) := r1.new nD ⟨_, upd_same, .inl ⟨_, rfl⟩⟩
  refine ⟨fun i m H2 => ∃ acc xs h2, i + m = it.items.length ∧ RH K H2 h2 ∧ Step h1 H1 h2 H2 ∧ h2 D = some .busy ∧ H2 D = some (.lst xs) ∧ RVs K H2 h2 acc xs ∧ lcL2 it.ok t tt di1 t1 tt1 te vs1 (wipeA ρ vs) (it.items.drop i) acc h2 (fun acc h2 => Q' (.lst acc) (drop h2 D)),
    ⟨it.items.length, [], [], put h1 D .busy, by omega, rN, sN, put_same, upd_same, RVs.nil, q1 D nd⟩, ?_⟩
  rintro i m H2 ⟨acc, xs, h2, em, r2, s2, hb2, hD2, ra2, q2⟩
  cases hdr : it.items.drop i with
  | nil =>
    rw [hdr] at q2
    have hi : it.items.length ≤ i := List.drop_eq_nil_iff.mp hdr
    have ei : i = it.items.length := by omega
    subst ei
    refine .inl ⟨(hJ h2 H2 s2.n r2 q2.1).2, ?_⟩
    have q3 := q2.2
    have sf : Step h1 H1 (drop h2 D) H2 := ⟨fun a o e n t => by
      obtain ⟨e2, n2⟩ := s2.n a o e n t
      exact less_drop.stepN a o e2 n2 t, fun a o e n => by
      have ne : a ≠ D := ne_of_none e nD
      rw [drop_ne ne]
      exact s2.b a o e n⟩
    refine C _ _ _ _ q3 (s1.trans sf) ?_ (r2.less less_drop)
    rw [RV]
    exact ⟨D, xs, rfl, drop_same, hD2, ra2.stepN less_drop.stepN⟩
  | cons v ws =>
    rw [hdr] at q2
    have hi : i < it.items.length := by
      apply Nat.lt_of_not_le
      intro hh
      rw [List.drop_eq_nil_iff.mpr hh] at hdr
      cases hdr
    have hv : it.items[i]? = some v := by
      have := congrArg (·[0]?) hdr
      simpa using this
    have hdr' : it.items.drop (i + 1) = ws := by
      rw [← List.drop_drop, hdr] <;> rfl
    obtain ⟨ok2, q2⟩ := q2
    obtain ⟨go, yl⟩ := (hJ h2 H2 s2.n r2 ok2).1 i v hv
    refine .inr ⟨go, fun H3 => ∃ acc xs h3, RH K H3 h3 ∧ Step h1 H1 h3 H3 ∧ h3 D = some .busy ∧ H3 D = some (.lst xs) ∧ RVs K H3 h3 acc xs ∧ lcL2 it.ok t tt di1 t1 tt1 te vs1 (wipeA ρ vs) ws acc h3 (fun acc h2 => Q' (.lst acc) (drop h2 D)),
      fun H3 ⟨acc, xs, h3, r3, s3, b3, d3, a3, q3⟩ => ⟨m - 1, by omega, acc, xs, h3, by omega, r3, s3, b3, d3, a3, by rw [hdr']; exact q3⟩, fun x H3 hy => ?_⟩
    obtain ⟨s3, r3, rv3⟩ := yl x H3 hy
    split at q2
    · rename_i ρ' eρ
      have sl3 : RS K H3 h2 (wipeA ρ vs) (L2.wipe σ vs) := ((S1.s.wipe vs).step s2).step s3
      refine gT_rel rv3 sl3 eρ _ fun σ' rs' hw => ⟨?_, ?_⟩
      · rw [hw vs hsl]
        exact wipe_wipe σ vs
      · refine ⟨ρ', h2, _, ⟨rs', r3, S1.b.trans (s2.trans s3)⟩, q2, fun k h4 H4 q4 s4 r4 => ?_⟩
        have s24 := s3.trans s4
        have b4 := s24.b D _ hD2 hb2
        cases k with
        | false =>
          rw [if_neg Bool.false_ne_true] at q4
          exact iteF ⟨acc, xs, h4, r4, s2.trans s24, b4.2, b4.1, ra2.step s24, q4⟩
        | true =>
          rw [if_pos rfl] at q4
          refine iteT ⟨ρ', h4, _, ⟨rs'.step s4, r4, (S1.b.trans (s2.trans s3)).trans s4⟩, q4, fun it1 h5 H5 J1 q5 s5 r5 hJ1 => ?_⟩
          have s25 := s24.trans s5
          have b5 := s25.b D _ hD2 hb2
          have S5 : RS K H5 h5 ρ' σ' := (rs'.step s4).step s5
          refine ⟨fun j k H6 => ∃ acc xs h6, j + k = it1.items.length ∧ RH K H6 h6 ∧ StepN h5 H5 h6 H6 ∧ Step h1 H1 h6 H6 ∧ h6 D = some .busy ∧ H6 D = some (.lst xs) ∧ RVs K H6 h6 acc xs ∧ lcL it1.ok t1 tt1 te (wipeA ρ' vs1) (it1.items.drop j) acc h6 (fun acc' h3 => lcL2 it.ok t tt di1 t1 tt1 te vs1 (wipeA ρ vs) ws acc' h3 (fun acc h2 => Q' (.lst acc) (drop h2 D))),
            ⟨it1.items.length, acc, xs, h5, by omega, r5, (Step.refl h5 H5).n, s2.trans s25, b5.2, b5.1, ra2.step s25, q5⟩, ?_⟩
          rintro j k H6 ⟨acc, xs, h6, ek, r6, s56, s6, hb6, hD6, ra6, q6⟩
          cases hdr1 : it1.items.drop j with
          | nil =>
            rw [hdr1] at q6
            have hj : it1.items.length ≤ j := List.drop_eq_nil_iff.mp hdr1
            have ej : j = it1.items.length := by omega
            subst ej
            exact .inl ⟨(hJ1 h6 H6 s56 r6 q6.1).2, acc, xs, h6, r6, s6, hb6, hD6, ra6, q6.2⟩
          | cons v1 ws1 =>
            rw [hdr1] at q6
            have hj : j < it1.items.length := by
              apply Nat.lt_of_not_le
              intro hh
              rw [List.drop_eq_nil_iff.mpr hh] at hdr1
              cases hdr1
            have hv1 : it1.items[j]? = some v1 := by
              have := congrArg (·[0]?) hdr1
              simpa using this
            have hdr1' : it1.items.drop (j + 1) = ws1 := by
              rw [← List.drop_drop, hdr1] <;> rfl
            obtain ⟨ok6, q6⟩ := q6
            obtain ⟨go1, yl1⟩ := (hJ1 h6 H6 s56 r6 ok6).1 j v1 hv1
            refine .inr ⟨go1, fun H7 => ∃ acc xs h7, RH K H7 h7 ∧ StepN h5 H5 h7 H7 ∧ Step h1 H1 h7 H7 ∧ h7 D = some .busy ∧ H7 D = some (.lst xs) ∧ RVs K H7 h7 acc xs ∧ lcL it1.ok t1 tt1 te (wipeA ρ' vs1) ws1 acc h7 (fun acc' h3 => lcL2 it.ok t tt di1 t1 tt1 te vs1 (wipeA ρ vs) ws acc' h3 (fun acc h2 => Q' (.lst acc) (drop h2 D))),
              fun H7 ⟨acc, xs, h7, r7, s57, s7, b7, d7, a7, q7⟩ => ⟨k - 1, by omega, acc, xs, h7, by omega, r7, s57, s7, b7, d7, a7, by rw [hdr1']; exact q7⟩, fun x1 H7 hy1 => ?_⟩
            obtain ⟨s7, r7, rv7⟩ := yl1 x1 H7 hy1
            split at q6
            · rename_i ρ2 eρ2
              have sl7 : RS K H7 h6 (wipeA ρ' vs1) (L2.wipe σ' vs1) := ((S5.wipe vs1).stepN s56).step s7
              refine gT_rel rv7 sl7 eρ2 _ fun σ2 rs2 hw2 => ⟨?_, ?_⟩
              · rw [hw2 vs1 hsl1]
                exact wipe_wipe σ' vs1
              · have bB : Step B.h0 B.H0 h6 H7 := (S1.b.trans s6).trans s7
                refine ⟨ρ2, h6, _, ⟨rs2, r7, bB⟩, q6, fun k1 h8 H8 q8 s8 r8 => ?_⟩
                have s68 := s7.trans s8
                have b8 := s68.b D _ hD6 hb6
                cases k1 with
                | false =>
                  rw [if_neg Bool.false_ne_true] at q8
                  exact iteF ⟨acc, xs, h8, r8, s56.trans s68.n, s6.trans s68, b8.2, b8.1, ra6.step s68, q8⟩
                | true =>
                  rw [if_pos rfl] at q8
                  refine iteT ⟨ρ2, h8, _, ⟨rs2.step s8, r8, bB.trans s8⟩, q8, fun y h9 yx H9 q9 s9 rv9 r9 => ?_⟩
                  have s69 := s68.trans s9
                  have b9 := s69.b D _ hD6 hb6
                  have sD : StepN h9 H9 h9 (upd H9 D (.lst (xs ++ [yx]))) := fun a o e n _ => by
                    have : a ≠ D := fun z => by rw [z, b9.2] at n; cases n
                    rw [upd_ne this]
                    exact ⟨e, n⟩
                  refine ⟨xs, b9.1, by rw [← ra6.len]; exact q9.1, acc ++ [y], xs ++ [yx], h9, ?_, ?_, ?_, b9.2, upd_same, ?_, q9.2⟩
                  · intro a o q
                    by_cases ha : a = D
                    · subst ha
                      rw [b9.2] at q
                      cases q
                      exact ⟨_, upd_same, .inl ⟨_, rfl⟩⟩
                    · exact (r9 a o q).stepN sD fun _ z => by rw [upd_ne ha]; exact z
                  · exact (s56.trans s69.n).trans sD
                  · have s19 := s6.trans s69
                    exact ⟨fun a o e n t => by
                      obtain ⟨e2, n2⟩ := s19.n a o e n t
                      rw [upd_ne (ne_of_none e nD)]
                      exact ⟨e2, n2⟩, fun a o e n => by
                      obtain ⟨e2, n2⟩ := s19.b a o e n
                      rw [upd_ne (ne_of_none e nD)]
                      exact ⟨e2, n2⟩⟩
                  · exact ((ra6.step s69).append (RVs.cons rv9 RVs.nil)).stepN sD
            · exact q6.elim
    · exact q2.elim
section
variable {X : Cx} {B : Bs} {elt tg iter tg1 iter1 : Expr} {ifs ifs1 : List Expr} {scope : Scope} {own : List (Str × Nat)} {vs1 : List Nat} {pos spos : Pos} {di di1 : ID} {t t1 : Tg} {tt tt1 : TD} {te : ED}
theorem de_lc2 (hc : X.calm = true) (hN : X.N.Nodup) (hi : DI X B tg iter di) (ok : BlkOk X.N X.env.scope scope own) (hv : ∀ i ∈ vs1, i ∈ own.map (·.2)) (hsl : ∀ i ∈ slots t, i ∈ own.map (·.2)) (hsl1 : ∀ i ∈ slots t1, i ∈ vs1)
    (hg : ∀ (s : Shared) (H : Hp) (C : Addr) (cl : List (Str × Addr)) (fp : List Addr), PG (X.blk s H scope (compEnvC scope cl C X.env) fp) tg (gT X.K t)) (ht : ∀ (s : Shared) (H : Hp) (C : Addr) (cl : List (Str × Addr)) (fp : List Addr), PTs (X.blk s H scope (compEnvC scope cl C X.env) fp) ifs (rdT X.K B.blk tt))
    (hi1 : ∀ (s : Shared) (H : Hp) (C : Addr) (cl : List (Str × Addr)) (fp : List Addr), DI (X.blk s H scope (compEnvC scope cl C X.env) fp) B.blk tg1 iter1 di1)
    (hg1 : ∀ (s : Shared) (H : Hp) (C : Addr) (cl : List (Str × Addr)) (fp : List Addr), PG (X.blk s H scope (compEnvC scope cl C X.env) fp) tg1 (gT X.K t1)) (ht1 : ∀ (s : Shared) (H : Hp) (C : Addr) (cl : List (Str × Addr)) (fp : List Addr), PTs (X.blk s H scope (compEnvC scope cl C X.env) fp) ifs1 (rdT X.K B.blk tt1))
    (he : ∀ (s : Shared) (H : Hp) (C : Addr) (cl : List (Str × Addr)) (fp : List Addr), DE (X.blk s H scope (compEnvC scope cl C X.env) fp) B.blk elt te) (hs : ∀ x, foldedSetIterable iter X.env x = pure x := by intro _; rfl) (hs1 : ∀ env x, foldedSetIterable iter1 env x = pure x := by intro _ _; rfl) :
    DE X B (.ListComp elt [⟨tg, iter, ifs, 0⟩, ⟨tg1, iter1, ifs1, 0⟩] scope pos) (dLc2 di t tt di1 t1 tt1 te (own.map (·.2)) vs1) := PEi (pe_lc2 hc hN hi ok hv hg ht hi1 hg1 ht1 he hs hs1) (rd_lc2 hsl hsl1)
variable {o e : Expr} {dd de : ED} {apos cpos : Pos}
end
end DL
namespace DL
open PySem PySem.Spec PyProof.Rows L2
end DL
namespace DL
open PySem PySem.Spec PyProof.Rows L2
def kIt (k : Bool) (h : Heap) (it l : Addr) (i : Nat) : Prop := match k with
  | true => h.IsListIter it l i
  | false => h.IsTupleIter it l i
def kSq (k : Bool) (h : Heap) (l : Addr) (xs : Array Value) : Prop := match k with
  | true => h.IsList l xs
  | false => h.IsTuple l xs
section
variable {h h' : Heap} {k : Bool} {it l b : Addr} {i : Nat} {xs : Array Value}
theorem kIt.ext (x : kIt k h it l i) (hs : Heap.ExtBut b h h') (ne : it ≠ b) : kIt k h' it l i := by
  cases k with
  | true => exact Heap.IsListIter.extBut x hs ne
  | false => exact Heap.IsTupleIter.extBut x hs ne
theorem kSq.ext (x : kSq k h l xs) (hs : Heap.ExtBut b h h') (ne : l ≠ b) : kSq k h' l xs := by
  cases k with
  | true => exact Heap.IsList.extBut x hs ne
  | false => exact Heap.IsTuple.extBut x hs ne
theorem kIt.at (x : kIt k h it l i) (e : ∀ o, h.get? it = some o → h'.get? it = some o) : kIt k h' it l i := by
  cases k with
  | true => exact Heap.IsListIter.at x e
  | false => exact Heap.IsTupleIter.at x e
theorem kIt.obj (x : kIt k h it l i) : ∃ o, h.get? it = some o ∧ ∀ v, o.data ≠ .cell v := by
  cases k with
  | true => obtain ⟨o, e, _, d⟩ := x; exact ⟨o, e, fun v q => by rw [d] at q; cases q⟩
  | false => obtain ⟨o, e, _, d⟩ := x; exact ⟨o, e, fun v q => by rw [d] at q; cases q⟩
end
section
variable {prog : Program} {w : World} {A : Around} {E : Value → Shared → Prop} {s : Shared}
variable {kx ky : Bool} {z TI TO i1 i2 l1 l2 : Addr} {k1 k2 : Nat} {xs ys : Array Value} {x y a b : Value}
end
end DL
namespace DL
open PySem PySem.Spec PyProof.Rows L2
section
variable {prog : Program} {w : World} {A : Around} {E : Value → Shared → Prop} {s : Shared}
end
def SqM (k : Bool) (K : PySem.W.Frag) (H : Hp) (a : Addr) (xs : List V) : Prop := match k with
  | true => SqL K H a xs
  | false => SqT K H a xs
theorem SqM.get {k : Bool} {X : Cx} {pins : List (Addr × Obj)} {σ : L2.St} {H : Hp} {s : Shared} {a : Addr} {xs : List V} (I : Inv X pins σ H s) (h : SqM k X.K H a xs) : ∃ its, Vals xs its ∧ kSq k s.heap a its.toArray := by
  cases k with
  | true => obtain ⟨its, rv, p, _⟩ := I.list h; exact ⟨its, rv, p.isList⟩
  | false => obtain ⟨its, rv, p, _⟩ := I.tuple h; exact ⟨its, rv, p⟩
theorem SqM.inj {k : Bool} {X : Cx} {pins : List (Addr × Obj)} {σ : L2.St} {H : Hp} {s : Shared} {a : Addr} {xs ys : List V} (I : Inv X pins σ H s) (h : SqM k X.K H a xs) (h' : SqM k X.K H a ys) : xs = ys := by
  cases k with
  | true => exact I.list_inj h h'
  | false => exact I.tuple_inj h h'
theorem kSq.lt {k : Bool} {h : Heap} {l : Addr} {xs : Array Value} (x : kSq k h l xs) : l < h.objs.size := by
  cases k with
  | true => obtain ⟨o, e, _⟩ := x; exact Heap.lt_size e
  | false => obtain ⟨o, e, _⟩ := x; exact Heap.lt_size e
@[simp] def zipOfM (v w : Val) (h : Hv) : Option Itr := match v, w with
  | .lst xs, .tup ys => some ⟨(xs.zip ys).map fun p => Val.tup [p.1, p.2], fun _ => True⟩
  | .tup xs, .lst ys => some ⟨(xs.zip ys).map fun p => Val.tup [p.1, p.2], fun _ => True⟩
  | .tup xs, .ref a => (match h a with
    | some (.lst ys) => some ⟨(xs.zip ys).map fun p => Val.tup [p.1, p.2], fun h2 => h2 a = some (.lst ys)⟩
    | _ => none)
  | _, _ => none
@[simp] def dZipM (aa : AD) : ID := fun ρ h Q E => aa ρ h (fun vs h1 => match vs with
  | [v, w] => (match zipOfM v w h1 with
    | some it => Q it h1
    | none => False)
  | _ => False) E
section
variable {X : Cx} {B : Bs} {e e2 : Expr} {aa : AD} {p pos : Pos}
end
end DL
namespace DL
open PySem PySem.Spec PyProof.Rows L2
section
variable {prog : Program} {w : World} {A : Around} {E : Value → Shared → Prop} {s : Shared}
end
end DL
namespace DL
open PySem PySem.Spec PyProof.Rows L2
section
variable {prog : Program} {w : World} {A : Around} {E : Value → Shared → Prop} {s : Shared}
variable {z TI TO i1 i2 l1 l2 : Addr} {k1 k2 : Nat} {xs ys : Array Value} {x y a b : Value}
end
end DL
namespace DL
open PySem PySem.Spec PyProof.Rows L2
section
variable {M : Model} {A : Around} {E : Value → Shared → Prop} {s : Shared} {env : Env}
end
@[simp] def dZipS (aa : AD) : ID := fun ρ h Q E => aa ρ h (fun vs h1 => match vs with
  | [.tup xs, .tup ys] => xs.length = ys.length ∧ Q ⟨(xs.zip ys).map fun p => Val.tup [p.1, p.2], fun _ => True⟩ h1
  | _ => False) E
section
variable {X : Cx} {B : Bs} {e e2 : Expr} {aa : AD} {p pos kp cp : Pos} {kc : Nat}
end
end DL
namespace DL
open PySem PySem.Spec PyProof.Rows L2
section
variable {X : Cx}
end
section
variable {K : PySem.W.Frag}
def fIntB : FA := fun vs h Q => ∃ k : Bool, vs = [.bl k] ∧ Q (.int (if k then 1 else 0)) h
theorem cl_intB : CaL K fIntB (fun xs H Q => (∃ i, xs = [.int i] ∧ Q (.int i) H) ∨ ∃ k, xs = [.bl k] ∧ Q (.int (if k then 1 else 0)) H) := fun vs xs h H Q' Q r rs q c => by
  obtain ⟨k, rfl, q⟩ := q
  obtain ⟨x, ex, rx⟩ := rvs1 rs
  rw [RV] at rx
  subst rx
  exact .inr ⟨k, ex, c.val r rv_int q⟩
theorem Cont.tpo {h : Hv} {H : Hp} {Q' : PV} {Q : VK} (c : Cont K h H Q' Q) (r : RH K H h) {vs : List Val} {xs : List V} {p : Addr} {o : Obj} (rs : RVs K H h vs xs) (e : H p = none) (hd : o.dict = none) (q : Q' (.tpo vs) h) : Q (.ref p) (upd H p (.frz o (.tup xs))) :=
  c _ _ _ _ q (Step.fresh e) (by rw [RV]; exact ⟨p, xs, o, rfl, r.nof e, upd_same, hd, rs.step (Step.fresh e)⟩) (r.fresh e)
end
end DL
namespace DL
open PySem PySem.Spec PyProof.Rows L2
section
variable {K : PySem.W.Frag} {H : Hp} {h : Hv}
theorem RKs.keysT {κ : Type} : ∀ {kvs : List (κ × Val)} {xs : List (κ × V)}, RKs K H h kvs xs → kvs.map (·.1) = xs.map (·.1)
  | [], xs, r => by rw [show xs = [] from r]; rfl
  | (k, v) :: kvs, xs, r => by
    obtain ⟨y, ys, e, _, r2⟩ := r
    rw [e, List.map_cons, List.map_cons, RKs.keysT r2]
theorem RKs.lenT {κ : Type} {kvs : List (κ × Val)} {xs : List (κ × V)} (r : RKs K H h kvs xs) : kvs.length = xs.length := by
  have := congrArg List.length r.keysT
  rwa [List.length_map, List.length_map] at this
theorem RKs.getT {κ : Type} : ∀ {kvs : List (κ × Val)} {xs : List (κ × V)} {i : Nat} {p : κ × Val} {k : κ} {x : V}, RKs K H h kvs xs → kvs[i]? = some p → xs[i]? = some (k, x) → p.1 = k ∧ RV K H h p.2 x
  | [], xs, i, p, k, x, r, e, _ => by simp at e
  | (k0, v0) :: kvs, xs, 0, p, k, x, r, e, e2 => by
    obtain ⟨y, ys, ex, rv, _⟩ := r
    subst ex
    simp only [List.getElem?_cons_zero, Option.some.injEq] at e e2
    subst e
    cases e2
    exact ⟨rfl, rv⟩
  | (k0, v0) :: kvs, xs, i + 1, p, k, x, r, e, e2 => by
    obtain ⟨y, ys, ex, _, r2⟩ := r
    subst ex
    simp only [List.getElem?_cons_succ] at e e2
    exact RKs.getT r2 e e2
end
def tLockK (td : TE) : TE := fun σ H Q => td σ H fun x H1 => ∃ d kvs, x = .ref d ∧ ((∃ o, H1 d = some (.frz o (.dK kvs)) ∧ Q x H1) ∨ (H1 d = some (.dK kvs) ∧ ∀ o, Q x (upd H1 d (.frz o (.dK kvs)))))
theorem pe_lockK {X : Cx} {e : Expr} {td : TE} (he : PE X e td) : PE X e (tLockK td) := ⟨fun pins s σ H Q I h => thn (he.run pins s σ H _ I h) fun u s1 ⟨x, H1, I1, rx, d, kvs, ex, q⟩ => by
  rcases q with ⟨o, hd, q⟩ | ⟨hd, q⟩
  · exact ⟨x, H1, I1, rx, q⟩
  · obtain ⟨od, I2⟩ := I1.lock hd True.intro
    exact ⟨x, _, I2, rx, q od⟩⟩
def dItems (de : ED) : ID := fun ρ h Q E => de ρ h (fun v h1 => match v with
  | .ref d => (match h1 d with
    | some (.dK kvs) => ∀ o xs, Q ⟨kvs.map fun p => Val.tup [keyV p.1, p.2], fun h2 => h2 d = some (.dF o xs kvs)⟩ (put h1 d (.dF o xs kvs))
    | some (.dF o xs kvs) => Q ⟨kvs.map fun p => Val.tup [keyV p.1, p.2], fun h2 => h2 d = some (.dF o xs kvs)⟩ h1
    | _ => False)
  | _ => False) E
theorem iti_rel {K : PySem.W.Frag} {h : Hv} {H : Hp} {d : Addr} {o : Obj} {xs : List (Key × V)} {kvs : List (Key × Val)} : ItRel K ⟨kvs.map fun p => Val.tup [keyV p.1, p.2], fun h2 => h2 d = some (.dF o xs kvs)⟩ (Iti d o xs) h H := fun h2 H2 s2 r2 o2 => by
  obtain ⟨e1, rs⟩ := r2 d _ o2
  have hl : (kvs.map fun p => Val.tup [keyV p.1, p.2]).length = xs.length := by rw [List.length_map, rs.lenT]
  refine ⟨fun i v hv => ?_, e1, by rw [hl]; exact Nat.le_refl _⟩
  rw [List.getElem?_map] at hv
  obtain ⟨p, hp, ev⟩ := Option.map_eq_some_iff.mp hv
  have hi : i < xs.length := by
    rw [← rs.lenT]
    exact (List.getElem?_eq_some_iff.mp hp).1
  refine ⟨⟨e1, hi⟩, fun y H3 hy => ?_⟩
  obtain ⟨T, k, x, hk, ey, nT, eH⟩ := hy
  subst eH
  obtain ⟨ek, rx⟩ := rs.getT hp hk
  rw [← ev, ey, ek]
  exact pair_rel r2 (by
    cases k with
    | inl i => show RV K H2 h2 (.int i) (.int i); rw [RV]
    | inr z => show RV K H2 h2 (.str z) (.str z); rw [RV]) rx nT
theorem di_items {X : Cx} {B : Bs} {e : Expr} {de : ED} {elts : List Expr} {kk : Nat} {tpos apos cpos : Pos} (he : DE X B e de) (hbase : attributeBase e "items" X.env (eval e X.env) = eval e X.env := by rfl) (hline : (apos.endLine == cpos.line) = true := by rfl) : DI X B (.Tuple elts kk tpos) (.Call (.Attribute e "items" apos) [] [] cpos) (dItems de) :=
  PIi (pi_items (pe_lockK he) hbase hline) fun σ H R ⟨ρ, h, Q', S, q, C⟩ => ⟨ρ, h, _, S, q, fun v h1 x H1 q1 s1 rv1 r1 => by
    split at q1
    · rename_i d
      rw [RV] at rv1
      split at q1
      · rename_i kvs hk
        obtain ⟨xs, e1, rs⟩ := r1 d _ hk
        refine ⟨d, xs, rv1, .inr ⟨e1, fun o => ⟨d, o, xs, rv1, upd_same, ?_⟩⟩⟩
        have nb : Ob.dK kvs ≠ .busy := fun z => nomatch z
        have s : Step h1 H1 (put h1 d (.dF o xs kvs)) (upd H1 d (.frz o (.dK xs))) := Step.write hk nb
        exact C _ _ _ _ (q1 o xs) (s1.trans s) (r1.write hk nb ⟨upd_same, rs.step s⟩) iti_rel
      · rename_i o xs kvs hk
        obtain ⟨e1, rs⟩ := r1 d _ hk
        exact ⟨d, xs, rv1, .inl ⟨o, e1, d, o, xs, rv1, e1, C _ _ _ _ q1 s1 r1 iti_rel⟩⟩
      · exact q1.elim
    · exact q1.elim⟩
end DL
namespace DL
open PySem PySem.Spec PyProof.Rows L2
def RT (Q : PV) : PV := fun v h' => ∃ v2 h2, Conv v h' v2 h2 ∧ Q v2 h2
def RN (Q : PV) : Sl → Hv → Prop := fun _ h' => ∃ h2, Lss h' h2 ∧ Q .non h2
def RX (E : PF) : PX := fun nm pl _ h' => ∃ h2, Lss h' h2 ∧ E nm pl h2
abbrev endsR (Q : PV) : AE := ⟨RN Q, RT Q, fun _ _ => False, fun _ _ => False⟩
theorem RT.same {Q : PV} {v : Val} {h : Hv} (q : Q v h) : RT Q v h := ⟨v, h, conv_less (Lss.refl h), q⟩
theorem RT.less {Q : PV} {v : Val} {h h2 : Hv} (l : Lss h h2) (q : Q v h2) : RT Q v h := ⟨v, h2, conv_less l, q⟩
theorem RT.frz {Q : PV} {h h2 : Hv} {p : Addr} {vs : List Val} (l : Lss h h2) (e : h p = some (.lst vs)) (n : h2 p = none) (q : Q (.lst vs) h2) : RT Q (.ref p) h := ⟨_, h2, conv_frz l e n, q⟩
theorem RN.same {Q : PV} {ρ : Sl} {h : Hv} (q : Q .non h) : RN Q ρ h := ⟨h, Lss.refl h, q⟩

def Sub (h h' : Hv) : Prop := ∀ a o, h a = some o → h' a = some o
theorem Sub.refl (h : Hv) : Sub h h := fun _ _ e => e
theorem Sub.trans {h h1 h2 : Hv} (x : Sub h h1) (y : Sub h1 h2) : Sub h h2 := fun a o e => y a o (x a o e)
theorem Sub.put {h : Hv} {p : Addr} {o : Ob} (e : h p = none) : Sub h (put h p o) := fun a u q => by
  rw [put_ne (fun z => by rw [z, e] at q; cases q)]; exact q
theorem drop_put {h : Hv} {p : Addr} {o : Ob} (e : h p = none) : drop (DL.put h p o) p = h := by
  funext a
  by_cases ha : a = p
  · subst ha; rw [drop_same, e]
  · rw [drop_ne ha, put_ne ha]
theorem put_comm {h : Hv} {p q : Addr} {o u : Ob} (e : p ≠ q) : DL.put (DL.put h p o) q u = DL.put (DL.put h q u) p o := by
  funext a
  unfold DL.put
  by_cases h1 : a = q
  · subst h1
    simp [Ne.symm e]
  · by_cases h2 : a = p
    · subst h2; simp [e]
    · simp [h1, h2]
theorem lcL_filt {ok : Hv → Prop} {t : Tg} {tt : TD} {te : ED} {ρw : Sl} {h : Hv} (pv : Val → Bool) (g : Val → Val) (hok : ok h) : ∀ (items acc : List Val) (Q : List Val → Hv → Prop), acc.length + items.length ≤ sizeLine →
    (∀ v ∈ items, ∃ ρ', bT t v ρw = some ρ' ∧ (∀ Q', Q' (pv v) h → tt ρ' h Q' EF) ∧ (pv v = true → ∀ Q', Q' (g v) h → te ρ' h Q' EF)) →
    Q (acc ++ (items.filter pv).map g) h → lcL ok t tt te ρw items acc h Q
  | [], acc, Q, hl, he, q => ⟨hok, by simpa using q⟩
  | v :: vs, acc, Q, hl, he, q => by
    obtain ⟨ρ', e1, e2, e3⟩ := he v List.mem_cons_self
    refine ⟨hok, ?_⟩
    rw [e1]
    dsimp only
    rw [List.length_cons] at hl
    refine e2 _ ?_
    cases hp : pv v with
    | true =>
      rw [if_pos rfl]
      refine e3 hp _ ⟨by omega, ?_⟩
      refine lcL_filt pv g hok vs (acc ++ [g v]) Q (by rw [List.length_append, List.length_singleton]; omega) (fun w hw => he w (List.mem_cons_of_mem _ hw)) ?_
      rw [List.filter_cons_of_pos hp, List.map_cons] at q
      simpa using q
    | false =>
      rw [if_neg Bool.false_ne_true]
      refine lcL_filt pv g hok vs acc Q (by omega) (fun w hw => he w (List.mem_cons_of_mem _ hw)) ?_
      rw [List.filter_cons_of_neg (by rw [hp]; exact Bool.false_ne_true)] at q
      exact q
theorem lc_filt {di : ID} {t : Tg} {tt : TD} {te : ED} {vs : List Nat} {ρ : Sl} {h : Hv} {Q : PV} {E : PX} {items : List Val} {ok : Hv → Prop} (pv : Val → Bool) (g : Val → Val) (hdi : ∀ R : Itr → Hv → Prop, R ⟨items, ok⟩ h → di ρ h R E) (hok : ∀ h', Sub h h' → ok h') (hl : items.length ≤ sizeLine)
    (he : ∀ v ∈ items, ∃ ρ', bT t v (wipeA ρ vs) = some ρ' ∧ (∀ h' Q', Sub h h' → Q' (pv v) h' → tt ρ' h' Q' EF) ∧ (pv v = true → ∀ h' Q', Sub h h' → Q' (g v) h' → te ρ' h' Q' EF))
    (q : Q (.lst ((items.filter pv).map g)) h) : dLc di t tt te vs ρ h Q E := by
  refine hdi _ fun D nD => ?_
  have sb := Sub.put (o := .busy) nD
  refine lcL_filt pv g (hok _ sb) items [] _ (by simpa using hl) (fun v hv => ?_) ?_
  · obtain ⟨ρ', e1, e2, e3⟩ := he v hv
    exact ⟨ρ', e1, fun Q' q' => e2 _ Q' sb q', fun hp Q' q' => e3 hp _ Q' sb q'⟩
  · rw [List.nil_append, drop_put nD]
    exact q
theorem lc_map {di : ID} {t : Tg} {te : ED} {vs : List Nat} {ρ : Sl} {h : Hv} {Q : PV} {E : PX} {items : List Val} {ok : Hv → Prop} (g : Val → Val) (hdi : ∀ R : Itr → Hv → Prop, R ⟨items, ok⟩ h → di ρ h R E) (hok : ∀ h', Sub h h' → ok h') (hl : items.length ≤ sizeLine)
    (he : ∀ v ∈ items, ∃ ρ', bT t v (wipeA ρ vs) = some ρ' ∧ ∀ h' Q', Sub h h' → Q' (g v) h' → te ρ' h' Q' EF)
    (q : Q (.lst (items.map g)) h) : dLc di t tTrue te vs ρ h Q E := by
  refine lc_filt (fun _ => true) g hdi hok hl (fun v hv => ?_) (by rw [List.filter_eq_self.mpr (fun _ _ => rfl)]; exact q)
  obtain ⟨ρ', e1, e2⟩ := he v hv
  exact ⟨ρ', e1, fun h' Q' _ q' => q', fun _ => e2⟩
theorem all_lc {di : ID} {t : Tg} {te : ED} {vs : List Nat} {ρ : Sl} {h : Hv} {Q : PV} {E : PX} {items : List Val} {ok : Hv → Prop} (p : Val → Bool) (hdi : ∀ R : Itr → Hv → Prop, R ⟨items, ok⟩ h → di ρ h R E) (hok : ∀ h', Sub h h' → ok h') (hl : items.length ≤ sizeLine)
    (he : ∀ v ∈ items, ∃ ρ', bT t v (wipeA ρ vs) = some ρ' ∧ ∀ h' Q', Sub h h' → Q' (.bl (p v)) h' → te ρ' h' Q' EF)
    (q : Q (.bl (items.all p)) h) : dCB fAll (aCons (dLc di t tTrue te vs) aNil) ρ h Q E := by
  simp only [dCB, aCons, aNil]
  refine lc_map (fun v => .bl (p v)) hdi hok hl he ?_
  show fAll [.lst (items.map fun v => .bl (p v))] h Q
  simp only [fAll, listOf, Option.bind_some, blsOf_map]
  simpa using q
theorem for_ind {ok : Hv → Prop} {t : Tg} {d : SD} {D : AE} {E : PX} (I : List Val → Sl → Hv → Prop) (h0 : ∀ ρ h, I [] ρ h → ok h ∧ D.nx ρ h)
    (hs : ∀ v vs ρ h, I (v :: vs) ρ h → ok h ∧ ∃ ρ', bT t v ρ = some ρ' ∧ ∀ N : Sl → Hv → Prop, (∀ ρ h, I vs ρ h → N ρ h) → d ρ' h { D with nx := N, ct := N, bk := D.nx } E) :
    ∀ (items : List Val) (ρ : Sl) (h : Hv), I items ρ h → forL ok t d items ρ h D E
  | [], ρ, h, i => h0 ρ h i
  | v :: vs, ρ, h, i => by
    obtain ⟨o, ρ', e, k⟩ := hs v vs ρ h i
    refine ⟨o, ?_⟩
    rw [e]
    exact k _ fun ρ h i => for_ind I h0 hs vs ρ h i
theorem while_ind {tc : TD} {d : SD} {D : AE} {E : PX} (I : Nat → Sl → Hv → Prop)
    (hs : ∀ n ρ h, I n ρ h → ∀ N : Sl → Hv → Prop, (∀ m ρ h, m < n → I m ρ h → N ρ h) → tc ρ h (fun k h1 => if k = true then d ρ h1 { D with nx := N, ct := N, bk := D.nx } E else D.nx ρ h1) E) :
    ∀ (n : Nat) (ρ : Sl) (h : Hv), I n ρ h → ∀ j, n < j → whileN tc d j ρ h D E
  | n, ρ, h, i, 0, hj => absurd hj (Nat.not_lt_zero _)
  | n, ρ, h, i, j + 1, hj => hs n ρ h i _ fun m ρ' h' hm i' => while_ind I hs m ρ' h' i' j (by omega)
theorem while_of {tc : TD} {d : SD} {D : AE} {E : PX} (I : Nat → Sl → Hv → Prop) {n : Nat} {ρ : Sl} {h : Hv} (i : I n ρ h)
    (hs : ∀ n ρ h, I n ρ h → ∀ N : Sl → Hv → Prop, (∀ m ρ h, m < n → I m ρ h → N ρ h) → tc ρ h (fun k h1 => if k = true then d ρ h1 { D with nx := N, ct := N, bk := D.nx } E else D.nx ρ h1) E) : sWhile tc d ρ h D E :=
  ⟨n + 1, while_ind I hs n ρ h i (n + 1) (Nat.lt_succ_self n)⟩
mutual
def okD : Val → Bool
  | .non => true
  | .bl _ => true
  | .int _ => true
  | .str z => decide (z.length ≤ 1000)
  | .tup vs => okDs vs && decide (vs.length ≤ 1000)
  | .lst vs => okDs vs && decide (vs.length ≤ 1000)
  | _ => false
def okDs : List Val → Bool
  | [] => true
  | v :: vs => okD v && okDs vs
end
theorem sl1000 {n : Nat} (h : n ≤ 1000) : n ≤ sizeLine := by rw [sizeLine_eq]; omega
end DL
namespace DL
open PySem PySem.Spec PyProof.Rows L2
theorem Qb {Q : PV} {b b' : Bool} {h : Hv} (q : Q (.bl b) h) (e : b = b') : Q (.bl b') h := by rw [← e]; exact q
theorem Qv {Q : PV} {b b' : Val} {h : Hv} (q : Q b h) (e : b = b') : Q b' h := by rw [← e]; exact q
def isNum (v : Val) (lo hi : Int) : Bool := match v with
  | .int i => decide (lo ≤ i) && decide (i ≤ hi)
  | _ => false
def S_is_number : SpF := fun as h Q _ => ∃ v lo hi, as = [v, .int lo, .int hi] ∧ okD v = true ∧ Q (.bl (isNum v lo hi)) h
def letters : List Nat := ("abcdefghijklmnopqrstuvwxyz" : Str).cps.toList
def isName (v : Val) : Bool := match v with
  | .str z => decide (1 ≤ z.length) && decide (z.length ≤ 8) && z.cps.toList.all fun c => decide (c ∈ letters)
  | _ => false
def nmOf : Val → Str
  | .tup (.str z :: _) => z
  | _ => ""
structure Land where
  nm : Str
  p : Int
  q : Int
  pr : Int
structure Book where
  lands : List Land
  pacts : List (Str × Str)
def encL (l : Land) : Val := .tup [.str l.nm, .int l.p, .int l.q, .int l.pr]
def encP (p : Str × Str) : Val := .tup [.str p.1, .str p.2]
def encB (b : Book) : Val := .tup [.tup (b.lands.map encL), .tup (b.pacts.map encP)]
def Book.names (b : Book) : List Str := b.lands.map (·.nm)
abbrev Heap' := List (Int × Option Str)
def encO : Option Str → Val
  | some z => .str z
  | none => .non
def encR (r : Int × Option Str) : Val := .tup [.int r.1, encO r.2]
def encH (hp : Heap') : Val := .tup (hp.map encR)
structure WFB (b : Book) : Prop where
  n1 : 1 ≤ b.lands.length
  n4 : b.lands.length ≤ 4
  nm : ∀ l ∈ b.lands, isName (.str l.nm) = true
  sh : ∀ l ∈ b.lands, 1 ≤ l.p ∧ l.p ≤ l.q ∧ l.q ≤ 99 ∧ 0 ≤ l.pr ∧ l.pr ≤ 999
  up : b.names.Pairwise fun x y => x.cps.toList < y.cps.toList
  pc : ∀ p ∈ b.pacts, p.1 ∈ b.names ∧ p.2 ∈ b.names ∧ p.1 ≠ p.2
  pu : b.pacts.Pairwise fun x y => x.1.cps.toList < y.1.cps.toList ∨ (x.1 = y.1 ∧ x.2.cps.toList < y.2.cps.toList)
  pl : b.pacts.length ≤ 16
def S_names_of : SpF := fun as h Q _ => ∃ b : Book, as = [encB b] ∧ b.lands.length ≤ 4 ∧ Q (.lst (b.names.map .str)) h
end DL
namespace DL
open PySem PySem.Spec PyProof.Rows L2
def den_is_number : SD := (sRet (vAnd (dCB fIsi (aCons (dVar 0) (aCons (dC (.ty "int")) aNil))) (vAnd (vNot (dCB fIsi (aCons (dVar 0) (aCons (dC (.ty "bool")) aNil)))) (dChain fLe fLe (dVar 1) (dVar 0) (dVar 2)))))
def den_names_of : SD := (sRet (dLc (dIt (dBin fIx (dVar 0) (dC (.int 0)))) (.nm 1) tTrue (dBin fIx (dVar 1) (dC (.int 0))) [1]))
end DL
namespace DL
open PySem PySem.Spec PyProof.Rows L2
theorem bo_is_number (N : List Str) (hN : N.length = 3) : ∀ as h Q E, as.length = 3 → S_is_number as h Q E → den_is_number (startA N as) h (endsR Q) (RX E) := by
  rintro as h Q E - ⟨v, lo, hi, rfl, ok, q⟩
  have q := RT.same q
  cases v <;> first | (simp [okD] at ok; done) | skip
  all_goals simp [den_is_number, isNum, hN] at q ⊢
  all_goals first | exact q | (split <;> simp_all)
theorem inA_str {z : Str} {names : List Str} : inA (.str z) (names.map .str) = decide (z ∈ names) := by
  unfold inA
  rw [List.any_map, Bool.eq_iff_iff, List.any_eq_true]
  simp only [decide_eq_true_eq]
  constructor
  · rintro ⟨x, hx, e⟩
    have : (x == z) = true := e
    rw [← eq_of_beq this]; exact hx
  · intro h
    exact ⟨z, h, (by show (z == z) = true; simp)⟩
theorem flat_strs (names : List Str) : (names.map Val.str).all flatA = true := by
  rw [List.all_map, List.all_eq_true]; intro x _; rfl
theorem bo_names_of (N : List Str) (hN : N.length = 2) : ∀ as h Q E, as.length = 1 → S_names_of as h Q E → den_names_of (startA N as) h (endsR Q) (RX E) := by
  rintro as h Q E - ⟨b, rfl, hl, q⟩
  have q := RT.same q
  unfold den_names_of
  simp only [startA, hN]
  show dLc _ _ _ _ _ _ _ _ _
  refine lc_map (items := b.lands.map encL) (ok := fun _ => True) (fun v => .str (nmOf v)) (fun R r => by simpa [encB, atI, ixN] using r) (fun _ _ => trivial) (by rw [List.length_map]; exact sl1000 (by omega)) (fun v hv => ?_) ?_
  · obtain ⟨l, -, rfl⟩ := List.mem_map.mp hv
    refine ⟨_, rfl, fun h' Q' _ q' => ?_⟩
    simpa [encL, atI, ixN, nmOf] using q'
  · refine Qv q ?_
    simp [Book.names, encL, nmOf]
end DL
namespace DL
open PySem PySem.Spec PyProof.Rows L2
def RsOk (rs : List (Key × Val)) : Prop := ∃ ks : List Nat, rs.map (·.1) = ks.map (fun (k : Nat) => (Sum.inl (k : Int) : Key)) ∧ ks.Nodup ∧ (∀ k ∈ ks, k < 64) ∧ ∀ kv ∈ rs, ∃ z, kv.2 = .int z
structure Town (t r : Addr) (h : Hv) : Prop where
  ne : t ≠ r
  tc : ∃ c : Int, 0 ≤ c ∧ h t = some (.dK [(.inr "count", .int c), (.inr "rests", .ref r)])
  rc : ∃ rs, h r = some (.dK rs) ∧ RsOk rs
def Only (t r : Addr) (h h' : Hv) : Prop := ∀ a, a ≠ t → a ≠ r → h' a = h a
theorem Only.refl {t r : Addr} (h : Hv) : Only t r h h := fun _ _ _ => rfl
theorem Only.trans {t r : Addr} {h h1 h2 : Hv} (a : Only t r h h1) (b : Only t r h1 h2) : Only t r h h2 := fun x u v => (b x u v).trans (a x u v)
def S__law_is : SpF := fun as h Q _ => ∃ a b, as = [.bl a, .bl b] ∧ Q (.bl (a == b)) h
def S__law_draw : SpF := fun as h Q _ => ∃ ns t r m, as = [.scr ns, .ref t, .int m] ∧ 0 < m ∧ m < 1073741824 ∧ ns.length ≤ 63 ∧ Town t r h ∧ ∀ n h', 0 ≤ n → n < m → Town t r h' → Only t r h h' → Q (.int n) h'
def S__law_begun : SpF := fun as h Q _ => as = [] ∧ ∀ t r h', h t = none → h r = none → Town t r h' → Only t r h h' → Q (.ref t) h'
structure Drawn (b : Book) : Prop where
  wf : WFB b
  nm : ∃ k, 1 ≤ k ∧ k ≤ 3 ∧ b.names = (["ash", "elm", "fir"] : List Str).take k
  sh : ∀ l ∈ b.lands, 1 ≤ l.p ∧ l.p ≤ l.q ∧ l.q ≤ 6 ∧ 0 ≤ l.pr ∧ l.pr ≤ 8
def S__law_a_book : SpF := fun as h Q _ => ∃ ns t r, as = [.scr ns, .ref t] ∧ ns.length ≤ 63 ∧ Town t r h ∧ ∀ b h', Drawn b → Town t r h' → Only t r h h' → Q (encB b) h'
structure DrawnH (b : Book) (hp : Heap') (most : Int) : Prop where
  n1 : 1 ≤ hp.length
  nm : hp.length ≤ most
  wt : ∀ x ∈ hp, 1 ≤ x.1 ∧ x.1 ≤ 40
  fr : ∀ x ∈ hp, ∀ z, x.2 = some z → z ∈ b.names
def S__law_a_heap : SpF := fun as h Q _ => ∃ ns t r b most, as = [.scr ns, .ref t, encB b, .int most] ∧ ns.length ≤ 63 ∧ 1 ≤ most ∧ most ≤ 8 ∧ b.lands.length ≤ 4 ∧ Town t r h ∧ ∀ hp h', DrawnH b hp most → Town t r h' → Only t r h h' → Q (encH hp) h'
end DL
namespace DL
open PySem PySem.Spec PyProof.Rows L2
def den__law_is : SD := (sRet (vAnd (dCB fIsi (aCons (dVar 0) (aCons (dC (.ty "bool")) aNil))) (dBin fEq (dVar 0) (dVar 1))))
def den__law_draw : SD := (sSeq (sDPut (dVar 1) (dC (.str "count")) (dBin fAdd (dDGet (dVar 1) (dC (.str "count"))) (dC (.int 1)))) (sSeq (sSet 3 (dIfE (dTruth (dVar 0)) (dBin fMod (dDGet (dVar 1) (dC (.str "count"))) (dCB fLen (aCons (dVar 0) aNil))) (dC (.int 0)))) (sSeq (sSet 4 (dDGet2 (dDGet (dVar 1) (dC (.str "rests"))) (dVar 3) (dIfE (dTruth (dVar 0)) (dBin fIx (dVar 0) (dVar 3)) (dC (.int 0))))) (sSeq (sIf (dTest (dBin fGe (dVar 4) (dBin fPow (dC (.int 10)) (dC (.int 18))))) (sSeq (sDPut (dDGet (dVar 1) (dC (.str "rests"))) (dVar 3) (dBin fDiv (dVar 4) (dVar 2))) (sRet (dBin fMod (dVar 4) (dVar 2)))) sNext) (sSeq (sSet 5 (dBin fMod (dBin fAdd (dVar 4) (dBin fMulA (dC (.int 104729)) (dDGet (dVar 1) (dC (.str "count"))))) (dC (.int 4294967291)))) (sSeq (sSet 5 (dBin fMod (dBin fPow (dVar 5) (dC (.int 5))) (dC (.int 4294967279)))) (sRet (dBin fMod (dBin fDiv (dBin fMod (dBin fAdd (dBin fMulA (dBin fDiv (dVar 5) (dC (.int 64))) (dC (.int 69621))) (dVar 5)) (dC (.int 4294967231))) (dC (.int 8))) (dVar 2)))))))))
def den__law_begun : SD := (sRet (dDisp [((dC (.str "count")), (dC (.int 0))), ((dC (.str "rests")), dNewK)]))
def den__law_a_book : SD := (sSeq (sPar [2, 3, 4] (aCons (dSl fSl (dTup (aCons (dC (.str "ash")) (aCons (dC (.str "elm")) (aCons (dC (.str "fir")) aNil)))) oNone (oSome (dBin fAdd (dC (.int 1)) (dCall 3 S__law_draw (aCons (dVar 0) (aCons (dVar 1) (aCons (dC (.int 3)) aNil))))))) (aCons (dLstH aNil) (aCons (dLstH aNil) aNil)))) (sSeq (sFor (dIt (dVar 2)) (.nm 5) (sSeq (sSet 6 (dBin fAdd (dC (.int 1)) (dCall 3 S__law_draw (aCons (dVar 0) (aCons (dVar 1) (aCons (dC (.int 6)) aNil)))))) (sExpr (dBM "list" fAppend (dVar 3) (aCons (dTup (aCons (dVar 5) (aCons (dBin fAdd (dC (.int 1)) (dCall 3 S__law_draw (aCons (dVar 0) (aCons (dVar 1) (aCons (dVar 6) aNil))))) (aCons (dVar 6) (aCons (dCall 3 S__law_draw (aCons (dVar 0) (aCons (dVar 1) (aCons (dC (.int 9)) aNil)))) aNil))))) aNil))))) (sSeq (sFor (dIt (dVar 2)) (.nm 7) (sFor (dIt (dVar 2)) (.nm 8) (sIf (dAnd (dTest (dBin fNe (dVar 7) (dVar 8))) (dTest (dBin fEq (dCall 3 S__law_draw (aCons (dVar 0) (aCons (dVar 1) (aCons (dC (.int 3)) aNil)))) (dC (.int 0))))) (sExpr (dBM "list" fAppend (dVar 4) (aCons (dTup (aCons (dVar 7) (aCons (dVar 8) aNil))) aNil))) sNext))) (sRet (dTup (aCons (dCB fTuple (aCons (dVar 3) aNil)) (aCons (dCB fTuple (aCons (dVar 4) aNil)) aNil)))))))
def den__law_a_heap : SD := (sSeq (sPar [4, 5] (aCons (dLstH aNil) (aCons (dLc (dIt (dBin fIx (dVar 2) (dC (.int 0)))) (.nm 8) tTrue (dBin fIx (dVar 8) (dC (.int 0))) [8]) aNil))) (sSeq (sFor (dRange1 (aCons (dBin fAdd (dC (.int 1)) (dCall 3 S__law_draw (aCons (dVar 0) (aCons (dVar 1) (aCons (dVar 3) aNil))))) aNil)) (.nm 6) (sSeq (sSet 7 (dBin fAdd (dC (.int 1)) (dCall 3 S__law_draw (aCons (dVar 0) (aCons (dVar 1) (aCons (dBin fIx (dLst (aCons (dC (.int 9)) (aCons (dC (.int 40)) aNil))) (dCall 3 S__law_draw (aCons (dVar 0) (aCons (dVar 1) (aCons (dC (.int 2)) aNil))))) aNil)))))) (sExpr (dBM "list" fAppend (dVar 4) (aCons (dTup (aCons (dVar 7) (aCons (dBin fIx (dBin fAdd (dBin fAdd (dVar 5) (dVar 5)) (dLst (aCons (dC .non) aNil))) (dCall 3 S__law_draw (aCons (dVar 0) (aCons (dVar 1) (aCons (dBin fAdd (dBin fMulA (dC (.int 2)) (dCB fLen (aCons (dVar 5) aNil))) (dC (.int 1))) aNil))))) aNil))) aNil))))) (sRet (dCB fTuple (aCons (dVar 4) aNil)))))
end DL
namespace DL
open PySem PySem.Spec PyProof.Rows L2
theorem atI_nat {α : Type} {xs : List α} {k : Nat} (h : k < xs.length) : atI xs (k : Int) = some xs[k] := by
  have : ixN xs.length (k : Int) = some k := by unfold ixN; simp; omega
  unfold atI
  rw [this]
  exact List.getElem?_eq_getElem h
theorem atI_int {α : Type} {xs : List α} {i : Int} (h0 : 0 ≤ i) (h : i < xs.length) : ∃ (h : i.toNat < xs.length), atI xs i = some (xs[i.toNat]'h) := by
  obtain ⟨k, rfl⟩ := Int.eq_ofNat_of_zero_le h0
  have h : k < xs.length := by omega
  exact ⟨h, atI_nat h⟩
theorem seq_o {a b : SD} {ρ : Sl} {h : Hv} {D : AE} {E : PX} (q : ∀ K : SD, K = b → a ρ h { D with nx := fun ρ h => K ρ h D E } E) : sSeq a b ρ h D E := q b rfl
theorem atI_zero {α : Type} (x : α) (xs : List α) : atI (x :: xs) 0 = some x := by
  have : ixN (xs.length + 1) 0 = some 0 := by simp [ixN]
  simp [atI, this]
theorem opq {α : Sort u} {x : α} {P : α → Prop} (q : ∀ y, x = y → P y) : ∀ y, x = y → P y := q
theorem for_o {di : ID} {t : Tg} {d : SD} {ρ : Sl} {h : Hv} {D : AE} {E : PX} (q : ∀ d' : SD, d' = d → sFor di t d' ρ h D E) : sFor di t d ρ h D E := q d rfl
end DL
namespace DL
open PySem PySem.Spec PyProof.Rows L2
theorem bo__law_is (N : List Str) (hN : N.length = 2) : ∀ as h Q E, as.length = 2 → S__law_is as h Q E → den__law_is (startA N as) h (endsR Q) (RX E) := by
  rintro as h Q E - ⟨a, b, rfl, q⟩
  have q := RT.same q
  unfold den__law_is
  simp only [startA, hN]
  simpa using q
theorem nd_len : ∀ (n : Nat) (l : List Nat), l.Nodup → (∀ x ∈ l, x < n) → l.length ≤ n
  | 0, [], _, _ => Nat.le_refl _
  | 0, x :: l, _, h => absurd (h x List.mem_cons_self) (Nat.not_lt_zero _)
  | n + 1, l, nd, h => by
    by_cases hm : n ∈ l
    · have := nd_len n (l.erase n) (nd.erase n) fun x hx => by
        have := (nd.mem_erase_iff).mp hx
        have := h x this.2
        have : x ≠ n := ‹x ≠ n ∧ _›.1
        omega
      rw [List.length_erase_of_mem hm] at this
      omega
    · have := nd_len n l nd fun x hx => by
        have := h x hx
        have : x ≠ n := fun e => hm (e ▸ hx)
        omega
      omega
theorem RsOk.len {rs : List (Key × Val)} (k : RsOk rs) : rs.length ≤ 64 := by
  obtain ⟨ks, e, nd, lt, -⟩ := k
  have := congrArg List.length e
  rw [List.length_map, List.length_map] at this
  rw [this]
  exact nd_len 64 ks nd lt
theorem RsOk.put {rs : List (Key × Val)} (k : RsOk rs) {i : Nat} (hi : i < 64) (z : Int) : RsOk (putA rs (.inl (i : Int)) (.int z)) := by
  obtain ⟨ks, e, nd, lt, iv⟩ := k
  unfold putA
  split
  · refine ⟨ks, ?_, nd, lt, ?_⟩
    · rw [List.map_map, ← e]
      refine List.map_congr_left fun kv _ => ?_
      show (if kv.1 = _ then (kv.1, _) else kv).1 = kv.1
      split <;> rfl
    · intro kv hkv
      obtain ⟨kw, hw, rfl⟩ := List.mem_map.mp hkv
      split
      · exact ⟨_, rfl⟩
      · exact iv kw hw
  · rename_i hn
    refine ⟨ks ++ [i], by rw [List.map_append, List.map_append, e]; rfl, ?_, ?_, ?_⟩
    · rw [List.nodup_append]
      refine ⟨nd, by simp, ?_⟩
      intro a ha b hb hab
      rw [List.mem_singleton] at hb
      subst hb; subst hab
      apply hn
      have : (Sum.inl (a : Int) : Key) ∈ rs.map (·.1) := by rw [e]; exact List.mem_map.mpr ⟨a, ha, rfl⟩
      obtain ⟨kv, hkv, ek⟩ := List.mem_map.mp this
      exact List.any_eq_true.mpr ⟨kv, hkv, by rw [ek]; simp⟩
    · intro k hk
      rcases List.mem_append.mp hk with h | h
      · exact lt k h
      · rw [List.mem_singleton] at h; omega
    · intro kv hkv
      rcases List.mem_append.mp hkv with h | h
      · exact iv kv h
      · rw [List.mem_singleton] at h; subst h; exact ⟨_, rfl⟩
theorem RsOk.val {rs : List (Key × Val)} (k : RsOk rs) (i : Int) : valA rs (.inl i) = none ∨ ∃ z, valA rs (.inl i) = some (.int z) := by
  obtain ⟨ks, e, nd, lt, iv⟩ := k
  unfold valA
  cases hf : rs.find? fun kv => decide (kv.1 = Sum.inl i) with
  | none => exact .inl rfl
  | some kv =>
    obtain ⟨z, hz⟩ := iv kv (List.mem_of_find?_eq_some hf)
    exact .inr ⟨z, by rw [Option.map_some, hz]⟩
theorem put_count (c z : Int) (r : Addr) : putA [((.inr "count" : Key), Val.int c), (.inr "rests", .ref r)] (.inr "count") (.int z) = [(.inr "count", .int z), (.inr "rests", .ref r)] := by
  simp [putA, show ¬ Str.ofString "rests" = Str.ofString "count" by decide]
theorem val_count (c : Int) (r : Addr) : valA [((.inr "count" : Key), Val.int c), (.inr "rests", .ref r)] (.inr "count") = some (.int c) := by
  simp [valA]
theorem val_rests (c : Int) (r : Addr) : valA [((.inr "count" : Key), Val.int c), (.inr "rests", .ref r)] (.inr "rests") = some (.ref r) := by
  simp [valA, show ¬ Str.ofString "count" = Str.ofString "rests" by decide]
theorem bo__law_draw (N : List Str) (hN : N.length = 6) : ∀ as h Q E, as.length = 3 → S__law_draw as h Q E → den__law_draw (startA N as) h (endsR Q) (RX E) := by
  rintro as h Q E - ⟨ns, t, r, m, rfl, m1, m2, nl, T, q⟩
  obtain ⟨c, c0, ht⟩ := T.tc
  obtain ⟨rs, hr, ro⟩ := T.rc
  have ne := T.ne
  -- the town behind the first deed
  have h1 : ∃ h1, h1 = put h t (.dK [(.inr "count", .int (c + 1)), (.inr "rests", .ref r)]) := ⟨_, rfl⟩
  obtain ⟨h1, e1⟩ := h1
  have h1t : h1 t = some (.dK [(.inr "count", .int (c + 1)), (.inr "rests", .ref r)]) := by rw [e1, put_same]
  have h1r : h1 r = some (.dK rs) := by rw [e1, put_ne ne.symm]; exact hr
  have o1 : Only t r h h1 := fun a x y => by rw [e1, put_ne x]
  have T1 : Town t r h1 := ⟨ne, ⟨c + 1, by omega, h1t⟩, ⟨rs, h1r, ro⟩⟩
  have p1 : dputA (.ref t) (.str "count") (.int (c + 1)) h = some h1 := by
    simp only [dputA, ht, keyOf]
    rw [if_pos (by show 2 < sizeLine; decide), put_count, e1]
  -- what is drawn
  have fin : ∀ (at' : Nat) (z : Int), at' < 64 → sSeq (sIf (dTest (dBin fGe (dVar 4) (dBin fPow (dC (.int 10)) (dC (.int 18))))) (sSeq (sDPut (dDGet (dVar 1) (dC (.str "rests"))) (dVar 3) (dBin fDiv (dVar 4) (dVar 2))) (sRet (dBin fMod (dVar 4) (dVar 2)))) sNext) (sSeq (sSet 5 (dBin fMod (dBin fAdd (dVar 4) (dBin fMulA (dC (.int 104729)) (dDGet (dVar 1) (dC (.str "count"))))) (dC (.int 4294967291)))) (sSeq (sSet 5 (dBin fMod (dBin fPow (dVar 5) (dC (.int 5))) (dC (.int 4294967279)))) (sRet (dBin fMod (dBin fDiv (dBin fMod (dBin fAdd (dBin fMulA (dBin fDiv (dVar 5) (dC (.int 64))) (dC (.int 69621))) (dVar 5)) (dC (.int 4294967231))) (dC (.int 8))) (dVar 2))))) [some (.scr ns), some (.ref t), some (.int m), some (.int at'), some (.int z), none] h1 (endsR Q) (RX E) := fun at' z ha => by
    by_cases hz : 10 ^ 18 ≤ z
    · have pw : CPow 10 18 := ⟨by decide, by decide, by decide⟩
      have dv : CDiv z m := ⟨m1, m2⟩
      have p2 : dputA (.ref r) (.int at') (.int (z / m)) h1 = some (put h1 r (.dK (putA rs (.inl (at' : Int)) (.int (z / m))))) := by
        simp only [dputA, h1r, keyOf]
        rw [if_pos (by have := ro.len; rw [sizeLine_eq]; omega)]
      have hz' : (1000000000000000000 : Int) ≤ z := hz
      have fg : ∀ P : Val → Hv → Prop, P (.bl true) h1 → fGe (.int z) (.int 1000000000000000000) h1 P := fun P p => by
        show P (.bl (decide _)) h1
        rw [show decide ((1000000000000000000 : Int) ≤ z) = true from decide_eq_true hz']
        exact p
      simp [pw, dv, h1t, val_rests, p2, m1, hz']
      refine RT.same (q _ _ (Int.emod_nonneg _ (by omega)) (Int.emod_lt_of_pos _ m1) ⟨ne, ⟨c + 1, by omega, by rw [put_ne ne]; exact h1t⟩, ⟨_, put_same, ro.put ha _⟩⟩ fun a x y => by rw [put_ne y]; exact o1 a x y)
    · have pw : CPow 10 18 := ⟨by decide, by decide, by decide⟩
      have hz' : ¬ (1000000000000000000 : Int) ≤ z := hz
      obtain ⟨u, eu⟩ : ∃ u, u = (z + 104729 * (c + 1)) % 4294967291 := ⟨_, rfl⟩
      have u0 : 0 ≤ u := by rw [eu]; exact Int.emod_nonneg _ (by decide)
      have u1 : u < 4294967291 := by rw [eu]; exact Int.emod_lt_of_pos _ (by decide)
      have pw2 : CPow u 5 := ⟨by decide, by decide, by
        have : (2:Nat) ^ 64 = 18446744073709551616 := by decide
        omega⟩
      obtain ⟨w, ew⟩ : ∃ w, w = u ^ 5 % 4294967279 := ⟨_, rfl⟩
      have w0 : 0 ≤ w := by rw [ew]; exact Int.emod_nonneg _ (by decide)
      have cm : CMul 104729 (c + 1) := .inl ⟨by decide, by decide⟩
      have cm2 : CMul (w / 64) 69621 := .inr ⟨by decide, by decide⟩
      have cd1 : CDiv w 64 := ⟨by decide, by decide⟩
      have cd2 : ∀ x, CDiv x 8 := fun _ => ⟨by decide, by decide⟩
      simp [pw, hz', h1t, val_count, cm, ← eu, pw2, ← ew, cd1, cm2, cd2, m1]
      exact RT.same (q _ _ (Int.emod_nonneg _ (by omega)) (Int.emod_lt_of_pos _ m1) T1 o1)
  unfold den__law_draw
  simp only [startA, hN]
  generalize hg : sSeq (sIf (dTest (dBin fGe (dVar 4) (dBin fPow (dC (.int 10)) (dC (.int 18))))) (sSeq (sDPut (dDGet (dVar 1) (dC (.str "rests"))) (dVar 3) (dBin fDiv (dVar 4) (dVar 2))) (sRet (dBin fMod (dVar 4) (dVar 2)))) sNext) (sSeq (sSet 5 (dBin fMod (dBin fAdd (dVar 4) (dBin fMulA (dC (.int 104729)) (dDGet (dVar 1) (dC (.str "count"))))) (dC (.int 4294967291)))) (sSeq (sSet 5 (dBin fMod (dBin fPow (dVar 5) (dC (.int 5))) (dC (.int 4294967279)))) (sRet (dBin fMod (dBin fDiv (dBin fMod (dBin fAdd (dBin fMulA (dBin fDiv (dVar 5) (dC (.int 64))) (dC (.int 69621))) (dVar 5)) (dC (.int 4294967231))) (dC (.int 8))) (dVar 2))))) = dd at fin ⊢
  cases ns with
  | nil =>
    have := fun z => fin 0 z (by decide)
    simp only [sSeq, sDPut, dBin, dDGet, dVar, dC, sSet, dIfE, dTruth, dDGet2]
    rcases ro.val 0 with e | ⟨z, e⟩
    · simp [ht, h1t, h1r, val_count, val_rests, p1, e]
      exact this 0
    · simp [ht, h1t, h1r, val_count, val_rests, p1, e]
      exact this z
  | cons n ns =>
    rw [List.length_cons] at nl
    obtain ⟨k, ek⟩ : ∃ k : Nat, (c + 1) % ((ns.length : Int) + 1) = k := ⟨((c + 1) % ((ns.length : Int) + 1)).toNat, by
      have := Int.emod_nonneg (c + 1) (b := (ns.length : Int) + 1) (by omega)
      omega⟩
    have hk : k < ns.length + 1 := by
      have := Int.emod_lt_of_pos (c + 1) (b := (ns.length : Int) + 1) (by omega)
      omega
    have := fun z => fin k z (by omega)
    have at1 : ∃ z, atI ((n :: ns).map Val.int) (k : Int) = some (.int z) := by
      have hk' : k < ((n :: ns).map Val.int).length := by simpa using hk
      refine ⟨(n :: ns)[k]'(by simpa using hk), ?_⟩
      rw [atI_nat hk', List.getElem_map]
    obtain ⟨z0, ez0⟩ := at1
    rw [List.map_cons] at ez0
    have lp : (0 : Int) < (ns.length : Int) + 1 := by omega
    simp only [sSeq, sDPut, dBin, dDGet, dVar, dC, sSet, dIfE, dTruth, dDGet2]
    rcases ro.val k with e | ⟨z, e⟩
    · simp [ht, h1t, h1r, val_count, val_rests, p1, e, ek, ez0, lp]
      exact this z0
    · simp [ht, h1t, h1r, val_count, val_rests, p1, e, ek, ez0, lp]
      exact this z
theorem bo__law_begun (N : List Str) (hN : N.length = 0) : ∀ as h Q E, as.length = 0 → S__law_begun as h Q E → den__law_begun (startA N as) h (endsR Q) (RX E) := by
  rintro as h Q E - ⟨rfl, q⟩
  unfold den__law_begun
  simp only [startA, hN]
  simp [dDisp, dPairs]
  intro t ht r hr
  have ne : t ≠ r := fun e => by rw [e, put_same] at hr; cases hr
  have e : putA (putA [] (Sum.inr (Str.ofString "count")) (Val.int 0)) (Sum.inr (Str.ofString "rests")) (Val.ref r) = [((.inr "count" : Key), Val.int 0), (.inr "rests", .ref r)] := by
    simp [putA, show ¬ Str.ofString "count" = Str.ofString "rests" by decide]
  rw [e]
  refine RT.same (q t r _ ht (by rw [put_ne ne.symm] at hr; exact hr) ⟨ne, ⟨0, by decide, put_same⟩, ⟨[], by rw [put_ne ne.symm, put_same], [], rfl, List.nodup_nil, by simp, by simp⟩⟩ fun a x y => by rw [put_ne x, put_ne y, put_ne x])
def dropAll (ps : List Addr) (h : Hv) : Hv := fun a => if a ∈ ps then none else h a
theorem dropAll_less {ps : List Addr} {h : Hv} (nb : ∀ p ∈ ps, h p ≠ some .busy) : Lss h (dropAll ps h) := ⟨fun a => by
  unfold dropAll; split
  · exact .inl rfl
  · exact .inr rfl, fun a e => by
  unfold dropAll; split
  · rename_i m; exact absurd e (nb a m)
  · exact e⟩
def Ext (t r : Addr) (ps : List Addr) (h h' : Hv) : Prop := ∀ a, a ≠ t → a ≠ r → a ∉ ps → h' a = h a
theorem Ext.only {t r : Addr} {ps : List Addr} {h h' : Hv} (e : Ext t r ps h h') (f : ∀ p ∈ ps, h p = none) : Only t r h (dropAll ps h') := fun a x y => by
  unfold dropAll
  split
  · rename_i m; exact (f a m).symm
  · rename_i m; exact e a x y m
theorem Town.dropAll {t r : Addr} {ps : List Addr} {h : Hv} (T : Town t r h) (n1 : t ∉ ps) (n2 : r ∉ ps) : Town t r (dropAll ps h) :=
  ⟨T.ne, by
    obtain ⟨c, c0, e⟩ := T.tc
    exact ⟨c, c0, by unfold DL.dropAll; rw [if_neg n1]; exact e⟩, by
    obtain ⟨rs, e, k⟩ := T.rc
    exact ⟨rs, by unfold DL.dropAll; rw [if_neg n2]; exact e, k⟩⟩
theorem Town.put {t r p : Addr} {o : Ob} {h : Hv} (T : Town t r h) (n1 : p ≠ t) (n2 : p ≠ r) : Town t r (DL.put h p o) :=
  ⟨T.ne, by
    obtain ⟨c, c0, e⟩ := T.tc
    exact ⟨c, c0, by rw [put_ne n1.symm]; exact e⟩, by
    obtain ⟨rs, e, k⟩ := T.rc
    exact ⟨rs, by rw [put_ne n2.symm]; exact e, k⟩⟩
theorem Town.some {t r : Addr} {h : Hv} (T : Town t r h) : h t ≠ none ∧ h r ≠ none := by
  obtain ⟨c, c0, e⟩ := T.tc
  obtain ⟨rs, e2, k⟩ := T.rc
  exact ⟨by rw [e]; simp, by rw [e2]; simp⟩
theorem Town.fresh {t r p : Addr} {h : Hv} (T : Town t r h) (e : h p = none) : p ≠ t ∧ p ≠ r :=
  ⟨fun q => T.some.1 (q ▸ e), fun q => T.some.2 (q ▸ e)⟩
def threeN (names : List Str) : Prop := ∃ k, 1 ≤ k ∧ k ≤ 3 ∧ names = (["ash", "elm", "fir"] : List Str).take k
theorem take3 {n : Int} (h0 : 0 ≤ n) (h3 : n < 3) : ∃ names, threeN names ∧ cutA [Val.str "ash", .str "elm", .str "fir"] none (some (1 + n)) = names.map .str := by
  rcases (show n = 0 ∨ n = 1 ∨ n = 2 by omega) with rfl | rfl | rfl
  · exact ⟨_, ⟨1, by omega, by omega, rfl⟩, rfl⟩
  · exact ⟨_, ⟨2, by omega, by omega, rfl⟩, rfl⟩
  · exact ⟨_, ⟨3, by omega, by omega, rfl⟩, rfl⟩
theorem threeN.len {names : List Str} (h : threeN names) : 1 ≤ names.length ∧ names.length ≤ 3 := by
  obtain ⟨k, h1, h3, rfl⟩ := h
  rw [List.length_take]
  show 1 ≤ min k 3 ∧ min k 3 ≤ 3
  omega
def prs (names : List Str) (x : Str) : List (Str × Str) := (names.filter fun y => decide (x ≠ y)).map fun y => (x, y)
def pairsOf (names : List Str) : List (Str × Str) := names.flatMap (prs names)
theorem drawn_wf {b : Book} (nm : threeN b.names) (sh : ∀ l ∈ b.lands, 1 ≤ l.p ∧ l.p ≤ l.q ∧ l.q ≤ 6 ∧ 0 ≤ l.pr ∧ l.pr ≤ 8) (ps : b.pacts.Sublist (pairsOf b.names)) : Drawn b := by
  have hl : b.lands.length = b.names.length := by unfold Book.names; rw [List.length_map]
  have h3 := nm.len
  have ln := ps.length_le
  obtain ⟨k, k1, k3, ek⟩ := nm
  have pu : (pairsOf b.names).Pairwise fun x y => x.1.cps.toList < y.1.cps.toList ∨ (x.1 = y.1 ∧ x.2.cps.toList < y.2.cps.toList) := by
    rw [ek]
    rcases (show k = 1 ∨ k = 2 ∨ k = 3 by omega) with rfl | rfl | rfl <;> decide
  have pl : (pairsOf b.names).length ≤ 16 := by
    rw [ek]
    rcases (show k = 1 ∨ k = 2 ∨ k = 3 by omega) with rfl | rfl | rfl <;> decide
  refine ⟨⟨by omega, by omega, ?_, fun l hl => ?_, ?_, fun p hp => ?_, pu.sublist ps, by omega⟩, ⟨k, k1, k3, ek⟩, sh⟩
  · intro l hl
    have : l.nm ∈ (["ash", "elm", "fir"] : List Str) := by
      have : l.nm ∈ b.names := List.mem_map.mpr ⟨l, hl, rfl⟩
      rw [ek] at this
      exact List.mem_of_mem_take this
    rcases List.mem_cons.mp this with e | this
    · rw [e]; decide
    rcases List.mem_cons.mp this with e | this
    · rw [e]; decide
    rw [List.mem_singleton.mp this]; decide
  · have := sh l hl; omega
  · rw [ek]
    rcases (show k = 1 ∨ k = 2 ∨ k = 3 by omega) with rfl | rfl | rfl <;> decide
  · obtain ⟨x, hx, hy⟩ := List.mem_flatMap.mp (ps.subset hp)
    obtain ⟨y, hy', rfl⟩ := List.mem_map.mp hy
    have := List.mem_filter.mp hy'
    exact ⟨hx, this.1, of_decide_eq_true this.2⟩
theorem draw_ask {ns : List Int} {t r : Addr} {m : Int} {h : Hv} {Q : PV} {E : PF} (nl : ns.length ≤ 63) (m0 : 0 < m) (m1 : m < 1073741824) (T : Town t r h) (q : ∀ n h', 0 ≤ n → n < m → Town t r h' → Only t r h h' → Q (.int n) h') : S__law_draw [.scr ns, .ref t, .int m] h Q E := ⟨ns, t, r, m, rfl, m0, m1, nl, T, q⟩
theorem bo__law_a_book (N : List Str) (hN : N.length = 9) : ∀ as h Q E, as.length = 2 → S__law_a_book as h Q E → den__law_a_book (startA N as) h (endsR Q) (RX E) := by
  rintro as h0 Q E - ⟨ns, t, r, rfl, nl, T0, q⟩
  unfold den__law_a_book
  simp only [startA, hN]
  generalize hL1 : sFor (dIt (dVar 2)) (.nm 5) _ = L1
  generalize hL2 : sFor (dIt (dVar 2)) (.nm 7) _ = L2
  generalize hR : sRet (dTup _) = R
  simp
  refine ⟨by decide, draw_ask nl (by decide) (by decide) T0 fun n h1 n0 n3 T1 o1 => ?_⟩
  obtain ⟨names, tn, en⟩ := take3 n0 n3
  have nlen := tn.len
  simp [en]
  intro pl hpl pp hpp
  obtain ⟨l1, l2⟩ := T1.fresh hpl
  have T2 := T1.put (o := .lst []) l1 l2
  obtain ⟨p1, p2⟩ := T2.fresh hpp
  have T3 := T2.put (o := .lst []) p1 p2
  have lp : pl ≠ pp := fun e => by rw [e, put_same] at hpp; cases hpp
  have hpp1 : h1 pp = none := by rw [put_ne lp.symm] at hpp; exact hpp
  have h0l : h0 pl = none := by rw [← o1 pl l1 l2]; exact hpl
  have h0p : h0 pp = none := by rw [← o1 pp p1 p2]; exact hpp1
  have x3 : Ext t r [pl, pp] h0 (put (put h1 pl (.lst [])) pp (.lst [])) := fun a x y z => by
    simp at z
    rw [put_ne z.2, put_ne z.1]; exact o1 a x y
  -- the first loop
  subst hL1
  refine for_ind (fun vs ρ h => ∃ (done : List Land) (rest : List Str) (x5 x6 : Option Val), vs = rest.map .str ∧ names = done.map (·.nm) ++ rest ∧ ρ = [some (.scr ns), some (.ref t), some (.tup (names.map .str)), some (.ref pl), some (.ref pp), x5, x6, none, none] ∧ h pl = some (.lst (done.map encL)) ∧ h pp = some (.lst []) ∧ Town t r h ∧ Ext t r [pl, pp] h0 h ∧ ∀ l ∈ done, 1 ≤ l.p ∧ l.p ≤ l.q ∧ l.q ≤ 6 ∧ 0 ≤ l.pr ∧ l.pr ≤ 8) ?_ ?_ _ _ _ ⟨[], names, none, none, rfl, rfl, rfl, by rw [put_ne lp, put_same]; rfl, put_same, T3, x3, by simp⟩
  · rintro ρ h ⟨done, rest, x5, x6, e1, e2, rfl, gl, gp, T, x, sh⟩
    refine ⟨trivial, ?_⟩
    have : rest = [] := by cases rest with
      | nil => rfl
      | cons _ _ => cases e1
    subst this
    rw [List.append_nil] at e2
    show L2 _ _ _ _
    -- the second loop
    subst hL2
    have eT : dIt (dVar 2) = dIt (dVar 2) := rfl
    refine for_ind (fun vs ρ h => ∃ (pre rest : List Str) (ps : List (Str × Str)) (x5 x6 x7 x8 : Option Val), vs = rest.map .str ∧ names = pre ++ rest ∧ ρ = [some (.scr ns), some (.ref t), some (.tup (names.map .str)), some (.ref pl), some (.ref pp), x5, x6, x7, x8] ∧ h pl = some (.lst (done.map encL)) ∧ h pp = some (.lst (ps.map encP)) ∧ Town t r h ∧ Ext t r [pl, pp] h0 h ∧ ps.Sublist (pre.flatMap (prs names)) ∧ ps.length ≤ 3 * pre.length) ?_ ?_ _ _ _ ⟨[], names, [], x5, x6, none, none, rfl, rfl, rfl, gl, gp, T, x, List.nil_sublist _, Nat.zero_le _⟩
    · rintro ρ h ⟨pre, rest, ps, x5, x6, x7, x8, e1, e3, rfl, gl, gp, T, x, sl, pln⟩
      have : rest = [] := by cases rest with
        | nil => rfl
        | cons _ _ => cases e1
      subst this
      rw [List.append_nil] at e3
      refine ⟨trivial, ?_⟩
      subst hR
      dsimp only
      simp [gl, gp]
      refine ⟨by decide, RT.less (dropAll_less (ps := [pl, pp]) ?_) (q ⟨done, ps⟩ _ (drawn_wf (b := ⟨done, ps⟩) ?_ sh ?_) (T.dropAll ?_ ?_) (x.only ?_))⟩
      · intro p hp
        simp at hp
        rcases hp with rfl | rfl
        · rw [gl]; simp
        · rw [gp]; simp
      · show threeN (done.map (·.nm))
        rw [← e2]; exact tn
      · show ps.Sublist (pairsOf (done.map (·.nm)))
        rw [← e2]
        rw [← e3] at sl
        exact sl
      · simp [l1.symm, p1.symm]
      · simp [l2.symm, p2.symm]
      · intro p hp
        simp at hp
        rcases hp with rfl | rfl
        · exact h0l
        · exact h0p
    · rintro v vs ρ h ⟨pre, rest, ps, x5, x6, x7, x8, e1, e3, rfl, gl, gp, T, x, sl, pln⟩
      cases rest with
      | nil => cases e1
      | cons z rest =>
        rw [List.map_cons, List.cons.injEq] at e1
        obtain ⟨rfl, rfl⟩ := e1
        refine ⟨trivial, _, rfl, fun N hN => ?_⟩
        show forL _ _ _ _ _ _ _ _
        refine for_ind (fun vs ρ h => ∃ (gpre grest : List Str) (ps : List (Str × Str)) (x5 x6 x8 : Option Val), vs = grest.map .str ∧ names = gpre ++ grest ∧ ρ = [some (.scr ns), some (.ref t), some (.tup (names.map .str)), some (.ref pl), some (.ref pp), x5, x6, some (.str z), x8] ∧ h pl = some (.lst (done.map encL)) ∧ h pp = some (.lst (ps.map encP)) ∧ Town t r h ∧ Ext t r [pl, pp] h0 h ∧ ps.Sublist (pre.flatMap (prs names) ++ prs gpre z) ∧ ps.length ≤ 3 * pre.length + gpre.length) ?_ ?_ _ _ _ ⟨[], names, ps, x5, x6, x8, rfl, rfl, rfl, gl, gp, T, x, by simpa [prs] using sl, pln⟩
        · rintro ρ h ⟨gpre, grest, ps, x5, x6, x8, e1, e4, rfl, gl, gp, T, x, sl, pln⟩
          have : grest = [] := by cases grest with
            | nil => rfl
            | cons _ _ => cases e1
          subst this
          rw [List.append_nil] at e4
          refine ⟨trivial, hN _ _ ⟨pre ++ [z], rest, ps, x5, x6, some (.str z), x8, rfl, by rw [e3]; simp, rfl, gl, gp, T, x, ?_⟩⟩
          have : names.length = gpre.length := by rw [e4]
          rw [← e4] at sl
          exact ⟨by simpa using sl, by rw [List.length_append, List.length_singleton]; omega⟩
        · rintro v vs ρ h ⟨gpre, grest, ps, x5, x6, x8, e1, e4, rfl, gl, gp, T, x, sl, pln⟩
          cases grest with
          | nil => cases e1
          | cons y grest =>
            rw [List.map_cons, List.cons.injEq] at e1
            obtain ⟨rfl, rfl⟩ := e1
            refine ⟨trivial, _, rfl, fun N hN => ?_⟩
            have l3 := congrArg List.length e3
            rw [List.length_append, List.length_cons] at l3
            have l4 := congrArg List.length e4
            rw [List.length_append, List.length_cons] at l4
            have gl5 : (ps.map encP).length < sizeLine := by rw [List.length_map, sizeLine_eq]; omega
            have sub1 : ps.Sublist (pre.flatMap (prs names) ++ prs (gpre ++ [y]) z) := by
              refine sl.trans ?_
              unfold prs
              rw [List.filter_append, List.map_append]
              exact List.Sublist.append_left (List.sublist_append_left _ _) _
            have e4' : names = (gpre ++ [y]) ++ grest := by rw [e4]; simp
            have lg : (gpre ++ [y]).length = gpre.length + 1 := by simp
            by_cases hzy : z = y
            · subst hzy
              simp
              exact hN _ _ ⟨gpre ++ [z], grest, ps, x5, x6, some (.str z), rfl, e4', rfl, gl, gp, T, x, sub1, by omega⟩
            · have hzy' : (z == y) = false := by simpa using hzy
              simp [dBM, hzy, hzy']
              refine draw_ask nl (by decide) (by decide) T fun n1 h1 a0 a1 T1 o1 => ?_
              have gl1 : h1 pl = some (.lst (done.map encL)) := by rw [o1 pl l1 l2]; exact gl
              have gp1 : h1 pp = some (.lst (ps.map encP)) := by rw [o1 pp p1 p2]; exact gp
              have x1 : Ext t r [pl, pp] h0 h1 := fun a u v w => (o1 a u v).trans (x a u v w)
              by_cases hn : n1 = 0
              · subst hn
                simp [tyA, fAppend, gp1]
                refine ⟨by decide, by simpa using gl5, hN _ _ ⟨gpre ++ [y], grest, ps ++ [(z, y)], x5, x6, some (.str y), rfl, e4', rfl, by rw [put_ne lp]; exact gl1, by rw [put_same]; simp [encP], T1.put p1 p2, ?_, ?_, by rw [List.length_append, List.length_singleton]; omega⟩⟩
                · intro a u v w
                  have : a ≠ pp := fun e => w (by rw [e]; simp)
                  rw [put_ne this]; exact x1 a u v w
                · unfold prs
                  rw [List.filter_append, List.map_append, ← List.append_assoc]
                  refine List.Sublist.append sl ?_
                  simp [hzy]
              · have hn' : (n1 == 0) = false := by simpa using hn
                simp [hn, hn']
                exact hN _ _ ⟨gpre ++ [y], grest, ps, x5, x6, some (.str y), rfl, e4', rfl, gl1, gp1, T1, x1, sub1, by omega⟩
  · rintro v vs ρ h ⟨done, rest, x5, x6, e1, e2, rfl, gl, gp, T, x, sh⟩
    refine ⟨trivial, ?_⟩
    cases rest with
    | nil => cases e1
    | cons z rest =>
      rw [List.map_cons, List.cons.injEq] at e1
      obtain ⟨rfl, rfl⟩ := e1
      refine ⟨_, rfl, fun N hN => ?_⟩
      simp [dBM]
      refine draw_ask nl (by decide) (by decide) T fun n1 h1 a0 a1 T1 o1 => ?_
      dsimp only
      have gl1 : h1 pl = some (.lst (done.map encL)) := by rw [o1 pl l1 l2]; exact gl
      refine ⟨by simp [tyA, gl1], draw_ask nl (by omega) (by omega) T1 fun n2 h2 b0 b1 T2 o2 => ?_⟩
      dsimp only
      refine draw_ask nl (by decide) (by decide) T2 fun n3 h3 c0 c1 T3 o3 => ⟨by decide, ?_⟩
      have o13 := o1.trans (o2.trans o3)
      have gl3 : h3 pl = some (.lst (done.map encL)) := by rw [o13 pl l1 l2]; exact gl
      have gp3 : h3 pp = some (.lst []) := by rw [o13 pp p1 p2]; exact gp
      have dl : done.length ≤ 3 := by
        have := congrArg List.length e2
        rw [List.length_append, List.length_map] at this
        omega
      simp only [fAppend, gl3]
      refine ⟨by rw [List.length_map, sizeLine_eq]; omega, hN _ _ ⟨done ++ [⟨z, 1 + n2, 1 + n1, n3⟩], rest, some (.str z), some (.int (1 + n1)), rfl, by rw [e2]; simp, rfl, ?_, ?_, T3.put l1 l2, ?_, ?_⟩⟩
      · rw [put_same, List.map_append]; rfl
      · rw [put_ne lp.symm]; exact gp3
      · intro a u v w
        have : a ≠ pl := fun e => w (by rw [e]; simp)
        rw [put_ne this, o13 a u v]; exact x a u v w
      · intro l hl
        rcases List.mem_append.mp hl with e | e
        · exact sh l e
        · rw [List.mem_singleton.mp e]
          show 1 ≤ 1 + n2 ∧ 1 + n2 ≤ 1 + n1 ∧ 1 + n1 ≤ 6 ∧ 0 ≤ n3 ∧ n3 ≤ 8
          omega
end DL
namespace DL
open PySem PySem.Spec PyProof.Rows L2
theorem nm_lc {di : ID} {j : Nat} {vs : List Nat} {ρ : Sl} {h : Hv} {Q : PV} {E : PX} {ls : List Land} (hl : ls.length ≤ 1000) (hdi : ∀ R : Itr → Hv → Prop, R ⟨ls.map encL, fun _ => True⟩ h → di ρ h R E) (hj : j < (wipeA ρ vs).length)
    (q : Q (.lst ((ls.map (·.nm)).map .str)) h) : dLc di (.nm j) tTrue (dBin fIx (dVar j) (dC (.int 0))) vs ρ h Q E := by
  refine lc_map (items := ls.map encL) (ok := fun _ => True) (fun v => .str (nmOf v)) hdi (fun _ _ => trivial) (by rw [List.length_map]; exact sl1000 hl) (fun v hv => ?_) ?_
  · obtain ⟨l, -, rfl⟩ := List.mem_map.mp hv
    refine ⟨_, rfl, fun h' Q' _ q' => ?_⟩
    simp [hj]
    simpa [encL, atI, ixN, nmOf] using q'
  · refine Qv q ?_
    simp [encL, nmOf]
theorem pick_from (names : List Str) {n : Int} (h0 : 0 ≤ n) (h1 : n < 2 * (names.length : Int) + 1) : ∃ o : Option Str, atI ((names.map Val.str ++ names.map Val.str) ++ [Val.non]) n = some (encO o) ∧ ∀ z, o = some z → z ∈ names := by
  have hl : ((names.map Val.str ++ names.map Val.str) ++ [Val.non]).length = 2 * names.length + 1 := by simp; omega
  obtain ⟨hk, e⟩ := atI_int (xs := (names.map Val.str ++ names.map Val.str) ++ [Val.non]) h0 (by rw [hl]; omega)
  rw [e]
  have := List.getElem_mem hk
  generalize ((names.map Val.str ++ names.map Val.str) ++ [Val.non])[n.toNat]'hk = v at this
  simp at this
  rcases this with ⟨z, hz, rfl⟩ | rfl
  · exact ⟨some z, rfl, fun y e => by cases e; exact hz⟩
  · exact ⟨none, rfl, fun y e => by cases e⟩
theorem bo__law_a_heap (N : List Str) (hN : N.length = 9) : ∀ as h Q E, as.length = 4 → S__law_a_heap as h Q E → den__law_a_heap (startA N as) h (endsR Q) (RX E) := by
  rintro as h0 Q E - ⟨ns, t, r, b, most, rfl, nl, m1, m8, bl, T0, q⟩
  unfold den__law_a_heap
  simp only [startA, hN]
  generalize hL : sFor _ (.nm 6) _ = L
  generalize hR : sRet (dCB fTuple _) = R
  generalize hd : dLc _ _ _ _ _ = dn
  simp
  intro pf hpf
  obtain ⟨f1, f2⟩ := T0.fresh hpf
  subst hd
  refine nm_lc (ls := b.lands) (by omega) (fun R r => by simpa [encB, atI, ixN] using r) (by simp [wipeA]) ?_
  obtain ⟨names, en⟩ : ∃ names, names = b.lands.map (·.nm) := ⟨_, rfl⟩
  have nlen : names.length ≤ 4 := by rw [en, List.length_map]; exact bl
  rw [← en]
  subst hL
  have T1 := T0.put (o := .lst []) f1 f2
  simp
  refine draw_ask nl (by omega) (by omega) T1 fun n h1 n0 n1 T2 o2 => ?_
  dsimp only
  refine ⟨by omega, by omega, ?_⟩
  refine for_ind (fun vs ρ h => ∃ (done : Heap') (x6 x7 : Option Val), (done.length : Int) + vs.length = 1 + n ∧ ρ = [some (.scr ns), some (.ref t), some (encB b), some (.int most), some (.ref pf), some (.lst (names.map .str)), x6, x7, none] ∧ h pf = some (.lst (done.map encR)) ∧ Town t r h ∧ Ext t r [pf] h0 h ∧ (∀ x ∈ done, 1 ≤ x.1 ∧ x.1 ≤ 40) ∧ ∀ x ∈ done, ∀ z, x.2 = some z → z ∈ names) ?_ ?_ _ _ _ ⟨[], none, none, by simp; omega, by simp, by rw [o2 pf f1 f2, put_same]; rfl, T2, fun a u v w => by rw [o2 a u v, put_ne (by simpa using w)], by simp, by simp⟩
  · rintro ρ h ⟨done, x6, x7, hl, rfl, gf, T, x, w1, w2⟩
    refine ⟨trivial, ?_⟩
    subst hR
    simp at hl
    simp [gf]
    refine RT.less (dropAll_less (ps := [pf]) ?_) (q done _ ⟨by omega, by omega, w1, ?_⟩ (T.dropAll (by simpa using f1.symm) (by simpa using f2.symm)) (x.only ?_))
    · intro p hp
      rw [List.mem_singleton.mp hp, gf]; simp
    · rw [en] at w2; exact w2
    · intro p hp
      rw [List.mem_singleton.mp hp]; exact hpf
  · rintro v vs ρ h ⟨done, x6, x7, hl, rfl, gf, T, x, w1, w2⟩
    refine ⟨trivial, _, rfl, fun N hN => ?_⟩
    have cm : CMul 2 (names.length : Int) := .inl ⟨by decide, by decide⟩
    simp [dBM]
    refine ⟨by decide, draw_ask nl (by decide) (by decide) T fun n1 h1 a0 a1 T1 o1 => ?_⟩
    dsimp only
    have : ∃ m, atI [Val.int 9, Val.int 40] n1 = some (.int m) ∧ 0 < m ∧ m ≤ 40 := by
      rcases (show n1 = 0 ∨ n1 = 1 by omega) with rfl | rfl
      · exact ⟨9, rfl, by decide, by decide⟩
      · exact ⟨40, rfl, by decide, by decide⟩
    obtain ⟨m, em, m0, m40⟩ := this
    rw [em]
    dsimp only
    refine draw_ask nl m0 (by omega) T1 fun n2 h2 b0 b1 T2 o2 => ?_
    have gf2 : h2 pf = some (.lst (done.map encR)) := by rw [(o1.trans o2) pf f1 f2]; exact gf
    have s1 : names.length + names.length ≤ sizeLine := by rw [sizeLine_eq]; omega
    have s2 : names.length + names.length + 1 ≤ sizeLine := by rw [sizeLine_eq]; omega
    simp [tyA, gf2, s1, s2, cm]
    refine ⟨by decide, draw_ask nl (by omega) (by omega) T2 fun n3 h3 c0 c1 T3 o3 => ?_⟩
    obtain ⟨o, eo, ho⟩ := pick_from names c0 c1
    rw [List.append_assoc] at eo
    dsimp only
    rw [eo]
    have o13 := o1.trans (o2.trans o3)
    have gf3 : h3 pf = some (.lst (done.map encR)) := by rw [o13 pf f1 f2]; exact gf
    dsimp only
    rw [List.length_cons] at hl
    simp [fAppend, gf3]
    refine ⟨by decide, by rw [sizeLine_eq]; omega, hN _ _ ⟨done ++ [(1 + n2, o)], _, _, by rw [List.length_append, List.length_singleton]; omega, rfl, by rw [put_same]; simp [encR], T3.put f1 f2, ?_, ?_, ?_⟩⟩
    · intro a u v w
      rw [put_ne (by simpa using w), o13 a u v]; exact x a u v w
    · intro y hy
      rcases List.mem_append.mp hy with e | e
      · exact w1 y e
      · rw [List.mem_singleton.mp e]
        show 1 ≤ 1 + n2 ∧ 1 + n2 ≤ 40
        omega
    · intro y hy
      rcases List.mem_append.mp hy with e | e
      · exact w2 y e
      · rw [List.mem_singleton.mp e]; exact ho
theorem Drawn.short {b : Book} (d : Drawn b) : ∀ z ∈ b.names, z ∈ (["ash", "elm", "fir"] : List Str) := fun z hz => by
  obtain ⟨k, -, -, e⟩ := d.nm
  rw [e] at hz
  exact List.mem_of_mem_take hz
theorem ix_lands {b : Book} {h : Hv} {Q : PV} : fIx (encB b) (.int 0) h Q = Q (.tup (b.lands.map encL)) h := rfl
end DL
namespace DL
open PySem PySem.Spec PyProof.Rows L2
def okN : Nat → Val → Bool
  | _, .non => true
  | _, .bl _ => true
  | _, .int _ => true
  | _, .str z => PyData.strOk z && decide (z.length ≤ 1000)
  | d + 1, .tup vs => vs.all (okN d) && decide (vs.length ≤ 1000)
  | d + 1, .lst vs => vs.all (okN d) && decide (vs.length ≤ 1000)
  | _, _ => false
theorem okN_tup {d : Nat} {vs : List Val} : okN (d + 1) (.tup vs) = true ↔ (∀ v ∈ vs, okN d v = true) ∧ vs.length ≤ 1000 := by
  rw [okN, Bool.and_eq_true, List.all_eq_true, decide_eq_true_eq]
theorem okN_lst {d : Nat} {vs : List Val} : okN (d + 1) (.lst vs) = true ↔ (∀ v ∈ vs, okN d v = true) ∧ vs.length ≤ 1000 := by
  rw [okN, Bool.and_eq_true, List.all_eq_true, decide_eq_true_eq]
theorem okN_mono : ∀ {d : Nat} {v : Val}, okN d v = true → okN (d + 1) v = true
  | d, .non, _ => by rw [okN]
  | d, .bl _, _ => by rw [okN]
  | d, .int _, _ => by rw [okN]
  | d, .str z, h => by rw [okN] at h ⊢; exact h
  | d + 1, .tup vs, h => by
    rw [okN_tup] at h ⊢
    exact ⟨fun v hv => okN_mono (h.1 v hv), h.2⟩
  | d + 1, .lst vs, h => by
    rw [okN_lst] at h ⊢
    exact ⟨fun v hv => okN_mono (h.1 v hv), h.2⟩
  | 0, .tup _, h => by simp [okN] at h
  | 0, .lst _, h => by simp [okN] at h
  | _, .tpo _, h => by simp [okN] at h
  | _, .scr _, h => by simp [okN] at h
  | _, .ref _, h => by simp [okN] at h
  | _, .ty _, h => by simp [okN] at h
theorem okN_le {d e : Nat} {v : Val} (h : okN d v = true) (l : d ≤ e) : okN e v = true := by
  induction l with
  | refl => exact h
  | step _ ih => exact okN_mono ih
theorem okD_ofs {vs : List Val} (h : ∀ v ∈ vs, okD v = true) : okDs vs = true := by
  induction vs with
  | nil => rfl
  | cons v vs ih => rw [okDs, h v List.mem_cons_self, ih fun w hw => h w (List.mem_cons_of_mem _ hw)]; rfl
theorem okD_of : ∀ {d : Nat} {v : Val}, okN d v = true → okD v = true
  | d, .non, _ => rfl
  | d, .bl _, _ => rfl
  | d, .int _, _ => rfl
  | d, .str z, h => by rw [okN, Bool.and_eq_true] at h; exact h.2
  | d + 1, .tup vs, h => by
    rw [okN_tup] at h
    rw [okD, okD_ofs fun v hv => okD_of (h.1 v hv), decide_eq_true h.2]; rfl
  | d + 1, .lst vs, h => by
    rw [okN_lst] at h
    rw [okD, okD_ofs fun v hv => okD_of (h.1 v hv), decide_eq_true h.2]; rfl
  | 0, .tup _, h => by simp [okN] at h
  | 0, .lst _, h => by simp [okN] at h
  | _, .tpo _, h => by simp [okN] at h
  | _, .scr _, h => by simp [okN] at h
  | _, .ref _, h => by simp [okN] at h
  | _, .ty _, h => by simp [okN] at h
theorem dats_of {d : Nat} (ih : ∀ v, okN d v = true → ∃ x, dat v = some x ∧ x.canLay0 = true ∧ x.depth ≤ d) : ∀ {vs : List Val}, (∀ v ∈ vs, okN d v = true) → ∃ xs, dats vs = some xs ∧ PyData.canLayAll0 xs = true ∧ PyData.depthAll xs ≤ d
  | [], _ => ⟨[], rfl, rfl, Nat.zero_le _⟩
  | v :: vs, h => by
    obtain ⟨x, e1, c1, d1⟩ := ih v (h v List.mem_cons_self)
    obtain ⟨xs, e2, c2, d2⟩ := dats_of ih fun w hw => h w (List.mem_cons_of_mem _ hw)
    refine ⟨x :: xs, by rw [dats, e1, e2], by rw [PyData.canLayAll0, c1, c2]; rfl, ?_⟩
    rw [PyData.depthAll]
    exact Nat.max_le.mpr ⟨d1, d2⟩
theorem dat_of : ∀ {d : Nat} {v : Val}, okN d v = true → ∃ x, dat v = some x ∧ x.canLay0 = true ∧ x.depth ≤ d
  | d, .non, _ => ⟨_, rfl, rfl, by rw [PyData.depth]; exact Nat.zero_le _⟩
  | d, .bl _, _ => ⟨_, rfl, rfl, by rw [PyData.depth]; exact Nat.zero_le _⟩
  | d, .int _, _ => ⟨_, rfl, rfl, by rw [PyData.depth]; exact Nat.zero_le _⟩
  | d, .str z, h => by
    rw [okN, Bool.and_eq_true] at h
    exact ⟨_, rfl, by rw [PyData.canLay0]; exact h.1, by rw [PyData.depth]; exact Nat.zero_le _⟩
  | d + 1, .tup vs, h => by
    rw [okN_tup] at h
    obtain ⟨xs, e, c, dd⟩ := dats_of (fun v hv => dat_of hv) h.1
    exact ⟨.tuple xs, by rw [dat, e]; rfl, by rw [PyData.canLay0]; exact c, by rw [PyData.depth]; omega⟩
  | d + 1, .lst vs, h => by
    rw [okN_lst] at h
    obtain ⟨xs, e, c, dd⟩ := dats_of (fun v hv => dat_of hv) h.1
    exact ⟨.list xs, by rw [dat, e]; rfl, by rw [PyData.canLay0]; exact c, by rw [PyData.depth]; omega⟩
  | 0, .tup _, h => by simp [okN] at h
  | 0, .lst _, h => by simp [okN] at h
  | _, .tpo _, h => by simp [okN] at h
  | _, .scr _, h => by simp [okN] at h
  | _, .ref _, h => by simp [okN] at h
  | _, .ty _, h => by simp [okN] at h
def eqD (v w : Val) : Bool := match dat v, dat w with
  | some d, some e => PyData.eqv d e
  | _, _ => false
theorem datH_of {v : Val} {h : Hv} {d : Nat} (o : okN d v = true) : datH v h = dat v := by
  cases v <;> first | rfl | (simp [okN] at o)
theorem datEq_ok {v w : Val} {h : Hv} {Q : Bool → Prop} (hv : okN 64 v = true) (hw : okN 64 w = true) (q : Q (eqD v w)) : datEq v w h Q := by
  obtain ⟨d, e1, c1, d1⟩ := dat_of hv
  obtain ⟨e, e2, c2, d2⟩ := dat_of hw
  refine ⟨d, e, by rw [datH_of hv, e1], by rw [datH_of hw, e2], ?_, ?_, ?_⟩
  · unfold SeqAt.shaped; rw [c1, decide_eq_true d1]; rfl
  · unfold SeqAt.shaped; rw [c2, decide_eq_true d2]; rfl
  · unfold eqD at q; rw [e1, e2] at q; exact q
theorem eqD_nil (vs : List Val) {d : Nat} (h : okN d (.tup vs) = true) : eqD (.tup vs) (.tup []) = vs.isEmpty := by
  obtain ⟨x, e, c, _⟩ := dat_of h
  unfold eqD
  rw [e]
  cases vs with
  | nil => rw [dat, dats] at e; cases e; rfl
  | cons v vs =>
    rw [dat] at e
    obtain ⟨xs, e1, rfl⟩ := Option.map_eq_some_iff.mp e
    rw [dats] at e1
    split at e1
    · cases e1; rfl
    · cases e1
theorem fNe_dat {v w : Val} {h : Hv} {Q : PV} (hv : okN 64 v = true) (hw : okN 64 w = true) (q : Q (.bl (!eqD v w)) h) (hs : scA v w = none := by rfl) : fNe v w h Q := by
  unfold fNe; rw [hs]; exact datEq_ok hv hw q
theorem fEq_dat {v w : Val} {h : Hv} {Q : PV} (hv : okN 64 v = true) (hw : okN 64 w = true) (q : Q (.bl (eqD v w)) h) (hs : scA v w = none := by rfl) : fEq v w h Q := by
  unfold fEq; rw [hs]; exact datEq_ok hv hw q
theorem lcL_filtT {α : Type} {ok : Hv → Prop} {t : Tg} {tt : TD} {te : ED} {ρw : Sl} {h : Hv} (f : α → Val) (pv : α → Bool) (g : α → Val) (hok : ok h) : ∀ (xs : List α) (acc : List Val) (Q : List Val → Hv → Prop), acc.length + xs.length ≤ sizeLine →
    (∀ x ∈ xs, ∃ ρ', bT t (f x) ρw = some ρ' ∧ (∀ Q', Q' (pv x) h → tt ρ' h Q' EF) ∧ (pv x = true → ∀ Q', Q' (g x) h → te ρ' h Q' EF)) →
    Q (acc ++ (xs.filter pv).map g) h → lcL ok t tt te ρw (xs.map f) acc h Q
  | [], acc, Q, hl, he, q => ⟨hok, by simpa using q⟩
  | x :: xs, acc, Q, hl, he, q => by
    obtain ⟨ρ', e1, e2, e3⟩ := he x List.mem_cons_self
    refine ⟨hok, ?_⟩
    rw [e1]
    dsimp only
    rw [List.length_cons] at hl
    refine e2 _ ?_
    cases hp : pv x with
    | true =>
      rw [if_pos rfl]
      refine e3 hp _ ⟨by omega, ?_⟩
      refine lcL_filtT f pv g hok xs (acc ++ [g x]) Q (by rw [List.length_append, List.length_singleton]; omega) (fun w hw => he w (List.mem_cons_of_mem _ hw)) ?_
      rw [List.filter_cons_of_pos hp, List.map_cons] at q
      simpa using q
    | false =>
      rw [if_neg Bool.false_ne_true]
      refine lcL_filtT f pv g hok xs acc Q (by omega) (fun w hw => he w (List.mem_cons_of_mem _ hw)) ?_
      rw [List.filter_cons_of_neg (by rw [hp]; exact Bool.false_ne_true)] at q
      exact q
theorem lc_filtT {α : Type} {di : ID} {t : Tg} {tt : TD} {te : ED} {vs : List Nat} {ρ : Sl} {h : Hv} {Q : PV} {E : PX} {ok : Hv → Prop} (xs : List α) (f : α → Val) (pv : α → Bool) (g : α → Val) (hdi : ∀ R : Itr → Hv → Prop, R ⟨xs.map f, ok⟩ h → di ρ h R E) (hok : ∀ h', Sub h h' → ok h') (hl : xs.length ≤ sizeLine)
    (he : ∀ x ∈ xs, ∃ ρ', bT t (f x) (wipeA ρ vs) = some ρ' ∧ (∀ h' Q', Sub h h' → Q' (pv x) h' → tt ρ' h' Q' EF) ∧ (pv x = true → ∀ h' Q', Sub h h' → Q' (g x) h' → te ρ' h' Q' EF))
    (q : Q (.lst ((xs.filter pv).map g)) h) : dLc di t tt te vs ρ h Q E := by
  refine hdi _ fun D nD => ?_
  have sb := Sub.put (o := .busy) nD
  refine lcL_filtT f pv g (hok _ sb) xs [] _ (by simpa using hl) (fun v hv => ?_) ?_
  · obtain ⟨ρ', e1, e2, e3⟩ := he v hv
    exact ⟨ρ', e1, fun Q' q' => e2 _ Q' sb q', fun hp Q' q' => e3 hp _ Q' sb q'⟩
  · rw [List.nil_append, drop_put nD]
    exact q
theorem lc_mapT {α : Type} {di : ID} {t : Tg} {te : ED} {vs : List Nat} {ρ : Sl} {h : Hv} {Q : PV} {E : PX} {ok : Hv → Prop} (xs : List α) (f : α → Val) (g : α → Val) (hdi : ∀ R : Itr → Hv → Prop, R ⟨xs.map f, ok⟩ h → di ρ h R E) (hok : ∀ h', Sub h h' → ok h') (hl : xs.length ≤ sizeLine)
    (he : ∀ x ∈ xs, ∃ ρ', bT t (f x) (wipeA ρ vs) = some ρ' ∧ ∀ h' Q', Sub h h' → Q' (g x) h' → te ρ' h' Q' EF)
    (q : Q (.lst (xs.map g)) h) : dLc di t tTrue te vs ρ h Q E := by
  refine lc_filtT xs f (fun _ => true) g hdi hok hl (fun v hv => ?_) (by rw [List.filter_eq_self.mpr (fun _ _ => rfl)]; exact q)
  obtain ⟨ρ', e1, e2⟩ := he v hv
  exact ⟨ρ', e1, fun h' Q' _ q' => q', fun _ => e2⟩
theorem all_lcT {α : Type} {di : ID} {t : Tg} {te : ED} {vs : List Nat} {ρ : Sl} {h : Hv} {Q : PV} {E : PX} {ok : Hv → Prop} (xs : List α) (f : α → Val) (p : α → Bool) (hdi : ∀ R : Itr → Hv → Prop, R ⟨xs.map f, ok⟩ h → di ρ h R E) (hok : ∀ h', Sub h h' → ok h') (hl : xs.length ≤ sizeLine)
    (he : ∀ x ∈ xs, ∃ ρ', bT t (f x) (wipeA ρ vs) = some ρ' ∧ ∀ h' Q', Sub h h' → Q' (.bl (p x)) h' → te ρ' h' Q' EF)
    (q : Q (.bl (xs.all p)) h) : dCB fAll (aCons (dLc di t tTrue te vs) aNil) ρ h Q E := by
  simp only [dCB, aCons, aNil]
  refine lc_mapT xs f (fun v => .bl (p v)) hdi hok hl he ?_
  show fAll [.lst (xs.map fun v => .bl (p v))] h Q
  simp only [fAll, listOf, Option.bind_some, blsOf_map]
  simpa using q
theorem sum_lcT {α : Type} {di : ID} {t : Tg} {te : ED} {vs : List Nat} {ρ : Sl} {h : Hv} {Q : PV} {E : PX} {ok : Hv → Prop} (xs : List α) (f : α → Val) (p : α → Int) (hdi : ∀ R : Itr → Hv → Prop, R ⟨xs.map f, ok⟩ h → di ρ h R E) (hok : ∀ h', Sub h h' → ok h') (hl : xs.length ≤ sizeLine)
    (he : ∀ x ∈ xs, ∃ ρ', bT t (f x) (wipeA ρ vs) = some ρ' ∧ ∀ h' Q', Sub h h' → Q' (.int (p x)) h' → te ρ' h' Q' EF)
    (q : Q (.int (xs.map p).sum) h) : dCB fSum (aCons (dLc di t tTrue te vs) aNil) ρ h Q E := by
  simp only [dCB, aCons, aNil]
  refine lc_mapT xs f (fun v => .int (p v)) hdi hok hl he ?_
  show fSum [.lst (xs.map fun v => .int (p v))] h Q
  simp only [fSum, listOf, Option.bind_some, intsOf_map]
  exact q
theorem lc_ind {di : ID} {t : Tg} {tt : TD} {te : ED} {vs : List Nat} {ρ : Sl} {h : Hv} {Q : PV} {E : PX} {items : List Val} {ok : Hv → Prop} (I : Addr → List Val → List Val → Hv → Prop) (hdi : ∀ R : Itr → Hv → Prop, R ⟨items, ok⟩ h → di ρ h R E)
    (h1 : ∀ D, h D = none → I D items [] (put h D .busy))
    (h0 : ∀ D acc h', I D [] acc h' → ok h' ∧ Q (.lst acc) (drop h' D))
    (hs : ∀ D v r acc h', I D (v :: r) acc h' → ok h' ∧ ∃ ρ', bT t v (wipeA ρ vs) = some ρ' ∧ ∀ N : List Val → Hv → Prop, (∀ acc h2, I D r acc h2 → N acc h2) → tt ρ' h' (fun k h2 => if k = true then te ρ' h2 (fun u h3 => acc.length < sizeLine ∧ N (acc ++ [u]) h3) EF else N acc h2) EF) : dLc di t tt te vs ρ h Q E := by
  refine hdi _ fun D nD => ?_
  have go : ∀ (r acc : List Val) (h' : Hv), I D r acc h' → lcL ok t tt te (wipeA ρ vs) r acc h' (fun acc h2 => Q (.lst acc) (drop h2 D)) := by
    intro r
    induction r with
    | nil => exact fun acc h' i => h0 D acc h' i
    | cons v r ih =>
      intro acc h' i
      obtain ⟨o, ρ', e, k⟩ := hs D v r acc h' i
      refine ⟨o, ?_⟩
      rw [e]
      exact k _ fun acc h2 z => ih acc h2 z
  exact go items [] _ (h1 D nD)
end DL
namespace DL
open PySem PySem.Spec PyProof.Rows L2
inductive Tree where
  | leaf (n : Int)
  | node (z : Str) (ts : List Tree)
mutual
def Tree.enc : Tree → Val
  | .leaf n => .int n
  | .node z ts => .tup [.str z, .tup (encTs ts)]
def encTs : List Tree → List Val
  | [] => []
  | t :: ts => t.enc :: encTs ts
end
mutual
def Tree.things : Tree → List Int
  | .leaf n => [n]
  | .node _ ts => thingsTs ts
def thingsTs : List Tree → List Int
  | [] => []
  | t :: ts => t.things ++ thingsTs ts
end
mutual
def Tree.lands : Tree → List Str
  | .leaf _ => []
  | .node z ts => z :: landsTs ts
def landsTs : List Tree → List Str
  | [] => []
  | t :: ts => t.lands ++ landsTs ts
end
mutual
def Tree.ht : Tree → Nat
  | .leaf _ => 0
  | .node _ ts => htTs ts + 1
def htTs : List Tree → Nat
  | [] => 0
  | t :: ts => max t.ht (htTs ts)
end
mutual
def Tree.okT (names : List Str) : Tree → Prop
  | .leaf _ => True
  | .node z ts => z ∈ names ∧ ts ≠ [] ∧ okTs names ts
def okTs (names : List Str) : List Tree → Prop
  | [] => True
  | t :: ts => t.okT names ∧ okTs names ts
end
theorem encTs_map (ts : List Tree) : encTs ts = ts.map Tree.enc := by
  induction ts with
  | nil => rfl
  | cons t ts ih => rw [encTs, ih]; rfl
theorem thingsTs_map (ts : List Tree) : thingsTs ts = ts.flatMap Tree.things := by
  induction ts with
  | nil => rfl
  | cons t ts ih => rw [thingsTs, ih]; rfl
theorem landsTs_map (ts : List Tree) : landsTs ts = ts.flatMap Tree.lands := by
  induction ts with
  | nil => rfl
  | cons t ts ih => rw [landsTs, ih]; rfl
theorem okTs_iff (names : List Str) (ts : List Tree) : okTs names ts ↔ ∀ t ∈ ts, t.okT names := by
  induction ts with
  | nil => simp [okTs]
  | cons t ts ih => simp [okTs, ih]
theorem htTs_mem : ∀ {ts : List Tree} {t : Tree}, t ∈ ts → t.ht ≤ htTs ts
  | u :: ts, t, h => by
    rw [htTs]
    rcases List.mem_cons.mp h with e | e
    · rw [e]; exact Nat.le_max_left _ _
    · exact Nat.le_trans (htTs_mem e) (Nat.le_max_right _ _)
theorem htTs_le : ∀ {ts : List Tree} {k : Nat}, (∀ t ∈ ts, t.ht ≤ k) → htTs ts ≤ k
  | [], k, _ => Nat.zero_le _
  | u :: ts, k, h => by
    rw [htTs]
    exact Nat.max_le.mpr ⟨h u List.mem_cons_self, htTs_le fun t ht => h t (List.mem_cons_of_mem _ ht)⟩
def allO : List (Option Bool) → Option Bool
  | [] => some true
  | x :: r => match x, allO r with
    | some b, some c => some (b && c)
    | _, _ => none
def isSh (b : Book) (many : Int) : Nat → Val → Option Bool
  | 0, _ => none
  | d + 1, v => match v with
    | .tup [.str z, .tup ps] => if z ∈ b.names ∧ ps ≠ [] then allO (ps.map (isSh b many d)) else some false
    | .tup _ => some false
    | v => some (isNum v 0 (many - 1))
def rowA (b : Book) (z : Str) : Option Land := (b.lands.filter fun l => decide (l.nm = z)).head?
def S_row_of : SpF := fun as h Q _ => ∃ (b : Book) (z : Str) (l : Land), as = [encB b, .str z] ∧ b.lands.length ≤ 4 ∧ rowA b z = some l ∧ Q (encL l) h
def S__law_row : SpF := S_row_of
def SR_is_shape (d : Nat) : SpF := fun as h Q _ => ∃ (b : Book) (many : Int) (v : Val) (r : Bool), as = [encB b, .int many, v] ∧ b.lands.length ≤ 4 ∧ okN 60 v = true ∧ isSh b many d v = some r ∧ Q (.bl r) h
def S_is_shape : SpF := SR_is_shape 24
def SR_all_things (d : Nat) : SpF := fun as h Q _ => ∃ t : Tree, as = [t.enc] ∧ t.ht < d ∧ t.things.length ≤ 1000 ∧ okN 60 t.enc = true ∧ Q (.lst (t.things.map .int)) h
def S_all_things : SpF := SR_all_things 24
def S_is_tree : SpF := fun as h Q _ => ∃ (b : Book) (hs : List Val) (v : Val), as = [encB b, .tup hs, v] ∧ b.lands.length ≤ 4 ∧ okN 60 v = true ∧
  ((isSh b hs.length 24 v = some false ∧ Q (.bl false) h) ∨ ∃ t : Tree, v = t.enc ∧ t.ht < 24 ∧ isSh b hs.length 24 v = some true ∧ t.things.length ≤ 1000 ∧ Q (.bl (decide t.things.Nodup)) h)
def S_things_in : SpF := fun as h Q _ => ∃ t : Tree, as = [t.enc] ∧ t.ht < 24 ∧ t.things.length ≤ 1000 ∧ okN 60 t.enc = true ∧ Q (.tup ((sortI t.things).map .int)) h
def S__law_a_tree : SpF := fun as h Q _ => ∃ (ns : List Int) (t r : Addr) (b : Book) (ths : List Int), as = [.scr ns, .ref t, encB b, .lst (ths.map .int)] ∧ ns.length ≤ 63 ∧ 1 ≤ b.lands.length ∧ b.lands.length ≤ 4 ∧ (∀ z ∈ b.names, okN 0 (.str z) = true) ∧ 1 ≤ ths.length ∧ ths.length ≤ 8 ∧ Town t r h ∧
  ∀ (tr : Tree) (h' : Hv), tr.okT b.names → tr.things.Perm ths → tr.ht ≤ 12 → tr.lands.length ≤ 12 → okN 24 tr.enc = true → Town t r h' → Only t r h h' → Q tr.enc h'
theorem no_is_shape : ∀ as h Q E, SR_is_shape 0 as h Q E → False := fun _ _ _ _ ⟨_, _, _, _, _, _, _, z, _⟩ => by cases z
theorem no_all_things : ∀ as h Q E, SR_all_things 0 as h Q E → False := fun _ _ _ _ ⟨_, _, z, _⟩ => Nat.not_lt_zero _ z
end DL
namespace DL
open PySem PySem.Spec PyProof.Rows L2
def den_row_of : SD := (sRet (dBin fIx (dLc (dIt (dBin fIx (dVar 0) (dC (.int 0)))) (.nm 2) (dTest (dBin fEq (dBin fIx (dVar 2) (dC (.int 0))) (dVar 1))) (dVar 2) [2]) (dC (.int 0))))
def den_is_shape (R : SpF) : SD := (sSeq (sIf (dNot (dTruth (dCB fIsi (aCons (dVar 2) (aCons (dC (.ty "tuple")) aNil))))) (sRet (dCall 3 S_is_number (aCons (dVar 2) (aCons (dC (.int 0)) (aCons (dBin fSub (dVar 1) (dC (.int 1))) aNil))))) sNext) (sSeq (sIf (dOr (dTest (dBin fNe (dCB fLen (aCons (dVar 2) aNil)) (dC (.int 2)))) (dOr (dNot (dTruth (dCB fIsi (aCons (dBin fIx (dVar 2) (dC (.int 0))) (aCons (dC (.ty "str")) aNil))))) (dTest (dBin fNotIn (dBin fIx (dVar 2) (dC (.int 0))) (dCall 1 S_names_of (aCons (dVar 0) aNil)))))) (sRet (dC (.bl false))) sNext) (sRet (vAnd (dCB fIsi (aCons (dBin fIx (dVar 2) (dC (.int 1))) (aCons (dC (.ty "tuple")) aNil))) (vAnd (dBin fNe (dBin fIx (dVar 2) (dC (.int 1))) (dTup aNil)) (dCB fAll (aCons (dLc (dIt (dBin fIx (dVar 2) (dC (.int 1)))) (.nm 3) tTrue (dCall 3 R (aCons (dVar 0) (aCons (dVar 1) (aCons (dVar 3) aNil)))) [3]) aNil)))))))
def den_all_things (R : SpF) : SD := (sSeq (sIf (dNot (dTruth (dCB fIsi (aCons (dVar 0) (aCons (dC (.ty "tuple")) aNil))))) (sRet (dLst (aCons (dVar 0) aNil))) sNext) (sSeq (sSet 1 (dLstH aNil)) (sSeq (sFor (dIt (dBin fIx (dVar 0) (dC (.int 1)))) (.nm 2) (sExpr (dBM "list" fExtend (dVar 1) (aCons (dCall 1 R (aCons (dVar 2) aNil)) aNil)))) (sRet (dVar 1)))))
def den_is_tree : SD := (sSeq (sIf (dNot (dTruth (dCall 3 S_is_shape (aCons (dVar 0) (aCons (dCB fLen (aCons (dVar 1) aNil)) (aCons (dVar 2) aNil)))))) (sRet (dC (.bl false))) sNext) (sSeq (sSet 3 (dCall 1 S_all_things (aCons (dVar 2) aNil))) (sRet (dBin fEq (dLenSet (dVar 3)) (dCB fLen (aCons (dVar 3) aNil))))))
def den_things_in : SD := (sRet (dCB fTuple (aCons (dCB fSorted (aCons (dCall 1 S_all_things (aCons (dVar 0) aNil)) aNil)) aNil)))
def den__law_row : SD := (sRet (dBin fIx (dLc (dIt (dBin fIx (dVar 0) (dC (.int 0)))) (.nm 2) (dTest (dBin fEq (dBin fIx (dVar 2) (dC (.int 0))) (dVar 1))) (dVar 2) [2]) (dC (.int 0))))
def den__law_a_tree : SD := (sSeq (sAsg (.tp [(.nm 4), (.nm 5)]) (dTup (aCons (dCB fListH (aCons (dVar 3) aNil)) (aCons (dC (.int 0)) aNil)))) (sSeq (sWhile (dOr (dTest (dBin fGt (dCB fLen (aCons (dVar 4) aNil)) (dC (.int 1)))) (dAnd (dTest (dBin fEq (dVar 5) (dC (.int 0)))) (dTest (dBin fEq (dCall 3 S__law_draw (aCons (dVar 0) (aCons (dVar 1) (aCons (dC (.int 3)) aNil)))) (dC (.int 0)))))) (sSeq (sSet 6 (dCB fMin2 (aCons (dCB fLen (aCons (dVar 4) aNil)) (aCons (dBin fAdd (dIfE (dTest (dBin fLtI (dVar 5) (dC (.int 4)))) (dC (.int 1)) (dC (.int 2))) (dCall 3 S__law_draw (aCons (dVar 0) (aCons (dVar 1) (aCons (dC (.int 3)) aNil))))) aNil)))) (sSeq (sSet 7 (dLc (dRange1 (aCons (dVar 6) aNil)) (.nm 8) tTrue (dBM "list" fPopAt (dVar 4) (aCons (dCall 3 S__law_draw (aCons (dVar 0) (aCons (dVar 1) (aCons (dCB fLen (aCons (dVar 4) aNil)) aNil)))) aNil)) [8])) (sSeq (sExpr (dBM "list" fAppend (dVar 4) (aCons (dTup (aCons (dBin fIx (dBin fIx (dBin fIx (dVar 2) (dC (.int 0))) (dCall 3 S__law_draw (aCons (dVar 0) (aCons (dVar 1) (aCons (dCB fLen (aCons (dBin fIx (dVar 2) (dC (.int 0))) aNil)) aNil))))) (dC (.int 0))) (aCons (dCB fTuple (aCons (dVar 7) aNil)) aNil))) aNil))) (sSet 5 (dBin fAdd (dVar 5) (dC (.int 1)))))))) (sRet (dBin fIx (dVar 4) (dC (.int 0))))))
end DL
namespace DL
open PySem PySem.Spec PyProof.Rows L2
theorem row_lc {h : Hv} {Q : PV} {E : PX} {b : Book} {z : Str} {l : Land} (bl : b.lands.length ≤ 4) (hl : rowA b z = some l) (q : Q (encL l) h) :
    dBin fIx (dLc (dIt (dBin fIx (dVar 0) (dC (.int 0)))) (.nm 2) (dTest (dBin fEq (dBin fIx (dVar 2) (dC (.int 0))) (dVar 1))) (dVar 2) [2]) (dC (.int 0)) [some (encB b), some (.str z), none] h Q E := by
  show dLc _ _ _ _ _ _ _ _ _
  refine lc_filt (items := b.lands.map encL) (ok := fun _ => True) (fun v => decide (nmOf v = z)) (fun v => v) (fun R r => by simp only [sSet, sFor, sIf, sRet, sExpr, sPar, sAsg, sSeq, sNext, sAug, dIt, dTup, dLst, dLstH, dCB, dCall, dCallK, dBin, dUn, dTest, dChain, dIfE, aCons, aNil, dVar, dC, dTruth, dNot, dAnd, dOr, vAnd, vOr, vNot, dBM, dSl, dRev, oSome, oNone]; simpa [↓ix_lands] using r) (fun _ _ => trivial) (by rw [List.length_map]; exact sl1000 (by omega)) (fun v hv => ?_) ?_
  · obtain ⟨l, -, rfl⟩ := List.mem_map.mp hv
    refine ⟨_, rfl, fun h' Q' _ q' => ?_, fun _ h' Q' _ q' => by simpa using q'⟩
    simp only [sSet, sFor, sIf, sRet, sExpr, sPar, sAsg, sSeq, sNext, sAug, dIt, dTup, dLst, dLstH, dCB, dCall, dCallK, dBin, dUn, dTest, dChain, dIfE, aCons, aNil, dVar, dC, dTruth, dNot, dAnd, dOr, vAnd, vOr, vNot, dBM, dSl, dRev, oSome, oNone]
    simp [encL, atI, ixN]
    simp only [encL, nmOf] at q'
    by_cases e : l.nm = z
    · simpa [e] using q'
    · have : (l.nm == z) = false := by simpa using e
      simpa [e, this] using q'
  · have e : ((b.lands.map encL).filter fun v => decide (nmOf v = z)).map (fun v => v) = (b.lands.filter fun l => decide (l.nm = z)).map encL := by
      rw [List.map_id', List.filter_map]; rfl
    rw [e]
    unfold rowA at hl
    cases hf : b.lands.filter fun l => decide (l.nm = z) with
    | nil => rw [hf] at hl; cases hl
    | cons x r =>
      rw [hf] at hl
      cases hl
      simp only [sSet, sFor, sIf, sRet, sExpr, sPar, sAsg, sSeq, sNext, sAug, dIt, dTup, dLst, dLstH, dCB, dCall, dCallK, dBin, dUn, dTest, dChain, dIfE, aCons, aNil, dVar, dC, dTruth, dNot, dAnd, dOr, vAnd, vOr, vNot, dBM, dSl, dRev, oSome, oNone]
      simp [atI_zero]
      exact q
theorem bo_row_of (N : List Str) (hN : N.length = 3) : ∀ as h Q E, as.length = 2 → S_row_of as h Q E → den_row_of (startA N as) h (endsR Q) (RX E) := by
  rintro as h Q E - ⟨b, z, l, rfl, bl, hl, q⟩
  unfold den_row_of
  simp only [startA, hN]
  exact row_lc bl hl (RT.same q)
theorem bo__law_row (N : List Str) (hN : N.length = 3) : ∀ as h Q E, as.length = 2 → S__law_row as h Q E → den__law_row (startA N as) h (endsR Q) (RX E) := by
  rintro as h Q E - ⟨b, z, l, rfl, bl, hl, q⟩
  unfold den__law_row
  simp only [startA, hN]
  exact row_lc bl hl (RT.same q)
theorem ask_names {b : Book} {h : Hv} {Q : PV} {E : PF} (hl : b.lands.length ≤ 4) (q : Q (.lst (b.names.map .str)) h) : S_names_of [encB b] h Q E := ⟨b, rfl, hl, q⟩
theorem allO_all {f : Val → Option Bool} : ∀ {ps : List Val} {r : Bool}, allO (ps.map f) = some r → (∀ v ∈ ps, ∃ c, f v = some c) ∧ (ps.all fun v => (f v).getD false) = r
  | [], r, e => by cases e; exact ⟨fun v hv => (by cases hv), rfl⟩
  | v :: ps, r, e => by
    rw [List.map_cons] at e
    unfold allO at e
    split at e
    · rename_i c1 c2 h1 h2
      cases e
      obtain ⟨i1, i2⟩ := allO_all h2
      refine ⟨fun w hw => ?_, by rw [List.all_cons, i2, h1]; rfl⟩
      rcases List.mem_cons.mp hw with e | e
      · rw [e]; exact ⟨c1, h1⟩
      · exact i1 w e
    · cases e
theorem bo_is_shape (N : List Str) (hN : N.length = 4) (d : Nat) : ∀ as h Q E, as.length = 3 → SR_is_shape (d + 1) as h Q E → den_is_shape (SR_is_shape d) (startA N as) h (endsR Q) (RX E) := by
  rintro as h Q E - ⟨b, many, v, r, rfl, bl, ok, sh, q⟩
  have q := RT.same q
  unfold den_is_shape
  simp only [startA, hN]
  refine seq_o fun K hK => ?_
  have okd := okD_of ok
  have num : ∀ {v : Val}, okD v = true → isSh b many (d + 1) v = some (isNum v 0 (many - 1)) → isSh b many (d + 1) v = some r → S_is_number [v, .int 0, .int (many - 1)] h (RT Q) (fun nm pl h' => RX E nm pl [some (encB b), some (.int many), some v, none] h') := fun {v} o e s => ⟨v, 0, many - 1, rfl, o, by rw [e] at s; cases s; exact q⟩
  cases v with
  | tup vs =>
    simp only [sSet, sFor, sIf, sRet, sExpr, sPar, sAsg, sSeq, sNext, sAug, dIt, dTup, dLst, dLstH, dCB, dCall, dCallK, dBin, dUn, dTest, dChain, dIfE, aCons, aNil, dVar, dC, dTruth, dNot, dAnd, dOr, vAnd, vOr, vNot, dBM, dSl, dRev, oSome, oNone]
    simp
    subst hK
    refine seq_o fun K hK => ?_
    match vs, ok, sh with
    | [], ok, sh =>
      have : r = false := by simpa [isSh] using sh.symm
      subst this
      simp only [sSet, sFor, sIf, sRet, sExpr, sPar, sAsg, sSeq, sNext, sAug, dIt, dTup, dLst, dLstH, dCB, dCall, dCallK, dBin, dUn, dTest, dChain, dIfE, aCons, aNil, dVar, dC, dTruth, dNot, dAnd, dOr, vAnd, vOr, vNot, dBM, dSl, dRev, oSome, oNone]
      simpa using q
    | [_], ok, sh =>
      have : r = false := by simpa [isSh] using sh.symm
      subst this
      simp only [sSet, sFor, sIf, sRet, sExpr, sPar, sAsg, sSeq, sNext, sAug, dIt, dTup, dLst, dLstH, dCB, dCall, dCallK, dBin, dUn, dTest, dChain, dIfE, aCons, aNil, dVar, dC, dTruth, dNot, dAnd, dOr, vAnd, vOr, vNot, dBM, dSl, dRev, oSome, oNone]
      simpa using q
    | _ :: _ :: _ :: rs, ok, sh =>
      have : r = false := by simpa [isSh] using sh.symm
      subst this
      simp only [sSet, sFor, sIf, sRet, sExpr, sPar, sAsg, sSeq, sNext, sAug, dIt, dTup, dLst, dLstH, dCB, dCall, dCallK, dBin, dUn, dTest, dChain, dIfE, aCons, aNil, dVar, dC, dTruth, dNot, dAnd, dOr, vAnd, vOr, vNot, dBM, dSl, dRev, oSome, oNone]
      have : ((rs.length : Int) + 1 + 1 + 1 == 2) = false := by rw [beq_eq_false_iff_ne]; omega
      simpa [this] using q
    | [a, c], ok, sh =>
      obtain ⟨oks, -⟩ := okN_tup.mp ok
      have oka := oks a (by simp)
      have okc := oks c (by simp)
      cases a with
      | str z =>
        simp only [sSet, sFor, sIf, sRet, sExpr, sPar, sAsg, sSeq, sNext, sAug, dIt, dTup, dLst, dLstH, dCB, dCall, dCallK, dBin, dUn, dTest, dChain, dIfE, aCons, aNil, dVar, dC, dTruth, dNot, dAnd, dOr, vAnd, vOr, vNot, dBM, dSl, dRev, oSome, oNone]
        simp [atI, ixN]
        refine ask_names bl ?_
        simp [inA_str, flat_strs]
        by_cases hz : z ∈ b.names
        · simp [hz]
          subst hK
          generalize hd : dCB fAll _ = dn
          revert dn
          refine opq fun dn hd => ?_
          simp only [sSet, sFor, sIf, sRet, sExpr, sPar, sAsg, sSeq, sNext, sAug, dIt, dTup, dLst, dLstH, dCB, dCall, dCallK, dBin, dUn, dTest, dChain, dIfE, aCons, aNil, dVar, dC, dTruth, dNot, dAnd, dOr, vAnd, vOr, vNot, dBM, dSl, dRev, oSome, oNone]
          cases c with
          | tup ps =>
            simp [atI, ixN]
            obtain ⟨okps, psl⟩ := okN_tup.mp okc
            refine datEq_ok (okN_le okc (by decide)) (by rfl) ?_
            rw [eqD_nil ps okc]
            cases ps with
            | nil =>
              have : r = false := by simpa [isSh, hz] using sh.symm
              subst this
              simpa using q
            | cons p ps =>
              simp
              have sh' : allO ((p :: ps).map (isSh b many d)) = some r := by
                rw [isSh] at sh
                simpa [hz] using sh
              obtain ⟨i1, i2⟩ := allO_all sh'
              subst hd
              refine all_lc (items := p :: ps) (ok := fun _ => True) (fun v => (isSh b many d v).getD false) (fun R r => by simp only [sSet, sFor, sIf, sRet, sExpr, sPar, sAsg, sSeq, sNext, sAug, dIt, dTup, dLst, dLstH, dCB, dCall, dCallK, dBin, dUn, dTest, dChain, dIfE, aCons, aNil, dVar, dC, dTruth, dNot, dAnd, dOr, vAnd, vOr, vNot, dBM, dSl, dRev, oSome, oNone]; simpa [atI, ixN] using r) (fun _ _ => trivial) (sl1000 psl) (fun v hv => ⟨_, rfl, fun h' Q' _ q' => ?_⟩) (Qb q i2.symm)
              obtain ⟨c, hc⟩ := i1 v hv
              simp only [sSet, sFor, sIf, sRet, sExpr, sPar, sAsg, sSeq, sNext, sAug, dIt, dTup, dLst, dLstH, dCB, dCall, dCallK, dBin, dUn, dTest, dChain, dIfE, aCons, aNil, dVar, dC, dTruth, dNot, dAnd, dOr, vAnd, vOr, vNot, dBM, dSl, dRev, oSome, oNone]
              simp
              exact ⟨b, many, v, c, rfl, bl, okN_le (okps v hv) (by decide), hc, by rw [hc] at q'; exact q'⟩
          | non =>
            have : r = false := by simpa [isSh, hz] using sh.symm
            subst this
            simpa [atI, ixN] using q
          | bl _ =>
            have : r = false := by simpa [isSh, hz] using sh.symm
            subst this
            simpa [atI, ixN] using q
          | int _ =>
            have : r = false := by simpa [isSh, hz] using sh.symm
            subst this
            simpa [atI, ixN] using q
          | str _ =>
            have : r = false := by simpa [isSh, hz] using sh.symm
            subst this
            simpa [atI, ixN] using q
          | lst _ =>
            have : r = false := by simpa [isSh, hz] using sh.symm
            subst this
            simpa [atI, ixN] using q
          | _ => simp [okN] at okc
        · have : r = false := by
            cases c with
            | tup ps => simpa [isSh, hz] using sh.symm
            | _ => simpa [isSh] using sh.symm
          subst this
          simpa [hz] using q
      | non =>
        have : r = false := by simpa [isSh] using sh.symm
        subst this
        simp only [sSet, sFor, sIf, sRet, sExpr, sPar, sAsg, sSeq, sNext, sAug, dIt, dTup, dLst, dLstH, dCB, dCall, dCallK, dBin, dUn, dTest, dChain, dIfE, aCons, aNil, dVar, dC, dTruth, dNot, dAnd, dOr, vAnd, vOr, vNot, dBM, dSl, dRev, oSome, oNone]
        simpa [atI, ixN] using q
      | bl _ =>
        have : r = false := by simpa [isSh] using sh.symm
        subst this
        simp only [sSet, sFor, sIf, sRet, sExpr, sPar, sAsg, sSeq, sNext, sAug, dIt, dTup, dLst, dLstH, dCB, dCall, dCallK, dBin, dUn, dTest, dChain, dIfE, aCons, aNil, dVar, dC, dTruth, dNot, dAnd, dOr, vAnd, vOr, vNot, dBM, dSl, dRev, oSome, oNone]
        simpa [atI, ixN] using q
      | int _ =>
        have : r = false := by simpa [isSh] using sh.symm
        subst this
        simp only [sSet, sFor, sIf, sRet, sExpr, sPar, sAsg, sSeq, sNext, sAug, dIt, dTup, dLst, dLstH, dCB, dCall, dCallK, dBin, dUn, dTest, dChain, dIfE, aCons, aNil, dVar, dC, dTruth, dNot, dAnd, dOr, vAnd, vOr, vNot, dBM, dSl, dRev, oSome, oNone]
        simpa [atI, ixN] using q
      | tup _ =>
        have : r = false := by simpa [isSh] using sh.symm
        subst this
        simp only [sSet, sFor, sIf, sRet, sExpr, sPar, sAsg, sSeq, sNext, sAug, dIt, dTup, dLst, dLstH, dCB, dCall, dCallK, dBin, dUn, dTest, dChain, dIfE, aCons, aNil, dVar, dC, dTruth, dNot, dAnd, dOr, vAnd, vOr, vNot, dBM, dSl, dRev, oSome, oNone]
        simpa [atI, ixN] using q
      | lst _ =>
        have : r = false := by simpa [isSh] using sh.symm
        subst this
        simp only [sSet, sFor, sIf, sRet, sExpr, sPar, sAsg, sSeq, sNext, sAug, dIt, dTup, dLst, dLstH, dCB, dCall, dCallK, dBin, dUn, dTest, dChain, dIfE, aCons, aNil, dVar, dC, dTruth, dNot, dAnd, dOr, vAnd, vOr, vNot, dBM, dSl, dRev, oSome, oNone]
        simpa [atI, ixN] using q
      | _ => simp [okN] at oka
  | non =>
    simp only [sSet, sFor, sIf, sRet, sExpr, sPar, sAsg, sSeq, sNext, sAug, dIt, dTup, dLst, dLstH, dCB, dCall, dCallK, dBin, dUn, dTest, dChain, dIfE, aCons, aNil, dVar, dC, dTruth, dNot, dAnd, dOr, vAnd, vOr, vNot, dBM, dSl, dRev, oSome, oNone]
    simp
    exact num okd rfl sh
  | bl _ =>
    simp only [sSet, sFor, sIf, sRet, sExpr, sPar, sAsg, sSeq, sNext, sAug, dIt, dTup, dLst, dLstH, dCB, dCall, dCallK, dBin, dUn, dTest, dChain, dIfE, aCons, aNil, dVar, dC, dTruth, dNot, dAnd, dOr, vAnd, vOr, vNot, dBM, dSl, dRev, oSome, oNone]
    simp
    exact num okd rfl sh
  | int _ =>
    simp only [sSet, sFor, sIf, sRet, sExpr, sPar, sAsg, sSeq, sNext, sAug, dIt, dTup, dLst, dLstH, dCB, dCall, dCallK, dBin, dUn, dTest, dChain, dIfE, aCons, aNil, dVar, dC, dTruth, dNot, dAnd, dOr, vAnd, vOr, vNot, dBM, dSl, dRev, oSome, oNone]
    simp
    exact num okd rfl sh
  | str _ =>
    simp only [sSet, sFor, sIf, sRet, sExpr, sPar, sAsg, sSeq, sNext, sAug, dIt, dTup, dLst, dLstH, dCB, dCall, dCallK, dBin, dUn, dTest, dChain, dIfE, aCons, aNil, dVar, dC, dTruth, dNot, dAnd, dOr, vAnd, vOr, vNot, dBM, dSl, dRev, oSome, oNone]
    simp
    exact num okd rfl sh
  | lst _ =>
    simp only [sSet, sFor, sIf, sRet, sExpr, sPar, sAsg, sSeq, sNext, sAug, dIt, dTup, dLst, dLstH, dCB, dCall, dCallK, dBin, dUn, dTest, dChain, dIfE, aCons, aNil, dVar, dC, dTruth, dNot, dAnd, dOr, vAnd, vOr, vNot, dBM, dSl, dRev, oSome, oNone]
    simp
    exact num okd rfl sh
  | _ => simp [okN] at ok
end DL
namespace DL
open PySem PySem.Spec PyProof.Rows L2
theorem enc_node (z : Str) (ts : List Tree) : (Tree.node z ts).enc = .tup [.str z, .tup (ts.map Tree.enc)] := by rw [Tree.enc, encTs_map]
theorem things_node (z : Str) (ts : List Tree) : (Tree.node z ts).things = ts.flatMap Tree.things := by rw [Tree.things, thingsTs_map]
theorem lands_node (z : Str) (ts : List Tree) : (Tree.node z ts).lands = z :: ts.flatMap Tree.lands := by rw [Tree.lands, landsTs_map]
theorem okN_node {z : Str} {ts : List Tree} (h : okN 60 (Tree.node z ts).enc = true) : ts.length ≤ 1000 ∧ ∀ t ∈ ts, okN 60 t.enc = true := by
  rw [enc_node, okN_tup] at h
  have h2 := h.1 (.tup (ts.map Tree.enc)) (by simp)
  rw [okN_tup] at h2
  refine ⟨by simpa using h2.2, fun t ht => okN_le (h2.1 _ (List.mem_map.mpr ⟨t, ht, rfl⟩)) (by decide)⟩
theorem ht_node {z : Str} {ts : List Tree} {d : Nat} (h : (Tree.node z ts).ht < d + 1) : ∀ t ∈ ts, t.ht < d := fun t ht => by
  have := htTs_mem ht
  rw [Tree.ht] at h
  omega
theorem bo_all_things (N : List Str) (hN : N.length = 3) (d : Nat) : ∀ as h Q E, as.length = 1 → SR_all_things (d + 1) as h Q E → den_all_things (SR_all_things d) (startA N as) h (endsR Q) (RX E) := by
  rintro as h0 Q E - ⟨t, rfl, hd, tl, ok, q⟩
  unfold den_all_things
  simp only [startA, hN]
  refine seq_o fun K hK => ?_
  cases t with
  | leaf n =>
    have q := RT.same q
    simp only [sSet, sFor, sIf, sRet, sExpr, sPar, sAsg, sSeq, sNext, sAug, dIt, dTup, dLst, dLstH, dCB, dCall, dCallK, dBin, dUn, dTest, dChain, dIfE, aCons, aNil, dVar, dC, dTruth, dNot, dAnd, dOr, vAnd, vOr, vNot, dBM, dSl, dRev, oSome, oNone]
    simp only [Tree.enc, Tree.things] at q ⊢
    simp
    exact ⟨by decide, by simpa using q⟩
  | node z ts =>
    obtain ⟨tsl, oks⟩ := okN_node ok
    have hts := ht_node hd
    rw [things_node] at tl q
    rw [enc_node]
    simp only [sSet, sFor, sIf, sRet, sExpr, sPar, sAsg, sSeq, sNext, sAug, dIt, dTup, dLst, dLstH, dCB, dCall, dCallK, dBin, dUn, dTest, dChain, dIfE, aCons, aNil, dVar, dC, dTruth, dNot, dAnd, dOr, vAnd, vOr, vNot, dBM, dSl, dRev, oSome, oNone]
    simp
    subst hK
    refine seq_o fun K hK => ?_
    simp only [sSet, sFor, sIf, sRet, sExpr, sPar, sAsg, sSeq, sNext, sAug, dIt, dTup, dLst, dLstH, dCB, dCall, dCallK, dBin, dUn, dTest, dChain, dIfE, aCons, aNil, dVar, dC, dTruth, dNot, dAnd, dOr, vAnd, vOr, vNot, dBM, dSl, dRev, oSome, oNone]
    simp
    intro p hp
    subst hK
    refine seq_o fun K hK => ?_
    refine for_o fun dd hdd => ?_
    simp only [sSet, sFor, sIf, sRet, sExpr, sPar, sAsg, sSeq, sNext, sAug, dIt, dTup, dLst, dLstH, dCB, dCall, dCallK, dBin, dUn, dTest, dChain, dIfE, aCons, aNil, dVar, dC, dTruth, dNot, dAnd, dOr, vAnd, vOr, vNot, dBM, dSl, dRev, oSome, oNone]
    simp [atI, ixN]
    subst hdd
    refine for_ind (fun vs ρ h => ∃ (done rest : List Tree) (x2 : Option Val), ts = done ++ rest ∧ vs = rest.map Tree.enc ∧ ρ = [some (.tup [.str z, .tup (ts.map Tree.enc)]), some (.ref p), x2] ∧ h = put h0 p (.lst ((done.flatMap Tree.things).map .int))) ?_ ?_ _ _ _ ⟨[], ts, none, rfl, rfl, rfl, rfl⟩
    · rintro ρ h ⟨done, rest, x2, e1, e2, rfl, rfl⟩
      have : rest = [] := by cases rest with
        | nil => rfl
        | cons _ _ => cases e2
      subst this
      rw [List.append_nil] at e1
      subst e1
      refine ⟨trivial, ?_⟩
      dsimp only
      subst hK
      simp only [sSet, sFor, sIf, sRet, sExpr, sPar, sAsg, sSeq, sNext, sAug, dIt, dTup, dLst, dLstH, dCB, dCall, dCallK, dBin, dUn, dTest, dChain, dIfE, aCons, aNil, dVar, dC, dTruth, dNot, dAnd, dOr, vAnd, vOr, vNot, dBM, dSl, dRev, oSome, oNone]
      simp
      exact RT.frz (Lss.put hp (by simp)) put_same hp q
    · rintro v vs ρ h ⟨done, rest, x2, e1, e2, rfl, rfl⟩
      cases rest with
      | nil => cases e2
      | cons t rest =>
        rw [List.map_cons, List.cons.injEq] at e2
        obtain ⟨rfl, rfl⟩ := e2
        have mt : t ∈ ts := by rw [e1]; simp
        refine ⟨trivial, _, rfl, fun N hN => ?_⟩
        simp only [sSet, sFor, sIf, sRet, sExpr, sPar, sAsg, sSeq, sNext, sAug, dIt, dTup, dLst, dLstH, dCB, dCall, dCallK, dBin, dUn, dTest, dChain, dIfE, aCons, aNil, dVar, dC, dTruth, dNot, dAnd, dOr, vAnd, vOr, vNot, dBM, dSl, dRev, oSome, oNone]
        simp [tyA, put_same]
        have l1 : (done.flatMap Tree.things).length + t.things.length ≤ 1000 := by
          rw [e1, List.flatMap_append, List.flatMap_cons, List.length_append, List.length_append] at tl
          omega
        refine ⟨t, rfl, hts t mt, by omega, oks t mt, ?_⟩
        have l2 : (done.flatMap Tree.things).length + t.things.length ≤ sizeLine := sl1000 l1
        rw [List.length_flatMap] at l2
        simp [fExtend, put_same, l2]
        refine hN _ _ ⟨done ++ [t], rest, some t.enc, by rw [e1]; simp, rfl, rfl, ?_⟩
        funext a
        by_cases ha : a = p
        · subst ha; rw [put_same, put_same]; simp [List.map_flatMap]
        · rw [put_ne ha, put_ne ha, put_ne ha]
theorem rowA_some {b : Book} {z : Str} (h : z ∈ b.names) : ∃ l, rowA b z = some l ∧ l ∈ b.lands ∧ l.nm = z := by
  obtain ⟨l, hl, e⟩ := List.mem_map.mp h
  unfold rowA
  cases hf : b.lands.filter fun l => decide (l.nm = z) with
  | nil =>
    have : l ∈ b.lands.filter fun l => decide (l.nm = z) := List.mem_filter.mpr ⟨hl, by simpa using e⟩
    rw [hf] at this; cases this
  | cons x r =>
    have : x ∈ b.lands.filter fun l => decide (l.nm = z) := by rw [hf]; exact List.mem_cons_self
    have := List.mem_filter.mp this
    exact ⟨x, rfl, this.1, by simpa using this.2⟩
theorem bo_things_in (N : List Str) (hN : N.length = 1) : ∀ as h Q E, as.length = 1 → S_things_in as h Q E → den_things_in (startA N as) h (endsR Q) (RX E) := by
  rintro as h0 Q E - ⟨t, rfl, hd, tl, ok, q⟩
  have q := RT.same q
  unfold den_things_in
  simp only [startA, hN]
  simp only [sSet, sFor, sIf, sRet, sExpr, sPar, sAsg, sSeq, sNext, sAug, dIt, dTup, dLst, dLstH, dCB, dCall, dCallK, dBin, dUn, dTest, dChain, dIfE, aCons, aNil, dVar, dC, dTruth, dNot, dAnd, dOr, vAnd, vOr, vNot, dBM, dSl, dRev, oSome, oNone]
  simp
  refine ⟨t, rfl, hd, tl, ok, ?_⟩
  simp [fSorted, intsOf_map']
  exact q
theorem ded_len : ∀ (ns acc : List Int), (ns.foldl step_dedup acc).length ≤ acc.length + ns.length ∧ ((ns.foldl step_dedup acc).length = acc.length + ns.length ↔ ns.Nodup ∧ ∀ x ∈ ns, x ∉ acc)
  | [], acc => by simp
  | n :: ns, acc => by
    rw [List.foldl_cons]
    by_cases hm : n ∈ acc
    · have e : step_dedup acc n = acc := by
        unfold step_dedup; rw [if_pos (List.any_eq_true.mpr ⟨n, hm, by simp⟩)]
      rw [e]
      obtain ⟨i1, i2⟩ := ded_len ns acc
      rw [List.length_cons]
      refine ⟨by omega, fun h => by omega, fun h => ?_⟩
      exact absurd hm (h.2 n List.mem_cons_self)
    · have e : step_dedup acc n = acc ++ [n] := by
        unfold step_dedup
        rw [if_neg]
        intro h
        obtain ⟨x, hx, ex⟩ := List.any_eq_true.mp h
        rw [eq_of_beq ex] at hx
        exact hm hx
      rw [e]
      obtain ⟨i1, i2⟩ := ded_len ns (acc ++ [n])
      rw [List.length_append, List.length_singleton] at i1 i2
      rw [List.length_cons]
      refine ⟨by omega, fun h => ?_, fun h => ?_⟩
      · have := i2.mp (by omega)
        refine ⟨List.nodup_cons.mpr ⟨fun hn => this.2 n hn (by simp), this.1⟩, fun x hx => ?_⟩
        rcases List.mem_cons.mp hx with ex | ex
        · rw [ex]; exact hm
        · exact fun hz => this.2 x ex (List.mem_append_left _ hz)
      · have hn := List.nodup_cons.mp h.1
        have := i2.mpr ⟨hn.2, fun x hx hz => by
          rcases List.mem_append.mp hz with ez | ez
          · exact h.2 x (List.mem_cons_of_mem _ hx) ez
          · rw [List.mem_singleton.mp ez] at hx; exact hn.1 hx⟩
        omega
theorem metI_len (ns : List Int) : (metI ns).length = ns.length ↔ ns.Nodup := by
  have e : (List.range ns.length).map (fun i => ns.getD i 0) = ns := by
    refine List.ext_getElem (by simp) fun i h1 h2 => ?_
    simp [List.getD_eq_getElem?_getD, h2]
  have := (ded_len ns []).2
  unfold metI firstMet
  rw [e]
  simpa using this
theorem bo_is_tree (N : List Str) (hN : N.length = 4) : ∀ as h Q E, as.length = 3 → S_is_tree as h Q E → den_is_tree (startA N as) h (endsR Q) (RX E) := by
  rintro as h0 Q E - ⟨b, hs, v, rfl, bl, ok, q⟩
  unfold den_is_tree
  simp only [startA, hN]
  refine seq_o fun K hK => ?_
  simp only [sSet, sFor, sIf, sRet, sExpr, sPar, sAsg, sSeq, sNext, sAug, dIt, dTup, dLst, dLstH, dCB, dCall, dCallK, dBin, dUn, dTest, dChain, dIfE, aCons, aNil, dVar, dC, dTruth, dNot, dAnd, dOr, vAnd, vOr, vNot, dBM, dSl, dRev, oSome, oNone]
  simp
  rcases q with ⟨sh, q⟩ | ⟨t, rfl, hd, sh, tl, q⟩
  · refine ⟨b, _, v, false, rfl, bl, ok, sh, ?_⟩
    simpa using RT.same q
  · refine ⟨b, _, _, true, rfl, bl, ok, sh, ?_⟩
    simp
    subst hK
    refine seq_o fun K hK => ?_
    simp only [sSet, sFor, sIf, sRet, sExpr, sPar, sAsg, sSeq, sNext, sAug, dIt, dTup, dLst, dLstH, dCB, dCall, dCallK, dBin, dUn, dTest, dChain, dIfE, aCons, aNil, dVar, dC, dTruth, dNot, dAnd, dOr, vAnd, vOr, vNot, dBM, dSl, dRev, oSome, oNone]
    simp
    refine ⟨t, rfl, hd, tl, ok, ?_⟩
    subst hK
    simp only [sSet, sFor, sIf, sRet, sExpr, sPar, sAsg, sSeq, sNext, sAug, dIt, dTup, dLst, dLstH, dCB, dCall, dCallK, dBin, dUn, dTest, dChain, dIfE, aCons, aNil, dVar, dC, dTruth, dNot, dAnd, dOr, vAnd, vOr, vNot, dBM, dSl, dRev, oSome, oNone]
    simp [dLenSet, intsOf_map']
    refine ⟨by omega, ?_⟩
    refine Qb (RT.same q) ?_
    have := metI_len t.things
    by_cases hn : t.things.Nodup
    · rw [this.mpr hn]; simp [hn]
    · have ne : ¬ (metI t.things).length = t.things.length := fun e => hn (this.mp e)
      simp [hn]
      omega
end DL
namespace DL
open PySem PySem.Spec PyProof.Rows L2
theorem perm_erase {α : Type} : ∀ {l : List α} {i : Nat} (h : i < l.length), l.Perm (l[i] :: l.eraseIdx i)
  | x :: l, 0, _ => List.Perm.refl _
  | x :: l, i + 1, h => by
    have h' : i < l.length := by simpa using h
    exact ((perm_erase h').cons x).trans (List.Perm.swap _ _ _)
theorem erase_map {α β : Type} {f : α → β} : ∀ (l : List α) (i : Nat), (l.map f).eraseIdx i = (l.eraseIdx i).map f
  | [], _ => rfl
  | x :: l, 0 => rfl
  | x :: l, i + 1 => by
    rw [List.map_cons, List.eraseIdx_cons_succ, List.eraseIdx_cons_succ, List.map_cons, erase_map l i]
theorem Town.only {t r : Addr} {h h' : Hv} (T : Town t r h) (o : ∀ a, (a = t ∨ a = r) → h' a = h a) : Town t r h' :=
  ⟨T.ne, by rw [o t (.inl rfl)]; exact T.tc, by rw [o r (.inr rfl)]; exact T.rc⟩
structure Lefts (b : Book) (ths : List Int) (turns : Nat) (left : List Tree) : Prop where
  pm : (left.flatMap Tree.things).Perm ths
  n1 : 1 ≤ left.length
  ok : ∀ tr ∈ left, tr.okT b.names ∧ tr.ht ≤ turns ∧ okN (2 * turns) tr.enc = true
  ld : (left.flatMap Tree.lands).length = turns
  tb : turns ≤ 4 ∨ turns + left.length ≤ 4 + ths.length
  ll : left.length ≤ ths.length
theorem some_pops {b : Book} {ns : List Int} {t r pl : Addr} {h : Hv} {Q : PV} {E : PX} {left : List Tree} {many : Nat} {x3 x5 x7 x8 : Option Val} (nl : ns.length ≤ 63) (l1 : pl ≠ t) (l2 : pl ≠ r) (T : Town t r h) (gl : h pl = some (.lst (left.map Tree.enc))) (lm : many ≤ left.length) (l8 : left.length ≤ 8)
    (q : ∀ (got rest : List Tree) (h' : Hv), (got ++ rest).Perm left → got.length = many → Town t r h' → h' pl = some (.lst (rest.map Tree.enc)) → (∀ a, a ≠ t → a ≠ r → a ≠ pl → h' a = h a) → Q (.lst (got.map Tree.enc)) h') :
    dLc (dRange1 (aCons (dVar 6) aNil)) (.nm 8) tTrue (dBM "list" fPopAt (dVar 4) (aCons (dCall 3 S__law_draw (aCons (dVar 0) (aCons (dVar 1) (aCons (dCB fLen (aCons (dVar 4) aNil)) aNil)))) aNil)) [8] [some (.scr ns), some (.ref t), some (encB b), x3, some (.ref pl), x5, some (.int many), x7, x8] h Q E := by
  refine lc_ind (items := (List.range many).map fun i => Val.int (0 + (i : Nat))) (ok := fun _ => True) (fun D items acc h' => ∃ got rest : List Tree, acc = got.map Tree.enc ∧ (got ++ rest).Perm left ∧ got.length + items.length = many ∧ Town t r h' ∧ h' pl = some (.lst (rest.map Tree.enc)) ∧ h D = none ∧ h' D = some .busy ∧ ∀ a, a ≠ t → a ≠ r → a ≠ pl → a ≠ D → h' a = h a) (fun R rr => ?_) (fun D hD => ?_) ?_ ?_
  · simp only [dRange1, sSet, sFor, sIf, sRet, sExpr, sPar, sAsg, sSeq, sNext, sAug, dIt, dTup, dLst, dLstH, dCB, dCall, dCallK, dBin, dUn, dTest, dChain, dIfE, aCons, aNil, dVar, dC, dTruth, dNot, dAnd, dOr, vAnd, vOr, vNot, dBM, dSl, dRev, oSome, oNone]
    simp
    exact ⟨by omega, by simpa using rr⟩
  · obtain ⟨d1, d2⟩ := T.fresh hD
    have d3 : pl ≠ D := fun e => by rw [← e, gl] at hD; cases hD
    exact ⟨[], left, rfl, List.Perm.refl _, by simp, T.put d1 d2, by rw [put_ne d3]; exact gl, hD, put_same, fun a _ _ _ ha => put_ne ha⟩
  · rintro D acc h' ⟨got, rest, rfl, pm, gl', T', g', hD, hb, fr⟩
    obtain ⟨d1, d2⟩ := T.fresh hD
    have d3 : pl ≠ D := fun e => by rw [← e, gl] at hD; cases hD
    refine ⟨trivial, q got rest _ pm (by simpa using gl') (T'.only fun a ha => ?_) (by rw [drop_ne d3]; exact g') fun a a1 a2 a3 => ?_⟩
    · refine drop_ne ?_
      rcases ha with e | e
      · rw [e]; exact d1.symm
      · rw [e]; exact d2.symm
    · by_cases ha : a = D
      · rw [ha, drop_same, hD]
      · rw [drop_ne ha]; exact fr a a1 a2 a3 ha
  · rintro D v items acc h' ⟨got, rest, rfl, pm, gl', T', g', hD, hb, fr⟩
    obtain ⟨d1, d2⟩ := T.fresh hD
    have d3 : pl ≠ D := fun e => by rw [← e, gl] at hD; cases hD
    have pl' := pm.length_eq
    rw [List.length_append] at pl'
    rw [List.length_cons] at gl'
    refine ⟨trivial, _, rfl, fun N hN => ?_⟩
    simp only [tTrue, if_true]
    simp only [sSet, sFor, sIf, sRet, sExpr, sPar, sAsg, sSeq, sNext, sAug, dIt, dTup, dLst, dLstH, dCB, dCall, dCallK, dBin, dUn, dTest, dChain, dIfE, aCons, aNil, dVar, dC, dTruth, dNot, dAnd, dOr, vAnd, vOr, vNot, dBM, dSl, dRev, oSome, oNone]
    simp [wipeA, tyA, g']
    refine draw_ask nl (by omega) (by omega) T' fun n h2 n0 n1 T2 o2 => ?_
    have g2 : h2 pl = some (.lst (rest.map Tree.enc)) := by rw [o2 pl l1 l2]; exact g'
    have hn : n.toNat < rest.length := by omega
    simp only [fPopAt, g2]
    have e1 : (rest.map Tree.enc)[n.toNat]? = some (rest[n.toNat].enc) := by simp [hn]
    rw [e1]
    refine ⟨⟨n0, by omega⟩, by rw [sizeLine_eq]; omega, hN _ _ ⟨got ++ [rest[n.toNat]], rest.eraseIdx n.toNat, by simp, ?_, by rw [List.length_append, List.length_singleton]; omega, T2.put l1 l2, ?_, hD, ?_, fun a a1 a2 a3 a4 => ?_⟩⟩
    · rw [List.append_assoc]
      exact ((perm_erase hn).symm.append_left got).trans pm
    · rw [put_same]
      congr 2
      exact erase_map _ _
    · rw [put_ne d3.symm, o2 D d1 d2]; exact hb
    · rw [put_ne a3, o2 a a1 a2]; exact fr a a1 a2 a3 a4
theorem flat_perm {α β : Type} {f : α → List β} : ∀ {l m : List α}, l.Perm m → (l.flatMap f).Perm (m.flatMap f) := fun p => by
  induction p with
  | nil => exact List.Perm.refl _
  | cons x _ ih => rw [List.flatMap_cons, List.flatMap_cons]; exact ih.append_left _
  | swap x y l =>
    rw [List.flatMap_cons, List.flatMap_cons, List.flatMap_cons, List.flatMap_cons, ← List.append_assoc, ← List.append_assoc]
    exact List.perm_append_comm.append_right _
  | trans _ _ i j => exact i.trans j
theorem Lefts.next {b : Book} {ths : List Int} {turns : Nat} {left got rest : List Tree} {z : Str} (L : Lefts b ths turns left) (pm : (got ++ rest).Perm left) (hz : z ∈ b.names) (nz : ∀ z ∈ b.names, okN 0 (.str z) = true) (g1 : 1 ≤ got.length) (g2 : 4 ≤ turns → 2 ≤ got.length) (l8 : ths.length ≤ 8) : Lefts b ths (turns + 1) (rest ++ [.node z got]) := by
  have pl := pm.length_eq
  rw [List.length_append] at pl
  have okg : ∀ tr ∈ got ++ rest, tr.okT b.names ∧ tr.ht ≤ turns ∧ okN (2 * turns) tr.enc = true := fun tr h => L.ok tr (pm.subset h)
  have ne : got ≠ [] := fun e => by rw [e] at g1; simp at g1
  refine ⟨?_, by simp, fun tr htr => ?_, ?_, ?_, ?_⟩
  · rw [List.flatMap_append, List.flatMap_cons, List.flatMap_nil, List.append_nil, things_node]
    refine List.perm_append_comm.trans ?_
    have := flat_perm (f := Tree.things) pm
    rw [List.flatMap_append] at this
    exact this.trans L.pm
  · rcases List.mem_append.mp htr with e | e
    · have := okg tr (List.mem_append_right _ e)
      exact ⟨this.1, by omega, okN_le this.2.2 (by omega)⟩
    · rw [List.mem_singleton.mp e]
      refine ⟨by rw [Tree.okT, okTs_iff]; exact ⟨hz, ne, fun t ht => (okg t (List.mem_append_left _ ht)).1⟩, ?_, ?_⟩
      · rw [Tree.ht]
        have := htTs_le (ts := got) (k := turns) fun t ht => (okg t (List.mem_append_left _ ht)).2.1
        omega
      · rw [enc_node, show 2 * (turns + 1) = (2 * turns + 1) + 1 by omega, okN_tup]
        refine ⟨fun v hv => ?_, (by decide : 2 ≤ 1000)⟩
        rcases List.mem_cons.mp hv with e | e
        · rw [e]; exact okN_le (nz z hz) (Nat.zero_le _)
        · rw [List.mem_singleton.mp e, okN_tup]
          refine ⟨fun v hv => ?_, by rw [List.length_map]; have := L.ll; omega⟩
          obtain ⟨t, ht, rfl⟩ := List.mem_map.mp hv
          exact (okg t (List.mem_append_left _ ht)).2.2
  · rw [List.flatMap_append, List.flatMap_cons, List.flatMap_nil, List.append_nil, lands_node, List.length_append, List.length_cons]
    have := (flat_perm (f := Tree.lands) pm).length_eq
    rw [List.flatMap_append, List.length_append, L.ld] at this
    omega
  · have := L.tb
    have := L.ll
    rw [List.length_append, List.length_singleton]
    by_cases h4 : 4 ≤ turns
    · have := g2 h4
      right
      omega
    · left; omega
  · have := L.ll
    rw [List.length_append, List.length_singleton]
    omega
theorem bo__law_a_tree (N : List Str) (hN : N.length = 9) : ∀ as h Q E, as.length = 4 → S__law_a_tree as h Q E → den__law_a_tree (startA N as) h (endsR Q) (RX E) := by
  rintro as h0 Q E - ⟨ns, t, r, b, ths, rfl, nl, b1, b4, nz, t1, t8, T0, q⟩
  unfold den__law_a_tree
  simp only [startA, hN]
  refine seq_o fun K hK => ?_
  simp only [sSet, sFor, sIf, sRet, sExpr, sPar, sAsg, sSeq, sNext, sAug, dIt, dTup, dLst, dLstH, dCB, dCall, dCallK, dBin, dUn, dTest, dChain, dIfE, aCons, aNil, dVar, dC, dTruth, dNot, dAnd, dOr, vAnd, vOr, vNot, dBM, dSl, dRev, oSome, oNone]
  simp
  intro pl hpl
  refine ⟨by decide, ?_⟩
  obtain ⟨l1, l2⟩ := T0.fresh hpl
  subst hK
  refine seq_o fun K hK => ?_
  generalize hdd : sSeq (sSet 6 _) _ = dd
  revert dd
  refine opq fun dd hdd => ?_
  have h00 : ∀ k : Nat, okN 0 (.int (k : Int)) = true := fun _ => rfl
  -- one turn
  have turn : ∀ (left : List Tree) (turns : Nat) (x6 x7 : Option Val) (h : Hv) (N : Sl → Hv → Prop) (D : AE), Lefts b ths turns left → (turns = 0 ∨ 2 ≤ left.length) → h pl = some (.lst (left.map Tree.enc)) → Town t r h → Ext t r [pl] h0 h →
      (∀ (left' : List Tree) (x6 x7 : Option Val) (h' : Hv), Lefts b ths (turns + 1) left' → left'.length ≤ left.length → (4 ≤ turns → left'.length < left.length) → h' pl = some (.lst (left'.map Tree.enc)) → Town t r h' → Ext t r [pl] h0 h' → N [some (.scr ns), some (.ref t), some (encB b), some (.lst (ths.map .int)), some (.ref pl), some (.int ((turns + 1 : Nat) : Int)), x6, x7, none] h') →
      dd [some (.scr ns), some (.ref t), some (encB b), some (.lst (ths.map .int)), some (.ref pl), some (.int (turns : Int)), x6, x7, none] h { D with nx := N } (RX E) := by
    intro left turns x6 x7 h N D L hturn gl T x hN
    have ll := L.ll
    have ln1 := L.n1
    subst hdd
    refine seq_o fun K hK => ?_
    simp only [sSet, sFor, sIf, sRet, sExpr, sPar, sAsg, sSeq, sNext, sAug, dIt, dTup, dLst, dLstH, dCB, dCall, dCallK, dBin, dUn, dTest, dChain, dIfE, aCons, aNil, dVar, dC, dTruth, dNot, dAnd, dOr, vAnd, vOr, vNot, dBM, dSl, dRev, oSome, oNone]
    simp [gl]
    have fin : ∀ (m n : Int) (h1 : Hv), (1 ≤ m ∧ (4 ≤ turns → 2 ≤ m)) → m ≤ 2 → 0 ≤ n → Town t r h1 → Only t r h h1 → fMin2 [.int (left.length : Int), .int (m + n)] h1 (fun v h1 => K [some (.scr ns), some (.ref t), some (encB b), some (.lst (ths.map .int)), some (.ref pl), some (.int (turns : Int)), some v, x7, none] h1 { D with nx := N } (RX E)) := by
      intro m n h1 hm m2 n0 T1 o1
      obtain ⟨many, em⟩ : ∃ many : Nat, (if m + n < (left.length : Int) then m + n else (left.length : Int)) = (many : Int) := ⟨(if m + n < (left.length : Int) then m + n else (left.length : Int)).toNat, by split <;> omega⟩
      have hmany : many ≤ left.length ∧ 1 ≤ many ∧ (4 ≤ turns → 2 ≤ many) := by
        refine ⟨?_, ?_, fun h4 => ?_⟩
        · split at em <;> omega
        · split at em <;> omega
        · have := hm.2 h4
          split at em <;> omega
      simp only [fMin2]
      rw [em]
      subst hK
      refine seq_o fun K hK => ?_
      simp only [sSet]
      have gl1 : h1 pl = some (.lst (left.map Tree.enc)) := by rw [o1 pl l1 l2]; exact gl
      refine some_pops nl l1 l2 T1 gl1 hmany.1 (by omega) fun got rest h2 pm gm T2 g2 fr => ?_
      subst hK
      refine seq_o fun K hK => ?_
      simp only [sSet, sFor, sIf, sRet, sExpr, sPar, sAsg, sSeq, sNext, sAug, dIt, dTup, dLst, dLstH, dCB, dCall, dCallK, dBin, dUn, dTest, dChain, dIfE, aCons, aNil, dVar, dC, dTruth, dNot, dAnd, dOr, vAnd, vOr, vNot, dBM, dSl, dRev, oSome, oNone]
      simp [tyA, g2, ↓ix_lands]
      refine draw_ask nl (by omega) (by omega) T2 fun nn h3 m0 m1 T3 o3 => ?_
      have g3 : h3 pl = some (.lst (rest.map Tree.enc)) := by rw [o3 pl l1 l2]; exact g2
      obtain ⟨hk, ek⟩ := atI_int (xs := b.lands.map encL) m0 (by rw [List.length_map]; exact m1)
      have hk' : nn.toNat < b.lands.length := by simpa using hk
      rw [List.getElem_map] at ek
      simp only [ek]
      have pl' := pm.length_eq
      rw [List.length_append] at pl'
      simp [encL, atI_zero, fAppend, g3]
      refine ⟨by decide, by rw [sizeLine_eq]; omega, ?_⟩
      subst hK
      simp only [sSet, sFor, sIf, sRet, sExpr, sPar, sAsg, sSeq, sNext, sAug, dIt, dTup, dLst, dLstH, dCB, dCall, dCallK, dBin, dUn, dTest, dChain, dIfE, aCons, aNil, dVar, dC, dTruth, dNot, dAnd, dOr, vAnd, vOr, vNot, dBM, dSl, dRev, oSome, oNone]
      simp
      have zn : (b.lands[nn.toNat]).nm ∈ b.names := List.mem_map.mpr ⟨_, List.getElem_mem hk', rfl⟩
      refine hN (rest ++ [.node (b.lands[nn.toNat]).nm got]) _ _ _ (L.next pm zn nz (by omega) (fun h4 => by have := hmany.2.2 h4; omega) t8) (by rw [List.length_append, List.length_singleton]; omega) (fun h4 => by have := hmany.2.2 h4; rw [List.length_append, List.length_singleton]; omega) ?_ (T3.put l1 l2) fun a a1 a2 a3 => ?_
      · rw [put_same, List.map_append, List.map_cons, List.map_nil, enc_node]
      · have a3' : a ≠ pl := by simpa using a3
        rw [put_ne a3', o3 a a1 a2, fr a a1 a2 a3', o1 a a1 a2]
        exact x a a1 a2 a3
    by_cases h4 : turns < 4
    · have h4' : (turns : Int) < 4 := by omega
      simp [h4']
      refine draw_ask nl (by decide) (by decide) T fun n h1 n0 n1 T1 o1 => ?_
      exact fin 1 n h1 ⟨by decide, fun h => by omega⟩ (by decide) n0 T1 o1
    · have h4' : ¬ (turns : Int) < 4 := by omega
      simp [h4']
      refine draw_ask nl (by decide) (by decide) T fun n h1 n0 n1 T1 o1 => ?_
      exact fin 2 n h1 ⟨by decide, fun h => by decide⟩ (by decide) n0 T1 o1
  have h1t : h0 pl = none := hpl
  refine while_of (fun m ρ h => ∃ (left : List Tree) (turns : Nat) (x6 x7 : Option Val), m = (4 - turns) + left.length ∧ ρ = [some (.scr ns), some (.ref t), some (encB b), some (.lst (ths.map .int)), some (.ref pl), some (.int (turns : Int)), x6, x7, none] ∧ Lefts b ths turns left ∧ h pl = some (.lst (left.map Tree.enc)) ∧ Town t r h ∧ Ext t r [pl] h0 h) (n := (4 - 0) + ths.length)
    ⟨ths.map Tree.leaf, 0, none, none, by simp, rfl, ⟨?_, by simpa using t1, ?_, ?_, .inl (by decide), by simp⟩, ?_, T0.put l1 l2, fun a a1 a2 a3 => put_ne (by simpa using a3)⟩ ?_
  · rw [List.flatMap_map]
    have : ∀ l : List Int, l.flatMap (fun n => (Tree.leaf n).things) = l := fun l => by
      induction l with
      | nil => rfl
      | cons n l ih => rw [List.flatMap_cons, ih]; rfl
    rw [this]
  · intro tr htr
    obtain ⟨n, -, rfl⟩ := List.mem_map.mp htr
    exact ⟨trivial, Nat.le_refl _, rfl⟩
  · rw [List.flatMap_map]
    have : ∀ l : List Int, l.flatMap (fun n => (Tree.leaf n).lands) = [] := fun l => by
      induction l with
      | nil => rfl
      | cons n l ih => rw [List.flatMap_cons, ih]; rfl
    rw [this]; rfl
  · rw [put_same, List.map_map]; rfl
  · rintro m ρ h ⟨left, turns, x6, x7, rfl, rfl, L, gl, T, x⟩ N hN
    have ln1 := L.n1
    have go : (turns = 0 ∨ 2 ≤ left.length) → ∀ h1, h1 pl = some (.lst (left.map Tree.enc)) → Town t r h1 → Ext t r [pl] h0 h1 → dd [some (.scr ns), some (.ref t), some (encB b), some (.lst (ths.map .int)), some (.ref pl), some (.int (turns : Int)), x6, x7, none] h1 { nx := N, rt := RT Q, bk := fun ρ h => K ρ h (endsR Q) (RX E), ct := N } (RX E) := fun hc h1 g1 T1 x1 =>
      turn left turns x6 x7 h1 N { nx := N, rt := RT Q, bk := fun ρ h => K ρ h (endsR Q) (RX E), ct := N } L hc g1 T1 x1 fun left' x6' x7' h' L' le lt g' T' x' => hN _ _ _ (by
        by_cases h4 : 4 ≤ turns
        · have := lt h4; omega
        · omega) ⟨left', turns + 1, x6', x7', rfl, rfl, L', g', T', x'⟩
    have out : left.length = 1 → ∀ h1, h1 pl = some (.lst (left.map Tree.enc)) → Town t r h1 → Ext t r [pl] h0 h1 → K [some (.scr ns), some (.ref t), some (encB b), some (.lst (ths.map .int)), some (.ref pl), some (.int (turns : Int)), x6, x7, none] h1 (endsR Q) (RX E) := by
      intro hl1 h1 g1 T1 x1
      match left, L, hl1, g1 with
      | [tr], L, _, g1 =>
        subst hK
        simp only [sSet, sFor, sIf, sRet, sExpr, sPar, sAsg, sSeq, sNext, sAug, dIt, dTup, dLst, dLstH, dCB, dCall, dCallK, dBin, dUn, dTest, dChain, dIfE, aCons, aNil, dVar, dC, dTruth, dNot, dAnd, dOr, vAnd, vOr, vNot, dBM, dSl, dRev, oSome, oNone]
        simp [g1, atI_zero]
        have ok := L.ok tr (by simp)
        have tb := L.tb
        have ld := L.ld
        have pm := L.pm
        simp at tb ld pm
        refine RT.less (dropAll_less (ps := [pl]) fun p hp => by rw [List.mem_singleton.mp hp, g1]; simp) (q tr _ ok.1 pm (by omega) (by omega) (okN_le ok.2.2 (by omega)) (T1.dropAll (by simpa using l1.symm) (by simpa using l2.symm)) (x1.only fun p hp => by rw [List.mem_singleton.mp hp]; exact hpl))
    simp only [sSet, sFor, sIf, sRet, sExpr, sPar, sAsg, sSeq, sNext, sAug, dIt, dTup, dLst, dLstH, dCB, dCall, dCallK, dBin, dUn, dTest, dChain, dIfE, aCons, aNil, dVar, dC, dTruth, dNot, dAnd, dOr, vAnd, vOr, vNot, dBM, dSl, dRev, oSome, oNone]
    simp [gl]
    by_cases h2 : 2 ≤ left.length
    · have h2' : (1 : Int) < left.length := by omega
      simp [h2']
      exact go (.inr h2) h gl T x
    · have h2' : ¬ (1 : Int) < left.length := by omega
      have hl1 : left.length = 1 := by omega
      simp [h2']
      by_cases h0' : turns = 0
      · subst h0'
        simp
        refine draw_ask nl (by decide) (by decide) T fun n h1 n0 n1 T1 o1 => ?_
        have g1 : h1 pl = some (.lst (left.map Tree.enc)) := by rw [o1 pl l1 l2]; exact gl
        have x1 : Ext t r [pl] h0 h1 := fun a a1 a2 a3 => (o1 a a1 a2).trans (x a a1 a2 a3)
        by_cases hn : n = 0
        · subst hn
          simp
          exact go (.inl rfl) h1 g1 T1 x1
        · have hn' : (n == 0) = false := by simpa using hn
          simp [hn, hn']
          exact out hl1 h1 g1 T1 x1
      · have h0'' : ((turns : Int) == 0) = false := by simpa using h0'
        simp [h0', h0'']
        exact out hl1 h gl T x
end DL
namespace DL
open PySem PySem.Spec PyProof.Rows L2
def takesL (b : Book) (z : Str) : List Str := sortZ (z :: (b.pacts.filter fun p => decide (p.1 = z)).map (·.2))
def enough (b : Book) (z : Str) (c w : Int) : Bool := match rowA b z with
  | some l => decide (w * l.p ≤ c * l.q)
  | none => false
def rawW (hp : Heap') (n : Int) : Int := ((hp[n.toNat]?).map (·.1)).getD 0
def rawL (hp : Heap') (n : Int) : Option Str := (hp[n.toNat]?).bind (·.2)
mutual
def Tree.whole (hp : Heap') : Tree → Int
  | .leaf n => rawW hp n
  | .node _ ts => wholeTs hp ts
def wholeTs (hp : Heap') : List Tree → Int
  | [] => 0
  | t :: ts => t.whole hp + wholeTs hp ts
end
mutual
def Tree.land (b : Book) (hp : Heap') : Tree → Option Str
  | .leaf n => rawL hp n
  | .node z ts => if enough b z (cntTs b hp z ts) (wholeTs hp ts) = true then some z else none
def cntTs (b : Book) (hp : Heap') (z : Str) : List Tree → Int
  | [] => 0
  | t :: ts => (match t.land b hp with
    | some l => if l ∈ takesL b z then t.whole hp else 0
    | none => 0) + cntTs b hp z ts
end
def Tree.cnt (b : Book) (hp : Heap') : Tree → Int
  | .leaf n => rawW hp n
  | .node z ts => cntTs b hp z ts
abbrev Row := List Int × Option Str
def encRow (r : Row) : Val := .tup [.tup (r.1.map .int), encO r.2]
mutual
def Tree.rows (b : Book) (hp : Heap') (path : List Int) : Tree → List Row
  | .leaf n => [(path, rawL hp n)]
  | .node z ts => (path, (Tree.node z ts).land b hp) :: rowsTs b hp path 0 ts
def rowsTs (b : Book) (hp : Heap') (path : List Int) (i : Nat) : List Tree → List Row
  | [] => []
  | t :: ts => t.rows b hp (path ++ [(i : Int)]) ++ rowsTs b hp path (i + 1) ts
end
mutual
def Tree.size : Tree → Nat
  | .leaf _ => 1
  | .node _ ts => sizeTs ts + 1
def sizeTs : List Tree → Nat
  | [] => 0
  | t :: ts => t.size + sizeTs ts
end
def Tree.at (t : Tree) : List Int → Option Tree
  | [] => some t
  | i :: p => match t with
    | .leaf _ => none
    | .node _ ts => if 0 ≤ i then (match ts[i.toNat]? with
      | some u => u.at p
      | none => none) else none
def Tree.put (t : Tree) (f : Tree) : List Int → Tree
  | [] => f
  | i :: p => match t with
    | .leaf n => .leaf n
    | .node z ts => match ts[i.toNat]? with
      | some u => .node z (ts.set i.toNat (u.put f p))
      | none => .node z ts
structure HpOk (b : Book) (hp : Heap') : Prop where
  n8 : hp.length ≤ 8
  fr : ∀ x ∈ hp, ∀ z, x.2 = some z → z ∈ b.names
structure TrOk (b : Book) (hp : Heap') (t : Tree) : Prop where
  ok : t.okT b.names
  rg : ∀ n ∈ t.things, 0 ≤ n ∧ n < (hp.length : Int)
def S_takes : SpF := fun as h Q _ => ∃ (b : Book) (z : Str), as = [encB b, .str z] ∧ b.pacts.length ≤ 16 ∧ Q (.tup ((takesL b z).map .str)) h
def S__law_takes : SpF := fun as h Q _ => ∃ (b : Book) (z : Str), as = [encB b, .str z] ∧ b.pacts.length ≤ 16 ∧ Q (.lst ((takesL b z).map .str)) h
def S_is_enough : SpF := fun as h Q _ => ∃ (b : Book) (z : Str) (c w : Int), as = [encB b, .str z, .int c, .int w] ∧ WFB b ∧ z ∈ b.names ∧ Q (.bl (enough b z c w)) h
def S__law_has_share : SpF := S_is_enough
def SR_valued (d : Nat) : SpF := fun as h Q _ => ∃ (b : Book) (hp : Heap') (t : Tree) (path : List Int) (p : Addr) (rows0 : List Val), as = [encB b, encH hp, t.enc, .tup (path.map .int), .ref p] ∧ WFB b ∧ TrOk b hp t ∧ t.ht < d ∧ path.length + t.ht ≤ 100 ∧ h p = some (.lst rows0) ∧ rows0.length + t.size ≤ 1000 ∧
  Q (.tup [.int (t.whole hp), .int (t.cnt b hp), encO (t.land b hp)]) (put h p (.lst (rows0 ++ (t.rows b hp path).map encRow)))
def S_valued : SpF := SR_valued 24
def S_counts_as : SpF := fun as h Q _ => ∃ (b : Book) (hp : Heap') (t : Tree), as = [encB b, encH hp, t.enc] ∧ WFB b ∧ TrOk b hp t ∧ t.ht < 24 ∧ t.size ≤ 900 ∧ Q (encO (t.land b hp)) h
theorem no_valued : ∀ as h Q E, SR_valued 0 as h Q E → False := fun _ _ _ _ ⟨_, _, _, _, _, _, _, _, _, z, _⟩ => Nat.not_lt_zero _ z
end DL
namespace DL
open PySem PySem.Spec PyProof.Rows L2
def den_takes : SD := (sRet (dCB fTuple (aCons (dCB fSorted (aCons (dBin fAdd (dLst (aCons (dVar 1) aNil)) (dLc (dIt (dBin fIx (dVar 0) (dC (.int 1)))) (.tp [(.nm 2), (.nm 3)]) (dTest (dBin fEq (dVar 2) (dVar 1))) (dVar 3) [2, 3])) aNil)) aNil)))
def den_is_enough : SD := (sSeq (sAsg (.tp [(.nm 4), (.nm 5), (.nm 6), (.nm 7)]) (dCall 2 S_row_of (aCons (dVar 0) (aCons (dVar 1) aNil)))) (sRet (dBin fGe (dBin fMulA (dVar 2) (dVar 6)) (dBin fMulA (dVar 3) (dVar 5)))))
def den_valued (R : SpF) : SD := (sSeq (sIf (dNot (dTruth (dCB fIsi (aCons (dVar 2) (aCons (dC (.ty "tuple")) aNil))))) (sSeq (sAsg (.tp [(.nm 5), (.nm 6)]) (dBin fIx (dVar 1) (dVar 2))) (sSeq (sExpr (dBM "list" fAppend (dVar 4) (aCons (dTup (aCons (dVar 3) (aCons (dVar 6) aNil))) aNil))) (sRet (dTup (aCons (dVar 5) (aCons (dVar 5) (aCons (dVar 6) aNil))))))) sNext) (sSeq (sPar [7, 8, 9] (aCons (dCB fLen (aCons (dVar 4) aNil)) (aCons (dC (.int 0)) (aCons (dC (.int 0)) aNil)))) (sSeq (sExpr (dBM "list" fAppend (dVar 4) (aCons (dTup (aCons (dVar 3) (aCons (dC .non) aNil))) aNil))) (sSeq (sFor (dEnum (aCons (dBin fIx (dVar 2) (dC (.int 1))) aNil)) (.tp [(.nm 10), (.nm 11)]) (sSeq (sAsg (.tp [(.nm 5), (.nm 12), (.nm 6)]) (dCall 5 R (aCons (dVar 0) (aCons (dVar 1) (aCons (dVar 11) (aCons (dBin fAdd (dVar 3) (dTup (aCons (dVar 10) aNil))) (aCons (dVar 4) aNil))))))) (sSeq (sAug 8 (fI0 fun i j => .int (i + j)) (dVar 5)) (sAug 9 (fI0 fun i j => .int (i + j)) (dIfE (dAnd (dTest (dBin fNotN (dVar 6) (dC .non))) (dTest (dBin fIn (dVar 6) (dCall 2 S_takes (aCons (dVar 0) (aCons (dBin fIx (dVar 2) (dC (.int 0))) aNil)))))) (dVar 5) (dC (.int 0))))))) (sSeq (sSet 6 (dIfE (dTruth (dCall 4 S_is_enough (aCons (dVar 0) (aCons (dBin fIx (dVar 2) (dC (.int 0))) (aCons (dVar 9) (aCons (dVar 8) aNil)))))) (dBin fIx (dVar 2) (dC (.int 0))) (dC .non))) (sSeq (sLPut (dVar 4) (dVar 7) (dTup (aCons (dVar 3) (aCons (dVar 6) aNil)))) (sRet (dTup (aCons (dVar 8) (aCons (dVar 9) (aCons (dVar 6) aNil)))))))))))
def den_counts_as : SD := (sRet (dBin fIx (dCall 5 S_valued (aCons (dVar 0) (aCons (dVar 1) (aCons (dVar 2) (aCons (dTup aNil) (aCons (dLstH aNil) aNil)))))) (dC (.int 2))))
def den__law_takes : SD := (sRet (dCB fSorted (aCons (dBin fAdd (dLst (aCons (dVar 1) aNil)) (dLc (dIt (dBin fIx (dVar 0) (dC (.int 1)))) (.nm 2) (dTest (dBin fEq (dBin fIx (dVar 2) (dC (.int 0))) (dVar 1))) (dBin fIx (dVar 2) (dC (.int 1))) [2])) aNil)))
def den__law_has_share : SD := (sSeq (sSet 4 (dCall 2 S__law_row (aCons (dVar 0) (aCons (dVar 1) aNil)))) (sRet (dBin fGe (dBin fMulA (dVar 2) (dBin fIx (dVar 4) (dC (.int 2)))) (dBin fMulA (dVar 3) (dBin fIx (dVar 4) (dC (.int 1)))))))
end DL
namespace DL
open PySem PySem.Spec PyProof.Rows L2
theorem ix_pacts {b : Book} {h : Hv} {Q : PV} : fIx (encB b) (.int 1) h Q = Q (.tup (b.pacts.map encP)) h := rfl
theorem takes_len (b : Book) (z : Str) : (takesL b z).length ≤ b.pacts.length + 1 := by
  unfold takesL
  rw [(sortZ_perm _).length_eq, List.length_cons, List.length_map]
  have := List.length_filter_le (fun p : Str × Str => decide (p.1 = z)) b.pacts
  omega
theorem intsOf_str (z : Str) (vs : List Val) : intsOf (.str z :: vs) = none := by simp [intsOf]
theorem sorted_strs {z : Str} {zs : List Str} {h : Hv} {Q : PV} (hl : (z :: zs).length < 64) (q : Q (.lst ((sortZ (z :: zs)).map .str)) h) : fSorted [.lst (.str z :: zs.map .str)] h Q := by
  simp only [fSorted, listOf, Option.bind_some, intsOf_str]
  rw [show (Val.str z :: zs.map Val.str) = (z :: zs).map Val.str from rfl, strsOf_map]
  exact ⟨hl, q⟩
theorem bo_takes (N : List Str) (hN : N.length = 4) : ∀ as h Q E, as.length = 2 → S_takes as h Q E → den_takes (startA N as) h (endsR Q) (RX E) := by
  rintro as h Q E - ⟨b, z, rfl, pl, q⟩
  have q := RT.same q
  unfold den_takes
  simp only [startA, hN]
  generalize hd : dLc _ _ _ _ _ = dn
  revert dn
  refine opq fun dn hd => ?_
  simp only [sSet, sFor, sIf, sRet, sExpr, sPar, sAsg, sSeq, sNext, sAug, dIt, dTup, dLst, dLstH, dCB, dCall, dCallK, dBin, dUn, dTest, dChain, dIfE, aCons, aNil, dVar, dC, dTruth, dNot, dAnd, dOr, vAnd, vOr, vNot, dBM, dSl, dRev, oSome, oNone]
  simp
  subst hd
  refine ⟨by decide, lc_filtT (ok := fun _ => True) b.pacts encP (fun p => decide (p.1 = z)) (fun p => .str p.2) (fun R r => by simp only [sSet, sFor, sIf, sRet, sExpr, sPar, sAsg, sSeq, sNext, sAug, dIt, dTup, dLst, dLstH, dCB, dCall, dCallK, dBin, dUn, dTest, dChain, dIfE, aCons, aNil, dVar, dC, dTruth, dNot, dAnd, dOr, vAnd, vOr, vNot, dBM, dSl, dRev, oSome, oNone]; simpa [↓ix_pacts] using r) (fun _ _ => trivial) (sl1000 (by omega)) (fun p hp => ⟨_, rfl, fun h' Q' _ q' => ?_, fun _ h' Q' _ q' => by simpa using q'⟩) ?_⟩
  · simp only [sSet, sFor, sIf, sRet, sExpr, sPar, sAsg, sSeq, sNext, sAug, dIt, dTup, dLst, dLstH, dCB, dCall, dCallK, dBin, dUn, dTest, dChain, dIfE, aCons, aNil, dVar, dC, dTruth, dNot, dAnd, dOr, vAnd, vOr, vNot, dBM, dSl, dRev, oSome, oNone]
    simp
    by_cases e : p.1 = z
    · simpa [e] using q'
    · have : (p.1 == z) = false := by simpa using e
      simpa [e, this] using q'
  · have tl := takes_len b z
    unfold takesL at tl q
    rw [(sortZ_perm _).length_eq, List.length_cons, List.length_map] at tl
    have sz : 1 + (b.pacts.filter fun p => decide (p.1 = z)).length ≤ sizeLine := sl1000 (by omega)
    simp [sz]
    rw [show (List.map (fun p => Val.str p.2) (List.filter (fun p => decide (p.1 = z)) b.pacts)) = ((b.pacts.filter fun p => decide (p.1 = z)).map (·.2)).map Val.str by rw [List.map_map]; rfl]
    refine sorted_strs (by rw [List.length_cons, List.length_map]; omega) ?_
    simpa using q
theorem bo__law_takes (N : List Str) (hN : N.length = 3) : ∀ as h Q E, as.length = 2 → S__law_takes as h Q E → den__law_takes (startA N as) h (endsR Q) (RX E) := by
  rintro as h Q E - ⟨b, z, rfl, pl, q⟩
  have q := RT.same q
  unfold den__law_takes
  simp only [startA, hN]
  generalize hd : dLc _ _ _ _ _ = dn
  revert dn
  refine opq fun dn hd => ?_
  simp only [sSet, sFor, sIf, sRet, sExpr, sPar, sAsg, sSeq, sNext, sAug, dIt, dTup, dLst, dLstH, dCB, dCall, dCallK, dBin, dUn, dTest, dChain, dIfE, aCons, aNil, dVar, dC, dTruth, dNot, dAnd, dOr, vAnd, vOr, vNot, dBM, dSl, dRev, oSome, oNone]
  simp
  subst hd
  refine ⟨by decide, lc_filtT (ok := fun _ => True) b.pacts encP (fun p => decide (p.1 = z)) (fun p => .str p.2) (fun R r => by simp only [sSet, sFor, sIf, sRet, sExpr, sPar, sAsg, sSeq, sNext, sAug, dIt, dTup, dLst, dLstH, dCB, dCall, dCallK, dBin, dUn, dTest, dChain, dIfE, aCons, aNil, dVar, dC, dTruth, dNot, dAnd, dOr, vAnd, vOr, vNot, dBM, dSl, dRev, oSome, oNone]; simpa [↓ix_pacts] using r) (fun _ _ => trivial) (sl1000 (by omega)) (fun p hp => ⟨_, rfl, fun h' Q' _ q' => ?_, fun _ h' Q' _ q' => ?_⟩) ?_⟩
  · simp only [sSet, sFor, sIf, sRet, sExpr, sPar, sAsg, sSeq, sNext, sAug, dIt, dTup, dLst, dLstH, dCB, dCall, dCallK, dBin, dUn, dTest, dChain, dIfE, aCons, aNil, dVar, dC, dTruth, dNot, dAnd, dOr, vAnd, vOr, vNot, dBM, dSl, dRev, oSome, oNone]
    simp [encP, atI, ixN]
    by_cases e : p.1 = z
    · simpa [e] using q'
    · have : (p.1 == z) = false := by simpa using e
      simpa [e, this] using q'
  · simp only [sSet, sFor, sIf, sRet, sExpr, sPar, sAsg, sSeq, sNext, sAug, dIt, dTup, dLst, dLstH, dCB, dCall, dCallK, dBin, dUn, dTest, dChain, dIfE, aCons, aNil, dVar, dC, dTruth, dNot, dAnd, dOr, vAnd, vOr, vNot, dBM, dSl, dRev, oSome, oNone]
    simpa [encP, atI, ixN] using q'
  · have tl := takes_len b z
    unfold takesL at tl q
    rw [(sortZ_perm _).length_eq, List.length_cons, List.length_map] at tl
    have sz : 1 + (b.pacts.filter fun p => decide (p.1 = z)).length ≤ sizeLine := sl1000 (by omega)
    simp [sz]
    rw [show (List.map (fun p => Val.str p.2) (List.filter (fun p => decide (p.1 = z)) b.pacts)) = ((b.pacts.filter fun p => decide (p.1 = z)).map (·.2)).map Val.str by rw [List.map_map]; rfl]
    exact sorted_strs (by rw [List.length_cons, List.length_map]; omega) q
theorem share_mul {b : Book} {z : Str} (w : WFB b) (hz : z ∈ b.names) : ∃ l, rowA b z = some l ∧ (∀ c : Int, CMul c l.q ∧ CMul c l.p) := by
  obtain ⟨l, h1, h2, -⟩ := rowA_some hz
  have := w.sh l h2
  refine ⟨l, h1, fun c => ⟨.inr ?_, .inr ?_⟩⟩
  · have h : (2 : Int) ^ 64 = 18446744073709551616 := by decide
    omega
  · have h : (2 : Int) ^ 64 = 18446744073709551616 := by decide
    omega
theorem bo_is_enough (N : List Str) (hN : N.length = 8) : ∀ as h Q E, as.length = 4 → S_is_enough as h Q E → den_is_enough (startA N as) h (endsR Q) (RX E) := by
  rintro as h Q E - ⟨b, z, c, w, rfl, wf, hz, q⟩
  have q := RT.same q
  obtain ⟨l, hl, hm⟩ := share_mul wf hz
  unfold den_is_enough
  simp only [startA, hN]
  refine seq_o fun K hK => ?_
  simp only [sSet, sFor, sIf, sRet, sExpr, sPar, sAsg, sSeq, sNext, sAug, dIt, dTup, dLst, dLstH, dCB, dCall, dCallK, dBin, dUn, dTest, dChain, dIfE, aCons, aNil, dVar, dC, dTruth, dNot, dAnd, dOr, vAnd, vOr, vNot, dBM, dSl, dRev, oSome, oNone]
  refine ⟨rfl, b, z, l, rfl, wf.n4, hl, ?_⟩
  simp [encL]
  subst hK
  simp only [sSet, sFor, sIf, sRet, sExpr, sPar, sAsg, sSeq, sNext, sAug, dIt, dTup, dLst, dLstH, dCB, dCall, dCallK, dBin, dUn, dTest, dChain, dIfE, aCons, aNil, dVar, dC, dTruth, dNot, dAnd, dOr, vAnd, vOr, vNot, dBM, dSl, dRev, oSome, oNone]
  simp [hm]
  simpa [enough, hl] using q
theorem bo__law_has_share (N : List Str) (hN : N.length = 5) : ∀ as h Q E, as.length = 4 → S__law_has_share as h Q E → den__law_has_share (startA N as) h (endsR Q) (RX E) := by
  rintro as h Q E - ⟨b, z, c, w, rfl, wf, hz, q⟩
  have q := RT.same q
  obtain ⟨l, hl, hm⟩ := share_mul wf hz
  unfold den__law_has_share
  simp only [startA, hN]
  refine seq_o fun K hK => ?_
  simp only [sSet, sFor, sIf, sRet, sExpr, sPar, sAsg, sSeq, sNext, sAug, dIt, dTup, dLst, dLstH, dCB, dCall, dCallK, dBin, dUn, dTest, dChain, dIfE, aCons, aNil, dVar, dC, dTruth, dNot, dAnd, dOr, vAnd, vOr, vNot, dBM, dSl, dRev, oSome, oNone]
  simp
  refine ⟨b, z, l, rfl, wf.n4, hl, ?_⟩
  subst hK
  simp only [sSet, sFor, sIf, sRet, sExpr, sPar, sAsg, sSeq, sNext, sAug, dIt, dTup, dLst, dLstH, dCB, dCall, dCallK, dBin, dUn, dTest, dChain, dIfE, aCons, aNil, dVar, dC, dTruth, dNot, dAnd, dOr, vAnd, vOr, vNot, dBM, dSl, dRev, oSome, oNone]
  simp [encL, atI, ixN, hm]
  simpa [enough, hl] using q
theorem ix_heap {hp : Heap'} {n : Int} {h : Hv} {Q : PV} (h0 : 0 ≤ n) (h1 : n < (hp.length : Int)) (q : Q (.tup [.int (rawW hp n), encO (rawL hp n)]) h) : fIx (encH hp) (.int n) h Q := by
  have hk : n.toNat < hp.length := by omega
  obtain ⟨hk', e⟩ := atI_int (xs := hp.map encR) h0 (by rw [List.length_map]; exact h1)
  rw [List.getElem_map] at e
  simp [encH, e]
  simpa [rawW, rawL, hk, encR] using q
end DL
namespace DL
open PySem PySem.Spec PyProof.Rows L2
def enumFrom (k : Nat) : List Val → List Val
  | [] => []
  | v :: vs => .tup [.int (k : Nat), v] :: enumFrom (k + 1) vs
theorem enumV_from (vs : List Val) : enumV vs = enumFrom 0 vs := by
  have : ∀ (k : Nat) (vs : List Val), (vs.zip (List.range' k vs.length)).map (fun p => Val.tup [.int (p.2 : Nat), p.1]) = enumFrom k vs := fun k vs => by
    induction vs generalizing k with
    | nil => rfl
    | cons v vs ih => rw [List.length_cons, List.range'_succ, List.zip_cons_cons, List.map_cons, ih]; rfl
  unfold enumV
  rw [List.range_eq_range', this]
theorem wholeTs_app (hp : Heap') : ∀ ts us : List Tree, wholeTs hp (ts ++ us) = wholeTs hp ts + wholeTs hp us
  | [], us => by rw [List.nil_append, wholeTs]; omega
  | t :: ts, us => by rw [List.cons_append, wholeTs, wholeTs, wholeTs_app hp ts us]; omega
theorem cntTs_app (b : Book) (hp : Heap') (z : Str) : ∀ ts us : List Tree, cntTs b hp z (ts ++ us) = cntTs b hp z ts + cntTs b hp z us
  | [], us => by rw [List.nil_append, cntTs]; omega
  | t :: ts, us => by
    rw [List.cons_append, cntTs, cntTs, cntTs_app b hp z ts us]; omega
theorem rowsTs_app (b : Book) (hp : Heap') (path : List Int) : ∀ (i : Nat) (ts us : List Tree), rowsTs b hp path i (ts ++ us) = rowsTs b hp path i ts ++ rowsTs b hp path (i + ts.length) us
  | i, [], us => by rw [List.nil_append, rowsTs, List.nil_append]; rfl
  | i, t :: ts, us => by
    rw [List.cons_append, rowsTs, rowsTs, rowsTs_app b hp path (i + 1) ts us, List.append_assoc, List.length_cons, show i + 1 + ts.length = i + (ts.length + 1) by omega]
theorem sizeTs_app : ∀ ts us : List Tree, sizeTs (ts ++ us) = sizeTs ts + sizeTs us
  | [], us => by rw [List.nil_append, sizeTs]; omega
  | t :: ts, us => by rw [List.cons_append, sizeTs, sizeTs, sizeTs_app ts us]; omega
mutual
theorem rows_len (b : Book) (hp : Heap') : ∀ (t : Tree) (path : List Int), (t.rows b hp path).length = t.size
  | .leaf n, path => by rw [Tree.rows, Tree.size]; rfl
  | .node z ts, path => by rw [Tree.rows, Tree.size, List.length_cons, rowsTs_len b hp ts path 0]
theorem rowsTs_len (b : Book) (hp : Heap') : ∀ (ts : List Tree) (path : List Int) (i : Nat), (rowsTs b hp path i ts).length = sizeTs ts
  | [], path, i => by rw [rowsTs, sizeTs]; rfl
  | t :: ts, path, i => by rw [rowsTs, sizeTs, List.length_append, rows_len b hp t _, rowsTs_len b hp ts path (i + 1)]
end
theorem TrOk.mem {b : Book} {hp : Heap'} {z : Str} {ts : List Tree} (k : TrOk b hp (.node z ts)) {t : Tree} (h : t ∈ ts) : TrOk b hp t := by
  have ok := k.ok
  rw [Tree.okT, okTs_iff] at ok
  refine ⟨ok.2.2 t h, fun n hn => k.rg n ?_⟩
  rw [things_node]
  exact List.mem_flatMap.mpr ⟨t, h, hn⟩
theorem TrOk.land {b : Book} {hp : Heap'} {z : Str} {ts : List Tree} (k : TrOk b hp (.node z ts)) : z ∈ b.names := by
  have ok := k.ok
  rw [Tree.okT, okTs_iff] at ok
  exact ok.1
theorem bo_valued (N : List Str) (hN : N.length = 13) (d : Nat) : ∀ as h Q E, as.length = 5 → SR_valued (d + 1) as h Q E → den_valued (SR_valued d) (startA N as) h (endsR Q) (RX E) := by
  rintro as h0 Q E - ⟨b, hp, t, path, p, rows0, rfl, wf, tk, hd, pl, gp, rl, q⟩
  have q := RT.same q
  unfold den_valued
  simp only [startA, hN]
  refine seq_o fun K hK => ?_
  cases t with
  | leaf n =>
    have rg := tk.rg n (by simp [Tree.things])
    rw [Tree.size] at rl
    simp only [sSet, sFor, sIf, sRet, sExpr, sPar, sAsg, sSeq, sNext, sAug, dIt, dTup, dLst, dLstH, dCB, dCall, dCallK, dBin, dUn, dTest, dChain, dIfE, aCons, aNil, dVar, dC, dTruth, dNot, dAnd, dOr, vAnd, vOr, vNot, dBM, dSl, dRev, oSome, oNone]
    simp only [Tree.enc, Tree.whole, Tree.cnt, Tree.land, Tree.rows] at q ⊢
    simp [-fIx, -bT, -bTs]
    refine ix_heap rg.1 rg.2 ?_
    have s2 : (2 : Nat) ≤ sizeLine := by decide
    have s3 : (3 : Nat) ≤ sizeLine := by decide
    have sl : rows0.length < sizeLine := by rw [sizeLine_eq]; omega
    simp [tyA, fAppend, gp, s2, s3, sl]
    simpa [encRow] using q
  | node z ts =>
    have hts := ht_node hd
    have zn := tk.land
    rw [Tree.size] at rl
    have rlen : rows0.length < sizeLine := by rw [sizeLine_eq]; omega
    have s2 : (2 : Nat) ≤ sizeLine := by decide
    have s3 : (3 : Nat) ≤ sizeLine := by decide
    rw [enc_node]
    simp only [sSet, sFor, sIf, sRet, sExpr, sPar, sAsg, sSeq, sNext, sAug, dIt, dTup, dLst, dLstH, dCB, dCall, dCallK, dBin, dUn, dTest, dChain, dIfE, aCons, aNil, dVar, dC, dTruth, dNot, dAnd, dOr, vAnd, vOr, vNot, dBM, dSl, dRev, oSome, oNone]
    simp
    subst hK
    refine seq_o fun K hK => ?_
    simp only [sSet, sFor, sIf, sRet, sExpr, sPar, sAsg, sSeq, sNext, sAug, dIt, dTup, dLst, dLstH, dCB, dCall, dCallK, dBin, dUn, dTest, dChain, dIfE, aCons, aNil, dVar, dC, dTruth, dNot, dAnd, dOr, vAnd, vOr, vNot, dBM, dSl, dRev, oSome, oNone]
    simp [gp]
    subst hK
    refine seq_o fun K hK => ?_
    simp only [sSet, sFor, sIf, sRet, sExpr, sPar, sAsg, sSeq, sNext, sAug, dIt, dTup, dLst, dLstH, dCB, dCall, dCallK, dBin, dUn, dTest, dChain, dIfE, aCons, aNil, dVar, dC, dTruth, dNot, dAnd, dOr, vAnd, vOr, vNot, dBM, dSl, dRev, oSome, oNone]
    simp [tyA, fAppend, gp, s2, rlen]
    subst hK
    refine seq_o fun K hK => ?_
    refine for_o fun dd hdd => ?_
    simp only [dEnum, sSet, sFor, sIf, sRet, sExpr, sPar, sAsg, sSeq, sNext, sAug, dIt, dTup, dLst, dLstH, dCB, dCall, dCallK, dBin, dUn, dTest, dChain, dIfE, aCons, aNil, dVar, dC, dTruth, dNot, dAnd, dOr, vAnd, vOr, vNot, dBM, dSl, dRev, oSome, oNone]
    simp [atI, ixN]
    rw [enumV_from]
    subst hdd
    refine for_ind (fun vs ρ h => ∃ (done rest : List Tree) (x5 x6 x10 x11 x12 : Option Val), ts = done ++ rest ∧ vs = enumFrom done.length (rest.map Tree.enc) ∧ ρ = [some (encB b), some (encH hp), some (.tup [.str z, .tup (ts.map Tree.enc)]), some (.tup (path.map .int)), some (.ref p), x5, x6, some (.int (rows0.length : Nat)), some (.int (wholeTs hp done)), some (.int (cntTs b hp z done)), x10, x11, x12] ∧ h = put h0 p (.lst (rows0 ++ .tup [.tup (path.map .int), .non] :: (rowsTs b hp path 0 done).map encRow))) ?_ ?_ _ _ _ ⟨[], ts, none, none, none, none, none, rfl, rfl, by simp [wholeTs, cntTs], by simp [rowsTs]⟩
    · rintro ρ h ⟨done, rest, x5, x6, x10, x11, x12, e1, e2, rfl, rfl⟩
      have : rest = [] := by cases rest with
        | nil => rfl
        | cons _ _ => cases e2
      subst this
      rw [List.append_nil] at e1
      subst e1
      refine ⟨trivial, ?_⟩
      dsimp only
      subst hK
      refine seq_o fun K hK => ?_
      simp only [sSet, sFor, sIf, sRet, sExpr, sPar, sAsg, sSeq, sNext, sAug, dIt, dTup, dLst, dLstH, dCB, dCall, dCallK, dBin, dUn, dTest, dChain, dIfE, aCons, aNil, dVar, dC, dTruth, dNot, dAnd, dOr, vAnd, vOr, vNot, dBM, dSl, dRev, oSome, oNone]
      simp [atI, ixN]
      refine ⟨b, z, _, _, rfl, wf, zn, ?_⟩
      have ixr : ixN (rows0 ++ .tup [.tup (path.map .int), .non] :: (rowsTs b hp path 0 ts).map encRow).length ((rows0.length : Nat) : Int) = some rows0.length := by
        unfold ixN; simp; omega
      have fin : ∀ (v : Option Str), (Tree.node z ts).land b hp = v → K [some (encB b), some (encH hp), some (.tup [.str z, .tup (ts.map Tree.enc)]), some (.tup (path.map .int)), some (.ref p), x5, some (encO v), some (.int (rows0.length : Nat)), some (.int (wholeTs hp ts)), some (.int (cntTs b hp z ts)), x10, x11, x12] (put h0 p (.lst (rows0 ++ .tup [.tup (path.map .int), .non] :: (rowsTs b hp path 0 ts).map encRow))) (endsR Q) (RX E) := by
        intro v hv
        subst hK
        refine seq_o fun K hK => ?_
        simp only [sLPut, sSet, sFor, sIf, sRet, sExpr, sPar, sAsg, sSeq, sNext, sAug, dIt, dTup, dLst, dLstH, dCB, dCall, dCallK, dBin, dUn, dTest, dChain, dIfE, aCons, aNil, dVar, dC, dTruth, dNot, dAnd, dOr, vAnd, vOr, vNot, dBM, dSl, dRev, oSome, oNone]
        simp only [List.getElem?_cons_zero, List.getElem?_cons_succ]
        refine ⟨s2, ?_⟩
        rw [put_same]
        dsimp only
        rw [ixr]
        dsimp only
        subst hK
        simp only [sSet, sFor, sIf, sRet, sExpr, sPar, sAsg, sSeq, sNext, sAug, dIt, dTup, dLst, dLstH, dCB, dCall, dCallK, dBin, dUn, dTest, dChain, dIfE, aCons, aNil, dVar, dC, dTruth, dNot, dAnd, dOr, vAnd, vOr, vNot, dBM, dSl, dRev, oSome, oNone]
        refine ⟨s3, ?_⟩
        rw [put_put]
        rw [Tree.whole, Tree.cnt, Tree.rows, hv] at q
        have : (rows0 ++ Val.tup [.tup (path.map .int), .non] :: (rowsTs b hp path 0 ts).map encRow).set rows0.length (.tup [.tup (path.map .int), encO v]) = rows0 ++ (((path, v) : Row) :: rowsTs b hp path 0 ts).map encRow := by
          rw [List.set_append_right _ _ (Nat.le_refl _), Nat.sub_self]; rfl
        rw [this]
        exact q
      cases he : enough b z (cntTs b hp z ts) (wholeTs hp ts) with
      | true =>
        simp
        exact fin (some z) (by rw [Tree.land, he]; rfl)
      | false =>
        simp
        exact fin none (by rw [Tree.land, he]; rfl)
    · rintro v vs ρ h ⟨done, rest, x5, x6, x10, x11, x12, e1, e2, rfl, rfl⟩
      cases rest with
      | nil => cases e2
      | cons t rest =>
        rw [List.map_cons, enumFrom, List.cons.injEq] at e2
        obtain ⟨rfl, rfl⟩ := e2
        have mt : t ∈ ts := by rw [e1]; simp
        refine ⟨trivial, _, rfl, fun N hN => ?_⟩
        refine seq_o fun K hK => ?_
        have pl2 : path.length + 1 ≤ sizeLine := sl1000 (by rw [Tree.ht] at pl; omega)
        simp only [sSet, sFor, sIf, sRet, sExpr, sPar, sAsg, sSeq, sNext, sAug, dIt, dTup, dLst, dLstH, dCB, dCall, dCallK, dBin, dUn, dTest, dChain, dIfE, aCons, aNil, dVar, dC, dTruth, dNot, dAnd, dOr, vAnd, vOr, vNot, dBM, dSl, dRev, oSome, oNone]
        simp only [List.set, List.getElem?_cons_zero, List.getElem?_cons_succ, fAdd]
        have sz : sizeTs ts = sizeTs done + (t.size + sizeTs rest) := by rw [e1, sizeTs_app, sizeTs]
        refine ⟨by show 1 ≤ sizeLine; decide, by simpa using pl2, rfl, b, hp, t, path ++ [(done.length : Int)], p, _, by simp, wf, tk.mem mt, hts t mt, ?_, put_same, ?_, ?_⟩
        · have := htTs_mem mt
          rw [Tree.ht] at pl
          rw [List.length_append, List.length_singleton]
          omega
        · rw [List.length_append, List.length_cons, List.length_map, rowsTs_len]
          omega
        rw [put_put]
        have hrow : rows0 ++ .tup [.tup (path.map .int), .non] :: (rowsTs b hp path 0 done).map encRow ++ (t.rows b hp (path ++ [(done.length : Int)])).map encRow = rows0 ++ .tup [.tup (path.map .int), .non] :: (rowsTs b hp path 0 (done ++ [t])).map encRow := by
          rw [rowsTs_app, rowsTs, rowsTs, List.append_nil, List.map_append, Nat.zero_add]
          simp
        rw [hrow]
        simp
        subst hK
        refine seq_o fun K hK => ?_
        simp only [sSet, sFor, sIf, sRet, sExpr, sPar, sAsg, sSeq, sNext, sAug, dIt, dTup, dLst, dLstH, dCB, dCall, dCallK, dBin, dUn, dTest, dChain, dIfE, aCons, aNil, dVar, dC, dTruth, dNot, dAnd, dOr, vAnd, vOr, vNot, dBM, dSl, dRev, oSome, oNone]
        simp
        subst hK
        simp only [sSet, sFor, sIf, sRet, sExpr, sPar, sAsg, sSeq, sNext, sAug, dIt, dTup, dLst, dLstH, dCB, dCall, dCallK, dBin, dUn, dTest, dChain, dIfE, aCons, aNil, dVar, dC, dTruth, dNot, dAnd, dOr, vAnd, vOr, vNot, dBM, dSl, dRev, oSome, oNone]
        simp
        have ew : wholeTs hp (done ++ [t]) = wholeTs hp done + t.whole hp := by rw [wholeTs_app, wholeTs, wholeTs]; omega
        cases hl : t.land b hp with
        | none =>
          have ec : cntTs b hp z (done ++ [t]) = cntTs b hp z done := by rw [cntTs_app, cntTs, cntTs, hl]; show _ + (0 + 0) = _; omega
          simp [encO]
          refine hN _ _ ⟨done ++ [t], rest, some (.int (t.whole hp)), some .non, some (.int (done.length : Nat)), some t.enc, some (.int (t.cnt b hp)), by rw [e1]; simp, by simp, ?_, rfl⟩
          rw [ew, ec]
        | some l =>
          simp [encO, atI, ixN]
          refine ⟨b, z, rfl, wf.pl, ?_⟩
          simp [inA_str, flat_strs]
          by_cases hm : l ∈ takesL b z
          · have ec : cntTs b hp z (done ++ [t]) = cntTs b hp z done + t.whole hp := by rw [cntTs_app, cntTs, cntTs, hl]; show _ + ((if l ∈ takesL b z then t.whole hp else 0) + 0) = _; rw [if_pos hm]; omega
            simp [hm]
            refine hN _ _ ⟨done ++ [t], rest, some (.int (t.whole hp)), some (.str l), some (.int (done.length : Nat)), some t.enc, some (.int (t.cnt b hp)), by rw [e1]; simp, by simp, ?_, rfl⟩
            rw [ew, ec]
          · have ec : cntTs b hp z (done ++ [t]) = cntTs b hp z done := by rw [cntTs_app, cntTs, cntTs, hl]; show _ + ((if l ∈ takesL b z then t.whole hp else 0) + 0) = _; rw [if_neg hm]; omega
            simp [hm]
            refine hN _ _ ⟨done ++ [t], rest, some (.int (t.whole hp)), some (.str l), some (.int (done.length : Nat)), some t.enc, some (.int (t.cnt b hp)), by rw [e1]; simp, by simp, ?_, rfl⟩
            rw [ew, ec]
end DL
namespace DL
open PySem PySem.Spec PyProof.Rows L2
theorem ask_valued {b : Book} {hp : Heap'} {t : Tree} {p : Addr} {h : Hv} {Q : PV} {E : PF} (wf : WFB b) (tk : TrOk b hp t) (hd : t.ht < 24) (sz : t.size ≤ 900) (gp : h p = some (.lst [])) (q : Q (.tup [.int (t.whole hp), .int (t.cnt b hp), encO (t.land b hp)]) (put h p (.lst ((t.rows b hp []).map encRow)))) : S_valued [encB b, encH hp, t.enc, .tup [], .ref p] h Q E :=
  ⟨b, hp, t, [], p, [], rfl, wf, tk, hd, by simp; omega, gp, by simp; omega, q⟩
theorem bo_counts_as (N : List Str) (hN : N.length = 3) : ∀ as h Q E, as.length = 3 → S_counts_as as h Q E → den_counts_as (startA N as) h (endsR Q) (RX E) := by
  rintro as h Q E - ⟨b, hp, t, rfl, wf, tk, hd, sz, q⟩
  unfold den_counts_as
  simp only [startA, hN]
  simp only [sSet, sFor, sIf, sRet, sExpr, sPar, sAsg, sSeq, sNext, sAug, dIt, dTup, dLst, dLstH, dCB, dCall, dCallK, dBin, dUn, dTest, dChain, dIfE, aCons, aNil, dVar, dC, dTruth, dNot, dAnd, dOr, vAnd, vOr, vNot, dBM, dSl, dRev, oSome, oNone]
  simp
  intro p hp'
  refine ask_valued wf tk hd sz put_same ?_
  rw [put_put]
  simp [atI, ixN]
  exact RT.less (Lss.put hp' (by simp)) q
end DL
namespace DL
open PySem PySem.Spec PyProof.Rows L2
def setN (n : Nat) : List Nat := (List.range 8).filter fun i => n.testBit i
def setI (n : Nat) : List Int := (setN n).map fun (i : Nat) => (i : Int)
def encS (n : Nat) : Val := .tup ((setI n).map .int)
def sub (p n : Nat) : Bool := p &&& n == p
theorem sub_iff {p n : Nat} : sub p n = true ↔ ∀ i, p.testBit i = true → n.testBit i = true := by
  unfold sub
  rw [beq_iff_eq]
  constructor
  · intro h i hi
    rw [← h, Nat.testBit_and, Bool.and_eq_true] at hi
    exact hi.2
  · intro h
    apply Nat.eq_of_testBit_eq
    intro i
    rw [Nat.testBit_and]
    cases e : p.testBit i with
    | false => rfl
    | true => rw [h i e]; rfl
theorem sub_refl (n : Nat) : sub n n = true := sub_iff.mpr fun _ h => h
theorem sub_trans {a b c : Nat} (h : sub a b = true) (h' : sub b c = true) : sub a c = true := sub_iff.mpr fun i hi => sub_iff.mp h' i (sub_iff.mp h i hi)
theorem sub_le {p n : Nat} (h : sub p n = true) : p ≤ n := by
  unfold sub at h
  rw [beq_iff_eq] at h
  rw [← h]
  exact Nat.and_le_right
def partsN (n : Nat) : List Nat := ((List.range (n + 1)).filter fun p => p != 0 && sub p n).reverse
theorem mem_parts {n p : Nat} : p ∈ partsN n ↔ p ≠ 0 ∧ sub p n = true := by
  unfold partsN
  rw [List.mem_reverse, List.mem_filter, List.mem_range, Bool.and_eq_true, bne_iff_ne]
  constructor
  · exact fun h => h.2
  · exact fun h => ⟨Nat.lt_succ_of_le (sub_le h.2), h⟩
def nextP (n p : Nat) : Nat := (p - 1) &&& n
def goParts (n : Nat) : Nat → Nat → List Nat
  | 0, _ => []
  | k + 1, p => if p = 0 then [] else p :: goParts n k (nextP n p)
set_option maxHeartbeats 0 in
theorem goParts_all : ((List.range 256).all fun n => goParts n 256 n == partsN n) = true := by decide +kernel
theorem goParts_eq {n : Nat} (h : n < 256) : goParts n 256 n = partsN n := by
  have := List.all_eq_true.mp goParts_all n (List.mem_range.mpr h)
  exact beq_iff_eq.mp this
def lowN (n : Nat) : Nat := n &&& (256 - n)
theorem low_all : ((List.range 256).all fun n => Builtin.bitAnd (n : Int) (-(n : Int)) == ((lowN n : Nat) : Int)) = true := by decide +kernel
theorem low_eq {n : Nat} (h : n < 256) : Builtin.bitAnd (n : Int) (-(n : Int)) = ((lowN n : Nat) : Int) := beq_iff_eq.mp (List.all_eq_true.mp low_all n (List.mem_range.mpr h))
theorem band (a b : Nat) : Builtin.bitAnd (a : Int) (b : Int) = ((a &&& b : Nat) : Int) := by
  rw [bitAnd_pp (Int.natCast_nonneg a) (Int.natCast_nonneg b)]
  simp
theorem bxor_sub {n p : Nat} (h : sub p n = true) : Builtin.bitXor (n : Int) (p : Int) = ((n - p : Nat) : Int) := by
  have l := sub_le h
  unfold sub at h
  rw [beq_iff_eq] at h
  rw [bitXor_and, band, Nat.and_comm, h]
  omega
set_option maxHeartbeats 0 in
theorem minus_all : ((List.range 256).all fun n => (partsN n).all fun p => (n ^^^ p == n - p) && (p + (n - p) == n)) = true := by decide +kernel
theorem minus_xor {n p : Nat} (hn : n < 256) (h : sub p n = true) : n - p = n ^^^ p := by
  by_cases hp : p = 0
  · subst hp; simp
  · have := List.all_eq_true.mp (List.all_eq_true.mp minus_all n (List.mem_range.mpr hn)) p (mem_parts.mpr ⟨hp, h⟩)
    rw [Bool.and_eq_true, beq_iff_eq] at this
    exact this.1.symm
theorem rest_bit {n p : Nat} (hn : n < 256) (h : sub p n = true) (i : Nat) : (n - p).testBit i = (n.testBit i && !p.testBit i) := by
  rw [minus_xor hn h, Nat.testBit_xor]
  have := sub_iff.mp h i
  cases hp : p.testBit i with
  | false => simp
  | true => rw [this hp]; rfl
theorem rest_sub {n p : Nat} (hn : n < 256) (h : sub p n = true) : sub (n - p) n = true := sub_iff.mpr fun i hi => by
  rw [rest_bit hn h, Bool.and_eq_true] at hi
  exact hi.1
theorem lt_of_sub {n p : Nat} (hn : n < 256) (h : sub p n = true) : p < 256 := Nat.lt_of_le_of_lt (sub_le h) hn
theorem bit_lt {n i : Nat} (hn : n < 256) (h : n.testBit i = true) : i < 8 := by
  apply Nat.lt_of_not_le
  intro hi
  have : n < 2 ^ i := Nat.lt_of_lt_of_le hn (Nat.pow_le_pow_right (by decide) hi : 2 ^ 8 ≤ 2 ^ i)
  rw [Nat.testBit_lt_two_pow this] at h
  cases h
theorem mem_setN {n i : Nat} (hn : n < 256) : i ∈ setN n ↔ n.testBit i = true := by
  unfold setN
  rw [List.mem_filter, List.mem_range]
  exact ⟨fun h => h.2, fun h => ⟨bit_lt hn h, h⟩⟩
theorem setN_inj {a b : Nat} (ha : a < 256) (hb : b < 256) (h : setN a = setN b) : a = b := by
  apply Nat.eq_of_testBit_eq
  intro i
  have h1 := mem_setN (i := i) ha
  have h2 := mem_setN (i := i) hb
  rw [h] at h1
  cases e : b.testBit i with
  | true => exact h1.mp (h2.mpr e)
  | false =>
    cases e2 : a.testBit i with
    | false => rfl
    | true => rw [h2.mp (h1.mpr e2)] at e; cases e
theorem setN_up (n : Nat) : (setN n).Pairwise (· < ·) := List.pairwise_lt_range.filter _
theorem setI_inj {a b : Nat} (ha : a < 256) (hb : b < 256) (h : setI a = setI b) : a = b := by
  refine setN_inj ha hb ?_
  unfold setI at h
  have inj : ∀ l m : List Nat, l.map (fun (i : Nat) => (i : Int)) = m.map (fun (i : Nat) => (i : Int)) → l = m := by
    intro l
    induction l with
    | nil => intro m h; cases m with
      | nil => rfl
      | cons => simp at h
    | cons x l ih => intro m h; cases m with
      | nil => simp at h
      | cons y m =>
        simp at h
        rw [show x = y by omega, ih m h.2]
  exact inj _ _ h
theorem setI_len (n : Nat) : (setI n).length ≤ 8 := by
  unfold setI setN
  rw [List.length_map]
  exact Nat.le_trans (List.length_filter_le _ _) (by simp)
theorem setI_up (n : Nat) : (setI n).Pairwise (· < ·) := by
  unfold setI
  rw [List.pairwise_map]
  exact (setN_up n).imp fun h => by omega
def bitsL (ns : List Int) : Nat := (ns.map fun n => 2 ^ n.toNat).sum
theorem bits_all : ((List.range 256).all fun n => bitsL (setI n) == n) = true := by decide +kernel
theorem bits_set {n : Nat} (h : n < 256) : bitsL (setI n) = n := beq_iff_eq.mp (List.all_eq_true.mp bits_all n (List.mem_range.mpr h))
def wt (hp : Heap') (n : Nat) : Int := ((setI n).map (rawW hp)).sum
def inH (hp : Heap') (n : Nat) : Prop := n < 2 ^ hp.length
theorem inH_lt {hp : Heap'} (h8 : hp.length ≤ 8) {n : Nat} (h : inH hp n) : n < 256 := Nat.lt_of_lt_of_le h (Nat.pow_le_pow_right (by decide) h8 : 2 ^ hp.length ≤ 2 ^ 8)
theorem inH_rg {hp : Heap'} {n : Nat} (h : inH hp n) : ∀ i ∈ setI n, 0 ≤ i ∧ i < (hp.length : Int) := fun i hi => by
  unfold setI at hi
  obtain ⟨j, hj, rfl⟩ := List.mem_map.mp hi
  unfold setN at hj
  have := (List.mem_filter.mp hj).2
  have : j < hp.length := by
    apply Nat.lt_of_not_le
    intro hl
    rw [Nat.testBit_lt_two_pow (Nat.lt_of_lt_of_le h (Nat.pow_le_pow_right (by decide) hl))] at this
    cases this
  omega
theorem inH_sub {hp : Heap'} {p n : Nat} (h : inH hp n) (s : sub p n = true) : inH hp p := Nat.lt_of_le_of_lt (sub_le s) h
inductive Jnd (P : Nat → Prop) : Nat → Prop
  | one {n : Nat} : n ≠ 0 → P n → Jnd P n
  | more {n p : Nat} : sub p n = true → p ≠ 0 → p ≠ n → lowN n &&& p ≠ 0 → P p → Jnd P (n - p) → Jnd P n
theorem Jnd.mono {P P' : Nat → Prop} {n : Nat} (j : Jnd P n) (h : ∀ p, P p → P' p) : Jnd P' n := by
  induction j with
  | one n0 hp => exact .one n0 (h _ hp)
  | more s p0 pn l hp _ ih => exact .more s p0 pn l (h _ hp) ih
theorem Jnd.pos {P : Nat → Prop} {n : Nat} (j : Jnd P n) : n ≠ 0 := by
  cases j with
  | one n0 _ => exact n0
  | more s p0 pn _ _ _ => have := sub_le s; omega
def Tk (b : Book) (C : Str → Nat → Prop) (z : Str) (p : Nat) : Prop := ∃ t ∈ takesL b z, C t p
structure Clo (b : Book) (hp : Heap') (C : Str → Nat → Prop) : Prop where
  raw : ∀ (i : Nat) (w : Int) (z : Str), hp[i]? = some (w, some z) → C z (2 ^ i)
  made : ∀ z ∈ b.names, ∀ n, inH hp n → ∀ p, sub p n = true → Jnd (Tk b C z) p → enough b z (wt hp p) (wt hp n) = true → C z n
def Can (b : Book) (hp : Heap') (z : Str) (n : Nat) : Prop := ∀ C, Clo b hp C → C z n
end DL
namespace DL
open PySem PySem.Spec PyProof.Rows L2
structure FillOk (b : Book) (hp : Heap') (D : Nat → Prop) (m : Nat) : Prop where
  w : WFB b
  ho : HpOk b hp
  m0 : m ≠ 0
  mH : inH hp m
  nd : ¬ D m
  low : ∀ p, p ≠ 0 → p ≠ m → sub p m = true → D p
theorem FillOk.lt {b : Book} {hp : Heap'} {D : Nat → Prop} {m : Nat} (f : FillOk b hp D m) : m < 256 := inH_lt f.ho.n8 f.mH
end DL
namespace DL
open PySem PySem.Spec PyProof.Rows L2
theorem fn_no {P : Program} {w : World} {K : PySem.W.Frag} {mg : Str → Option Value} {base : Heap} {CX : CXT} {k : Nat} {f : Addr} {fd : FuncData} {ps : List Str} {n : Nat} {S : SpF} (h : ∀ as h Q E, S as h Q E → False) : FnOk P w K mg base CX k f fd ps (spA K mg n S) :=
  ⟨fun vs H Q E ⟨_, _, _, _, _, _, _, z, _⟩ => (h _ _ _ _ z).elim, fun _ _ _ _ _ _ _ _ _ _ _ _ _ ⟨_, _, _, _, _, _, _, z, _⟩ => (h _ _ _ _ z).elim⟩
end DL
namespace DL
open PySem PySem.Spec PyProof.Rows L2
def S_lawN (NS : List Str) (G : Gx) : SpF := fun as h Q _ => ∃ ns, as = [.scr ns] ∧ ns.length ≤ 63 ∧ G.ns = NS ∧ Tbs G.Ts h ∧ ∀ h', Q (.bl true) h'
def spLawT (K : PySem.W.Frag) (Ts : List Addr) : Sp := fun vs H Q E => ∃ (a : Addr) (ns : List Int), vs = [.ref a] ∧ SqL K H a (ns.map V.int) ∧ ns.length ≤ 63 ∧ (∀ T ∈ Ts, H T = some (.tbl #[])) ∧ ∀ H', Q (.bl true) H'
def tabH (Ts : List (Addr × Str)) : Hv := fun b => (Ts.lookup b).map Ob.tab
theorem tabH_ok : ∀ {Ts : List (Addr × Str)}, (Ts.map (·.1)).Nodup → Tbs Ts (tabH Ts)
  | [], _ => ⟨fun _ h => absurd h (by simp), fun b q h => by simp [tabH] at h⟩
  | (a, q0) :: Ts, nd => by
    rw [List.map_cons, List.nodup_cons] at nd
    have ih := tabH_ok nd.2
    refine ⟨fun p hp => ?_, fun b q hb => ?_⟩
    · unfold tabH
      rw [List.lookup_cons]
      rcases List.mem_cons.mp hp with z | z
      · subst z; simp
      · have ne : (p.1 == a) = false := by
          rw [beq_eq_false_iff_ne]; intro e; refine nd.1 ?_; rw [← e]; exact List.mem_map_of_mem (f := (·.1)) z
        rw [ne]
        exact ih.has p z
    · unfold tabH at hb
      rw [List.lookup_cons] at hb
      cases e : b == a with
      | true =>
        rw [e] at hb
        have := beq_iff_eq.mp e
        subst this
        cases hb
        exact List.mem_cons_self
      | false =>
        rw [e] at hb
        exact List.mem_cons_of_mem _ (ih.all b q hb)
theorem ok_endT {P : Program} {w : World} {K : PySem.W.Frag} {mg : Str → Option Value} {base : Heap} {CX : CXT} {k : Nat} {f : Addr} {G : Gx} {NS : List Str} {fd : FuncData} {ps : List Str} (hns : G.ns = NS) (nd : (G.Ts.map (·.1)).Nodup) (F : FnOk P w K mg base CX k f fd ps (spA K mg 1 (S_lawN NS G))) : FnOk P w K mg base CX k f fd ps (spLawT K (G.Ts.map (·.1))) := by
  refine F.imp ?_
  generalize hTs : G.Ts = Ts at *
  rintro vs H Q E ⟨a, ns, rfl, sq, hl, hT, q⟩
  have tb := tabH_ok nd
  refine ⟨[.scr ns], tabH Ts, fun v _ => v = .bl true, fun _ _ _ => False, ?_, ?_, rfl, ⟨ns, rfl, hl, hns, by rw [hTs]; exact tb, fun _ => rfl⟩, ?_, fun _ _ _ _ _ _ z => z.elim⟩
  · rw [RVs]
    refine ⟨.ref a, [], rfl, ?_, rfl⟩
    rw [RV]
    refine ⟨a, rfl, ?_⟩
    rcases sq with z | z
    · refine .inl ⟨?_, z⟩
      cases e : tabH Ts a with
      | none => rfl
      | some o =>
        have : ∃ q, o = .tab q := by
          unfold tabH at e
          cases e2 : Ts.lookup a with
          | none => rw [e2] at e; cases e
          | some q => rw [e2] at e; cases e; exact ⟨q, rfl⟩
        obtain ⟨q0, rfl⟩ := this
        have hm := tb.all a q0 e
        have := hT a (List.mem_map_of_mem (f := (·.1)) hm)
        rcases z with z | ⟨o, z⟩ <;> rw [this] at z <;> cases z
    · exact .inr z
  · intro b o e
    have : ∃ q, o = .tab q := by
      unfold tabH at e
      cases e2 : Ts.lookup b with
      | none => rw [e2] at e; cases e
      | some q => rw [e2] at e; cases e; exact ⟨q, rfl⟩
    obtain ⟨q0, rfl⟩ := this
    have hm := tb.all b q0 e
    exact ⟨#[], hT b (List.mem_map_of_mem (f := (·.1)) hm), True.intro, fun pos cv hc => by
      have z : codeAmong pos [] = some cv := hc
      simp [codeAmong] at z⟩
  · rintro v h' x H' rfl _ rv _
    rw [RV] at rv
    rw [rv]; exact q H'
theorem fn_mkC {P : Program} {w : World} {K : PySem.W.Frag} {mg : Str → Option Value} {base : Heap} {x qual : Str} {st : Stmt} {f : Addr} {fd : FuncData} {N ps : List Str} {k : Nat} {fs : SpF} {den : SD} (F : Fun K x qual st f fd) (S : FnScope N ps (defScope st))
    (hd : ∀ (cdv : Value) (A : Around) (outer : List Env) (s : Shared) (H : Hp) (E : XK) (B : Bs), fd.code = cdv → Room k (A.deeper (envOfC qual (defScope st) s.heap.objs.size f cdv)) → TakesB (cxOf (L2.CX P w) P w K mg base N qual (defScope st) f cdv A outer s H E) B →
      DSs (cxOf (L2.CX P w) P w K mg base N qual (defScope st) f cdv A outer s H E) B (defBody st) den)
    (hs : ∀ as h Q E, as.length = ps.length → fs as h Q E → den (startA N as) h ⟨fun _ h' => ∃ h2, Lss h' h2 ∧ Q .non h2, fun v h' => ∃ v2 h2, Conv v h' v2 h2 ∧ Q v2 h2, fun _ _ => False, fun _ _ => False⟩ (fun nm pl _ h' => ∃ h2, Lss h' h2 ∧ E nm pl h2)) :
    FnOk P w K mg base (L2.CX P w) (k + 1) f fd ps (spA K mg ps.length fs) := by
  obtain ⟨oc, od, kV, doc, pm, an, cdv0, ct, osl, efd, lk, hcd⟩ := F.ex
  have hcode : fd.code = cdv0 := by rw [efd]
  rw [efd] at lk ⊢
  refine fn_of lk hcd S (fun vs H Q E h => ?_) (fun A outer s H vs Q E hr h => ?_)
  · obtain ⟨as, h, Q', E', rs, _, e, _⟩ := h
    rw [← rs.len]; exact e
  · obtain ⟨as, h, Q', E', rs, r, e, q, C, CX⟩ := h
    refine ⟨_, hd cdv0 A outer s H E ⟨fun nm pl _ h' => ∃ h2, Lss h' h2 ∧ E' nm pl h2, h, H⟩ hcode hr ?_, startA N as, h, _, ⟨rs.getS N, r, Step.refl _ _⟩, hs as h Q' E' e q, ?_⟩
    · have tk : Takes (cxOf (L2.CX P w) P w K mg base N qual (defScope st) f cdv0 A outer s H E) (fun cls d _ H => E cls d H) := takes_of rfl rfl rfl rfl
      refine tk.imp fun cls d σ H1 hw => ?_
      obtain ⟨nm, pl, ρ, h1, hm, S1, pld, h2, l2, hE⟩ := hw
      exact CX nm pl h2 cls d H1 hE (S1.b.trans l2.step) (S1.r.less l2.l) hm (pld.step l2.step)
    · refine ⟨fun ρ1 h1 σ1 H1 q1 s1 S1 => ?_, fun v h1 x H1 q1 s1 rv1 r1 => ?_, fun _ _ _ _ z => z.elim, fun _ _ _ _ z => z.elim⟩
      · obtain ⟨h2, l2, q2⟩ := q1
        exact C _ _ _ _ q2 (s1.trans l2.step) rv_non (S1.r.less l2.l)
      · obtain ⟨v2, h2, c2, q2⟩ := q1
        exact C _ _ _ _ q2 (s1.trans c2.1.step) (c2.2 K H1 x r1 rv1) (r1.less c2.1.l)
theorem fun_of {K : PySem.W.Frag} {x qual : Str} {st : Stmt} {f : Addr} {fd : FuncData} (F : FunD K x qual (defArgs st) (defBody st) (defScope st) [] [] f fd) : Fun K x qual st f fd := by
  obtain ⟨oc, od, dV, kV, doc, pm, an, cdv, ct, osl, e, lk, hcd, hd, _⟩ := F.ex
  have : dV = .none := hd.elim (fun z => z.2) fun z => absurd rfl z.1
  subst this
  exact ⟨⟨oc, od, kV, doc, pm, an, cdv, ct, osl, e, lk, hcd⟩, F.kp⟩
def excRB (K : PySem.W.Frag) (x : Str) : Bool := PySem.W.excIn K (He.ga K x) He.veBase "ValueError.__new__" && (PySem.W.keepIn K (.ref (He.ga K x)) && (decide (PySem.W.subIn K (.ref (He.ga K x)) (.type "BaseException") = some true) && decide (PySem.W.typeIn K (.ref (He.ga K x)) = some (.type "type"))))
theorem walkT {l : PySem.W.OpenLaw} {k : Nat} {q : Program} {loose : List Str} {XP : (Str → Option Value) → Heap → Prop} {d : DefRec} {fa : List He.Fa} {fn : List He.DefD} {tf : List He.Defn} {ex : PySem.W.Frag → Bool} (hn : l.most = some 63) (hdf : d.params.defaults = []) (hnm : d.name = "law") (hr : Room k callerA)
    (F : ∀ (w : World) (K : PySem.W.Frag) (mg : Str → Option Value) (f : Addr) (h : Heap), K.In h → h.Ns mainGlobals mg → mg "law" = some (.ref f) → He.SaysX fa fn [] tf ex w h K →
      ∃ fd : FuncData, (∀ (s : Shared) (u : Value), BindsTo s fd ⟨[u], []⟩ [("script", u)]) ∧ ∀ base : Heap, K.In base → base.Ns mainGlobals mg → (∀ p ∈ tf, LamX.TabB base mg (He.cT K p).1 (He.cT K p).2) → FnOk l.prog w K mg base (L2.CX l.prog w) k f fd ["script"] (spLawT K (tf.map fun p => (He.cT K p).2))) :
    PySem.W.WalkO q loose XP (He.hookX 4 fa fn [] tf ex).says l.row.toRowW d [] (fun f vs => PySem.call f vs) := by
  refine LamX.walk_ofTsE (l := l) (n := 63) (k := k) (x := "script") (CX := fun w => L2.CX l.prog w) hn (by decide) hdf hr (fun w mg f h Y G hmg0 => ?_) (fun _ _ _ _ _ z => ?_)
  · obtain ⟨K, KX, c⟩ := Y
    have hmg : mg "law" = some (.ref f) := by rw [← hnm]; exact hmg0
    obtain ⟨fd, hb, hF⟩ := F w K mg f h KX G hmg c
    refine ⟨K, KX, fd, tf.map (He.cT K), spLawT K (tf.map fun p => (He.cT K p).2), fun p hp => ?_, fun p hp => ?_, fun p hp => ?_, hb, fun H a ns hl _ hT hS => ⟨a, ns, rfl, hS, hl, fun T hT' => ?_, fun _ => rfl⟩, fun base KB GB TB => hF base KB GB fun p hp => TB _ (List.mem_map_of_mem hp)⟩
    · obtain ⟨z, hz, rfl⟩ := List.mem_map.mp hp; exact c.empty _ hz
    · obtain ⟨z, hz, rfl⟩ := List.mem_map.mp hp; exact c.out _ hz
    · obtain ⟨z, hz, rfl⟩ := List.mem_map.mp hp; exact PySem.W.codeHd_of_K KX (c.hd _ hz)
    · obtain ⟨z, hz, rfl⟩ := List.mem_map.mp hT'; exact hT _ (List.mem_map_of_mem hz)
  · obtain ⟨_, _, _, _, _, _, _, _, _, _, _, _, hE⟩ := z
    exact hE
theorem code_law {K : PySem.W.Frag} {x qual : Str} {st : Stmt} {fd : FuncData} {cdv : Value} {p : Str × Option Str} (F : Fun K x qual st (He.fAd K p) fd) (e : fd.code = cdv) : cdv = .ref (He.cT K p).1 := by
  obtain ⟨oc, od, kV, doc, pm, an, cdv0, ct, osl, efd, lk, hcd⟩ := F.ex
  obtain ⟨c, ec⟩ := He.codeIn_ref hcd
  have hc : fd.code = .ref c := by rw [efd]; exact ec
  rw [← e, hc]
  exact congrArg Value.ref (He.codeOf_eq lk hc).symm
end DL
namespace DL
open PySem PySem.Spec PyProof.Rows L2
end DL
namespace DL
open PySem PySem.Spec PyProof.Rows L2
end DL
namespace DL
open PySem PySem.Spec PyProof.Rows L2
def odd (b : Book) (v : Val) : Prop := flatA v = true ∧ inA v (b.names.map .str) = false
def S_look_land : SpF := fun as h Q E => ∃ (b : Book) (v : Val), as = [encB b, v] ∧ b.lands.length ≤ 4 ∧ ((∃ z, v = .str z ∧ z ∈ b.names ∧ Q .non h) ∨ (odd b v ∧ E "NoLand" none h))
end DL
namespace DL
open PySem PySem.Spec PyProof.Rows L2
noncomputable def dec (p : Prop) : Bool := @decide p (Classical.propDecidable p)
def S_set_of : SpF := fun as h Q _ => ∃ n : Nat, as = [.int (n : Int)] ∧ Q (encS n) h
def S_parts_of : SpF := fun as h Q _ => ∃ n : Nat, as = [.int (n : Int)] ∧ n < 256 ∧ Q (.lst ((partsN n).map fun (p : Nat) => .int (p : Int))) h
def encD (xs : List Nat) : List (Key × Val) := xs.map fun n => (.inl ((n : Nat) : Int), .bl true)
structure Ad where
  tk : Addr
  gd : Addr
  jd : Addr
  ga : Str → Addr
  ja : Str → Addr
def refD (b : Book) (f : Str → Addr) : List (Key × Val) := b.names.map fun z => (.inr z, .ref (f z))
structure Small (xs : List Nat) : Prop where
  nd : xs.Nodup
  lt : ∀ n ∈ xs, n < 256
def OffT (b : Book) (A : Ad) (h h' : Hv) : Prop := (∀ c, (∀ z ∈ b.names, c ≠ A.ga z ∧ c ≠ A.ja z) → h' c = h c)
end DL
namespace DL
open PySem PySem.Spec PyProof.Rows L2
set_option maxHeartbeats 0 in
theorem pop_lt_all : ((List.range 256).all fun n => (partsN n).all fun p => p == n || decide ((setI p).length < (setI n).length)) = true := by decide +kernel
theorem pop_lt {p n : Nat} (hn : n < 256) (p0 : p ≠ 0) (h : sub p n = true) (ne : p ≠ n) : (setI p).length < (setI n).length := by
  have := List.all_eq_true.mp (List.all_eq_true.mp pop_lt_all n (List.mem_range.mpr hn)) p (mem_parts.mpr ⟨p0, h⟩)
  rw [Bool.or_eq_true, beq_iff_eq, decide_eq_true_eq] at this
  exact this.resolve_left ne
theorem sub_mem {n p : Nat} (hn : n < 256) (hp : p < 256) : sub p n = true ↔ ∀ i ∈ setI p, i ∈ setI n := by
  rw [sub_iff]
  unfold setI
  constructor
  · intro h i hi
    obtain ⟨j, hj, rfl⟩ := List.mem_map.mp hi
    exact List.mem_map.mpr ⟨j, (mem_setN hn).mpr (h j ((mem_setN hp).mp hj)), rfl⟩
  · intro h i hi
    have := h i (List.mem_map.mpr ⟨i, (mem_setN hp).mpr hi, rfl⟩)
    obtain ⟨j, hj, e⟩ := List.mem_map.mp this
    have : j = i := by omega
    subst this
    exact (mem_setN hn).mp hj
end DL
namespace DL
open PySem PySem.Spec PyProof.Rows L2
def CMade (b : Book) (hp : Heap') (fs : Str → List Nat) (z : Str) (m : Nat) : Prop := ∃ p, sub p m = true ∧ Jnd (Tk b (fun t q => q ∈ fs t) z) p ∧ enough b z (wt hp p) (wt hp m) = true
structure Grw (G : Gx) (h0 h : Hv) : Prop where
  sub : Sub h0 h
  bz : ∀ c, h c = some .busy → h0 c = some .busy
  tb : Tbs G.Ts h
theorem Grw.new {G : Gx} {h0 h : Hv} {p : Addr} {o : Ob} (g : Grw G h0 h) (e : h p = none) (nb : o ≠ .busy) (nt : ∀ q, o ≠ .tab q) : Grw G h0 (put h p o) :=
  ⟨g.sub.trans (Sub.put e), fun c hc => by
    by_cases z : c = p
    · subst z; rw [put_same] at hc; exact absurd (Option.some.inj hc) nb
    · rw [put_ne z] at hc; exact g.bz c hc, g.tb.put e nt⟩
theorem Grw.write {G : Gx} {h0 h : Hv} {p : Addr} {o u : Ob} (g : Grw G h0 h) (e0 : h0 p = none) (e : h p = some u) (nu : ∀ q, u ≠ .tab q) (nb : o ≠ .busy) (nt : ∀ q, o ≠ .tab q) : Grw G h0 (put h p o) :=
  ⟨fun c w hc => by rw [put_ne (fun z => by rw [z, e0] at hc; cases hc)]; exact g.sub c w hc, fun c hc => by
    by_cases z : c = p
    · subst z; rw [put_same] at hc; exact absurd (Option.some.inj hc) nb
    · rw [put_ne z] at hc; exact g.bz c hc, g.tb.write e nu nt⟩
end DL
namespace DL
open PySem PySem.Spec PyProof.Rows L2
def DV (h : Hv) (d : Addr) (kvs : List (Key × Val)) : Prop := h d = some (.dK kvs) ∨ ∃ o xs, h d = some (.dF o xs kvs)
structure FndAt (h : Hv) (d : Addr) (la : Str → Addr) (b : Book) (fs : Str → List Nat) : Prop where
  d : DV h d (refD b la)
  l : ∀ z ∈ b.names, h (la z) = some (.lst ((fs z).map encS))
  nl : ∀ z ∈ b.names, ∀ y ∈ b.names, z ≠ y → la z ≠ la y
  s : ∀ z ∈ b.names, Small (fs z)
  z : ∀ z ∈ b.names, ∀ n ∈ fs z, n ≠ 0
end DL
namespace DL
open PySem PySem.Spec PyProof.Rows L2
def den_set_of : SD := (sRet (dCB fTuple (aCons (dLc (dRange1 (aCons (dC (.int 8)) aNil)) (.nm 1) (dTruth (dBin fBand (dBin fShr (dVar 0) (dVar 1)) (dC (.int 1)))) (dVar 1) [1]) aNil)))
def den_parts_of : SD := (sSeq (sPar [1, 2] (aCons (dLstH aNil) (aCons (dVar 0) aNil))) (sSeq (sWhile (dTruth (dVar 2)) (sSeq (sExpr (dBM "list" fAppend (dVar 1) (aCons (dVar 2) aNil))) (sSet 2 (dBin fBand (dBin fSub (dVar 2) (dC (.int 1))) (dVar 0))))) (sRet (dVar 1))))
end DL
namespace DL
open PySem PySem.Spec PyProof.Rows L2
def den_look_land : SD := (sIf (dOr (dNot (dTruth (dCB fIsi (aCons (dVar 1) (aCons (dC (.ty "str")) aNil))))) (dTest (dBin fNotIn (dVar 1) (dCall 1 S_names_of (aCons (dVar 0) aNil))))) (sRaise "NoLand") sNext)
end DL
namespace DL
open PySem PySem.Spec PyProof.Rows L2
theorem flats_str {ns : List Str} : (ns.map Val.str).all flatA = true := by
  rw [List.all_map, List.all_eq_true]; intro x _; rfl
theorem bo_look_land (N : List Str) (hN : N.length = 2) : ∀ as h Q E, as.length = 2 → S_look_land as h Q E → den_look_land (startA N as) h (endsR Q) (RX E) := by
  rintro as h Q E - ⟨b, v, rfl, hl, q⟩
  unfold den_look_land
  simp only [startA, hN]
  simp only [sSet, sFor, sIf, sRet, sExpr, sPar, sAsg, sSeq, sNext, sAug, dIt, dTup, dLst, dLstH, dCB, dCall, dCallK, dBin, dUn, dTest, dChain, dIfE, aCons, aNil, dVar, dC, dTruth, dNot, dAnd, dOr, vAnd, vOr, vNot, dBM, dSl, dRev, oSome, oNone]
  rcases q with ⟨z, rfl, hz, q⟩ | ⟨⟨f, i⟩, q⟩
  · have e : inA (.str z) (b.names.map .str) = true := by rw [inA_str]; exact decide_eq_true hz
    simp [isT, tyN]
    refine ⟨b, rfl, hl, ?_⟩
    simp [flats_str, e]
    exact ⟨h, Lss.refl h, q⟩
  · have q : RX E "NoLand" none [some (encB b), some v] h := ⟨h, Lss.refl h, q⟩
    cases v <;> first | (cases f; done) | skip
    · simp [isT, tyN]; exact q
    · simp [isT, tyN]; exact q
    · simp [isT, tyN]; exact q
    · simp [isT, tyN]
      refine ⟨b, rfl, hl, ?_⟩
      simp [flats_str, i]
      exact q
theorem Tbs.only {Ts : List (Addr × Str)} {t r : Addr} {h h' : Hv} (x : Tbs Ts h) (nt : ∀ q, h t ≠ some (.tab q)) (nr : ∀ q, h r ≠ some (.tab q)) (T' : Town t r h') (on : Only t r h h') : Tbs Ts h' := by
  obtain ⟨c', _, e1'⟩ := T'.tc
  obtain ⟨rs', e2', _⟩ := T'.rc
  refine ⟨fun p hp => ?_, fun b q' e => ?_⟩
  · have := x.has p hp
    rw [on p.1 (fun z => nt p.2 (by rw [← z]; exact this)) (fun z => nr p.2 (by rw [← z]; exact this))]; exact this
  · refine x.all b q' ?_
    rw [← on b (fun z => by rw [z, e1'] at e; cases e) (fun z => by rw [z, e2'] at e; cases e)]; exact e
theorem town_nt {t r : Addr} {h : Hv} (T : Town t r h) : (∀ q, h t ≠ some (.tab q)) ∧ ∀ q, h r ≠ some (.tab q) := by
  obtain ⟨c, _, e1⟩ := T.tc
  obtain ⟨rs, e2, _⟩ := T.rc
  exact ⟨fun q z => (by rw [e1] at z; cases z), fun q z => (by rw [e2] at z; cases z)⟩
theorem Tbs.town {Ts : List (Addr × Str)} {t r : Addr} {h h' : Hv} (x : Tbs Ts h) (T : Town t r h) (T' : Town t r h') (on : Only t r h h') : Tbs Ts h' := x.only (town_nt T).1 (town_nt T).2 T' on
theorem Tbs.begin {Ts : List (Addr × Str)} {t r : Addr} {h h' : Hv} (x : Tbs Ts h) (nt : h t = none) (nr : h r = none) (T' : Town t r h') (on : Only t r h h') : Tbs Ts h' := x.only (fun q z => by rw [nt] at z; cases z) (fun q z => by rw [nr] at z; cases z) T' on
end DL
namespace DL
open PySem PySem.Spec PyProof.Rows L2
end DL
namespace DL
open PySem PySem.Spec PyProof.Rows L2
theorem dats_ints (xs : List Int) : dats (xs.map Val.int) = some (xs.map PyData.int) := by
  induction xs with
  | nil => rfl
  | cons x xs ih => rw [List.map_cons, dats, dat, ih]; rfl
theorem eqvAll_ints : ∀ xs ys : List Int, PyData.eqvAll (xs.map PyData.int) (ys.map PyData.int) = decide (xs = ys)
  | [], [] => rfl
  | [], y :: ys => rfl
  | x :: xs, [] => rfl
  | x :: xs, y :: ys => by
    rw [List.map_cons, List.map_cons, PyData.eqvAll, eqvAll_ints xs ys, PyData.eqv, Bool.eq_iff_iff]
    simp
theorem eqD_ints (xs ys : List Int) : eqD (.tup (xs.map .int)) (.tup (ys.map .int)) = decide (xs = ys) := by
  unfold eqD
  rw [dat, dat, dats_ints, dats_ints]
  exact eqvAll_ints xs ys
theorem okN_ints {xs : List Int} (h : xs.length ≤ 1000) (d : Nat) : okN (d + 1) (.tup (xs.map .int)) = true := by
  rw [okN_tup]
  refine ⟨fun v hv => ?_, by rw [List.length_map]; exact h⟩
  obtain ⟨n, -, rfl⟩ := List.mem_map.mp hv
  cases d <;> rfl
theorem sum_perm {xs ys : List Int} (h : xs.Perm ys) (f : Int → Int) : (xs.map f).sum = (ys.map f).sum := by
  induction h with
  | nil => rfl
  | cons x _ ih => rw [List.map_cons, List.map_cons, List.sum_cons, List.sum_cons, ih]
  | swap x y l => simp only [List.map_cons, List.sum_cons]; omega
  | trans _ _ i j => exact i.trans j
mutual
theorem things_pos {names : List Str} : ∀ t : Tree, t.okT names → 1 ≤ t.things.length
  | .leaf n, _ => by rw [Tree.things]; exact Nat.le_refl _
  | .node z ts, ok => by
    rw [Tree.okT] at ok
    rw [Tree.things]
    have := thingsTs_pos ts ok.2.2
    have : 1 ≤ ts.length := List.length_pos_iff.mpr ok.2.1
    omega
theorem thingsTs_pos {names : List Str} : ∀ ts : List Tree, okTs names ts → ts.length ≤ (thingsTs ts).length
  | [], _ => Nat.zero_le _
  | t :: ts, ok => by
    rw [okTs] at ok
    rw [thingsTs, List.length_cons, List.length_append]
    have := things_pos t ok.1
    have := thingsTs_pos ts ok.2
    omega
end
mutual
theorem okN_encT {names : List Str} (nz : ∀ z ∈ names, okN 0 (.str z) = true) : ∀ t : Tree, t.okT names → t.things.length ≤ 1000 → okN (2 * t.ht) t.enc = true
  | .leaf n, _, _ => rfl
  | .node z ts, ok, hl => by
    rw [Tree.okT] at ok
    rw [Tree.things] at hl
    have wl := thingsTs_pos ts ok.2.2
    rw [enc_node, Tree.ht, show 2 * (htTs ts + 1) = (2 * htTs ts + 1) + 1 by omega, okN_tup]
    refine ⟨fun v hv => ?_, (by decide : 2 ≤ 1000)⟩
    rcases List.mem_cons.mp hv with e | e
    · rw [e]; exact okN_le (nz z ok.1) (Nat.zero_le _)
    · rw [List.mem_singleton.mp e, okN_tup]
      refine ⟨fun v hv => ?_, by rw [List.length_map]; omega⟩
      obtain ⟨t, ht, rfl⟩ := List.mem_map.mp hv
      exact okN_le (okN_encTs nz ts ok.2.2 hl t ht) (by have := htTs_mem ht; omega)
theorem okN_encTs {names : List Str} (nz : ∀ z ∈ names, okN 0 (.str z) = true) : ∀ ts : List Tree, okTs names ts → (thingsTs ts).length ≤ 1000 → ∀ t ∈ ts, okN (2 * t.ht) t.enc = true
  | [], _, _, t, h => by cases h
  | u :: ts, ok, hl, t, h => by
    rw [okTs] at ok
    rw [thingsTs, List.length_append] at hl
    rcases List.mem_cons.mp h with e | e
    · rw [e]; exact okN_encT nz u ok.1 (by omega)
    · exact okN_encTs nz ts ok.2 (by omega) t e
end
mutual
theorem size_eq : ∀ t : Tree, t.size = t.things.length + t.lands.length
  | .leaf n => by rw [Tree.size, Tree.things, Tree.lands]; rfl
  | .node z ts => by rw [Tree.size, Tree.things, Tree.lands, sizeTs_eq ts, List.length_cons]; omega
theorem sizeTs_eq : ∀ ts : List Tree, sizeTs ts = (thingsTs ts).length + (landsTs ts).length
  | [] => by rw [sizeTs, thingsTs, landsTs]; rfl
  | t :: ts => by rw [sizeTs, thingsTs, landsTs, List.length_append, List.length_append, size_eq t, sizeTs_eq ts]; omega
end
end DL
namespace DL
open PySem PySem.Spec PyProof.Rows L2
end DL
namespace DL
open PySem PySem.Spec PyProof.Rows L2
theorem Drawn.nz {b : Book} (d : Drawn b) : ∀ z ∈ b.names, okN 0 (.str z) = true := fun z hz => by
  have := d.short z hz
  rcases List.mem_cons.mp this with e | this
  · rw [e]; decide +kernel
  rcases List.mem_cons.mp this with e | this
  · rw [e]; decide +kernel
  rw [List.mem_singleton.mp this]; decide +kernel
end DL
namespace DL
open PySem PySem.Spec PyProof.Rows L2
end DL
namespace DL
open PySem PySem.Spec PyProof.Rows L2
theorem bo_set_of (N : List Str) (hN : N.length = 2) : ∀ as h Q E, as.length = 1 → S_set_of as h Q E → den_set_of (startA N as) h (endsR Q) (RX E) := by
  rintro as h Q E - ⟨n, rfl, q⟩
  have q := RT.same q
  unfold den_set_of
  simp only [startA, hN]
  show dCB fTuple _ _ _ _ _
  simp only [dCB, aCons, aNil]
  refine lc_filtT (ok := fun _ => True) (List.range 8) (fun (i : Nat) => .int (0 + (i : Nat))) (fun i => n.testBit i) (fun i => .int ((i : Nat) : Int)) (fun R r => ?_) (fun _ _ => trivial) (by rw [sizeLine_eq]; decide) (fun i hi => ⟨_, rfl, fun h' Q' _ q' => ?_, fun _ h' Q' _ q' => ?_⟩) ?_
  · exact ⟨by decide, by decide, r⟩
  · simp only [sSet, sFor, sIf, sRet, sExpr, sPar, sAsg, sSeq, sNext, sAug, dIt, dTup, dLst, dLstH, dCB, dCall, dCallK, dBin, dUn, dTest, dChain, dIfE, aCons, aNil, dVar, dC, dTruth, dNot, dAnd, dOr, vAnd, vOr, vNot, dBM, dSl, dRev, oSome, oNone]
    simp only [wipeA, List.set, List.getElem?_cons_zero, List.getElem?_cons_succ]
    refine ⟨by omega, ?_⟩
    have e : Builtin.bitAnd ((n : Int) / 2 ^ ((0 : Int) + ((i : Nat) : Int)).toNat) 1 = ((n / 2 ^ i % 2 : Nat) : Int) := by
      rw [bitAnd_m1]
      have : ((0 : Int) + ((i : Nat) : Int)).toNat = i := by omega
      rw [this]
      push_cast
      rfl
    show Q' (Builtin.bitAnd ((n : Int) / 2 ^ ((0 : Int) + ((i : Nat) : Int)).toNat) 1 != 0) h'
    rw [e]
    have e2 : (((n / 2 ^ i % 2 : Nat) : Int) != 0) = n.testBit i := by
      rw [Nat.testBit_eq_decide_div_mod_eq]
      have : n / 2 ^ i % 2 < 2 := Nat.mod_lt _ (by decide)
      rcases Nat.lt_or_ge (n / 2 ^ i % 2) 1 with h0 | h1
      · have : n / 2 ^ i % 2 = 0 := by omega
        rw [this]; rfl
      · have : n / 2 ^ i % 2 = 1 := by omega
        rw [this]; rfl
    rw [e2]
    exact q'
  · simp only [sSet, sFor, sIf, sRet, sExpr, sPar, sAsg, sSeq, sNext, sAug, dIt, dTup, dLst, dLstH, dCB, dCall, dCallK, dBin, dUn, dTest, dChain, dIfE, aCons, aNil, dVar, dC, dTruth, dNot, dAnd, dOr, vAnd, vOr, vNot, dBM, dSl, dRev, oSome, oNone]
    simp only [wipeA, List.set, List.getElem?_cons_zero, List.getElem?_cons_succ]
    exact Qv q' (by congr 1; omega)
  · show fTuple [.lst _] h _
    simp only [fTuple, seqOf]
    refine Qv q ?_
    unfold encS setI setN
    rw [List.map_map]
    rfl
theorem goParts_len (n : Nat) : ∀ k p, (goParts n k p).length ≤ k
  | 0, _ => Nat.le_refl _
  | k + 1, p => by
    unfold goParts
    split
    · simp
    · simp; exact goParts_len n k _
theorem nextP_lt {n p : Nat} (h : p ≠ 0) : nextP n p < p := by
  unfold nextP
  have : (p - 1) &&& n ≤ p - 1 := Nat.and_le_left
  omega
theorem goParts_more {n : Nat} : ∀ {k p}, p ≤ k → goParts n (k + 1) p = goParts n k p
  | 0, p, h => by
    have : p = 0 := by omega
    subst this
    simp [goParts]
  | k + 1, p, h => by
    rw [goParts]
    conv => rhs; rw [goParts]
    split
    · rfl
    · rename_i p0
      rw [goParts_more (by have := nextP_lt (n := n) p0; omega)]
theorem bo_parts_of (N : List Str) (hN : N.length = 3) : ∀ as h Q E, as.length = 1 → S_parts_of as h Q E → den_parts_of (startA N as) h (endsR Q) (RX E) := by
  rintro as h Q E - ⟨n, rfl, hn, q⟩
  unfold den_parts_of
  simp only [startA, hN]
  refine seq_o fun K hK => ?_
  simp only [sSet, sFor, sIf, sRet, sExpr, sPar, sAsg, sSeq, sNext, sAug, dIt, dTup, dLst, dLstH, dCB, dCall, dCallK, dBin, dUn, dTest, dChain, dIfE, aCons, aNil, dVar, dC, dTruth, dNot, dAnd, dOr, vAnd, vOr, vNot, dBM, dSl, dRev, oSome, oNone]
  simp
  intro pf hpf
  subst hK
  refine seq_o fun K hK => ?_
  refine while_of (fun k ρ h' => ∃ (done : List Nat) (p : Nat), k = p ∧ p < 256 ∧ done ++ goParts n 256 p = partsN n ∧ ρ = [some (.int (n : Int)), some (.ref pf), some (.int (p : Int))] ∧ h' = put h pf (.lst (done.map fun (p : Nat) => .int (p : Int)))) (n := n) ⟨[], n, rfl, hn, by rw [List.nil_append]; exact goParts_eq hn, rfl, rfl⟩ ?_
  rintro k ρ h' ⟨done, p, rfl, hp, e, rfl, rfl⟩ Nx hNx
  simp only [sSet, sFor, sIf, sRet, sExpr, sPar, sAsg, sSeq, sNext, sAug, dIt, dTup, dLst, dLstH, dCB, dCall, dCallK, dBin, dUn, dTest, dChain, dIfE, aCons, aNil, dVar, dC, dTruth, dNot, dAnd, dOr, vAnd, vOr, vNot, dBM, dSl, dRev, oSome, oNone]
  simp
  by_cases p0 : k = 0
  · subst p0
    simp
    subst hK
    have e' : done = partsN n := by rw [← e]; simp [goParts]
    subst e'
    simp only [sSet, sFor, sIf, sRet, sExpr, sPar, sAsg, sSeq, sNext, sAug, dIt, dTup, dLst, dLstH, dCB, dCall, dCallK, dBin, dUn, dTest, dChain, dIfE, aCons, aNil, dVar, dC, dTruth, dNot, dAnd, dOr, vAnd, vOr, vNot, dBM, dSl, dRev, oSome, oNone]
    simp
    exact RT.frz (Lss.put hpf (by simp)) put_same hpf q
  · have hk : ((k : Int) != 0) = true := by simp; exact p0
    have hkl : k = (k - 1) + 1 := by omega
    simp [p0]
    refine ⟨by unfold tyA; dsimp only; rw [put_same], ?_⟩
    unfold fAppend
    simp only [put_same]
    have ed : (done ++ [k]) ++ goParts n 256 (nextP n k) = partsN n := by
      rw [← e]
      conv => rhs; rw [show (256 : Nat) = 255 + 1 from rfl, goParts]
      rw [if_neg p0]
      rw [goParts_more (k := 255) (by have := nextP_lt (n := n) p0; omega)]
      simp
    have dl : done.length < 256 := by
      have := congrArg List.length e
      rw [List.length_append] at this
      have l2 : (partsN n).length ≤ 256 := by rw [← goParts_eq hn]; exact goParts_len n 256 n
      have l3 : 1 ≤ (goParts n 256 k).length := by
        rw [show (256 : Nat) = 255 + 1 from rfl, goParts, if_neg p0]; simp
      omega
    refine ⟨by rw [List.length_map, sizeLine_eq]; omega, ?_⟩
    rw [put_put]
    have eb : Builtin.bitAnd ((k : Int) - 1) (n : Int) = ((nextP n k : Nat) : Int) := by
      have : (k : Int) - 1 = ((k - 1 : Nat) : Int) := by omega
      rw [this, band]; rfl
    rw [eb]
    refine hNx (nextP n k) _ _ (nextP_lt p0) ⟨done ++ [k], nextP n k, rfl, by have := nextP_lt (n := n) p0; omega, ed, rfl, ?_⟩
    rw [List.map_append]; rfl
end DL
namespace DL
open PySem PySem.Spec PyProof.Rows L2
def EvE (ρ : Sl) (h : Hv) (E : PX) (d : ED) (v : Val) : Prop := ∀ Q : PV, Q v h → d ρ h Q E
def EvT (ρ : Sl) (h : Hv) (E : PX) (d : TD) (k : Bool) : Prop := ∀ Q : Bool → Hv → Prop, Q k h → d ρ h Q E
def EvA (ρ : Sl) (h : Hv) (E : PX) (d : AD) (vs : List Val) : Prop := ∀ Q : List Val → Hv → Prop, Q vs h → d ρ h Q E
def EvI (ρ : Sl) (h : Hv) (E : PX) (d : ID) (it : Itr) : Prop := ∀ Q : Itr → Hv → Prop, Q it h → d ρ h Q E
def EvF (h : Hv) (f : F2) (v w u : Val) : Prop := ∀ Q : PV, Q u h → f v w h Q
def EvC (h : Hv) (f : FA) (vs : List Val) (u : Val) : Prop := ∀ Q : PV, Q u h → f vs h Q
section
variable {ρ : Sl} {h : Hv} {E : PX} {d da db dc : ED} {ta tb : TD} {aa : AD} {v w u : Val} {k l : Bool} {vs : List Val}
theorem EvE.cast (a : EvE ρ h E d v) (e : v = w) : EvE ρ h E d w := e ▸ a
theorem EvT.cast (a : EvT ρ h E ta k) (e : k = l) : EvT ρ h E ta l := e ▸ a
theorem ev_var {i : Nat} (e : ρ[i]? = some (some v) := by rfl) : EvE ρ h E (dVar i) v := fun Q q => by
  show match ρ[i]? with | some (some v) => Q v h | _ => False
  rw [e]; exact q
theorem ev_c : EvE ρ h E (dC v) v := fun Q q => q
theorem ev_bin {f : F2} (ha : EvE ρ h E da v) (hb : EvE ρ h E db w) (hf : EvF h f v w u) : EvE ρ h E (dBin f da db) u := fun Q q => ha _ (hb _ (hf _ q))
theorem evt_test (ha : EvE ρ h E da (.bl k)) : EvT ρ h E (dTest da) k := fun Q q => ha _ q
theorem evt_truth (ha : EvE ρ h E da v) (e : truA v h = some k) : EvT ρ h E (dTruth da) k := fun Q q => ha _ (by
  show match truA v h with | some k => Q k h | none => False
  rw [e]; exact q)
theorem evt_truthB (ha : EvE ρ h E da (.bl k)) : EvT ρ h E (dTruth da) k := evt_truth ha rfl
theorem evt_truthN {n : Nat} (ha : EvE ρ h E da (.int (n : Int))) : EvT ρ h E (dTruth da) (decide (n ≠ 0)) := evt_truth ha (by
  show some (((n : Nat) : Int) != 0) = _
  by_cases e : n = 0
  · subst e; rfl
  · simp [e])
theorem evt_not (ha : EvT ρ h E ta k) : EvT ρ h E (dNot ta) (!k) := fun Q q => ha _ q
theorem evt_and (ha : EvT ρ h E ta k) (hb : k = true → EvT ρ h E tb l) : EvT ρ h E (dAnd ta tb) (k && l) := fun Q q => ha _ (by
  show if k = true then tb ρ h Q E else Q false h
  cases k with
  | false => rw [if_neg Bool.false_ne_true]; exact q
  | true => rw [if_pos rfl]; exact hb rfl Q q)
theorem evt_or (ha : EvT ρ h E ta k) (hb : k = false → EvT ρ h E tb l) : EvT ρ h E (dOr ta tb) (k || l) := fun Q q => ha _ (by
  show if k = true then Q true h else tb ρ h Q E
  cases k with
  | true => rw [if_pos rfl]; exact q
  | false => rw [if_neg Bool.false_ne_true]; exact hb rfl Q q)
theorem ev_if (ht : EvT ρ h E ta k) (ha : k = true → EvE ρ h E da v) (hb : k = false → EvE ρ h E db v) : EvE ρ h E (dIfE ta da db) v := fun Q q => ht _ (by
  show if k = true then da ρ h Q E else db ρ h Q E
  cases k with
  | true => rw [if_pos rfl]; exact ha rfl Q q
  | false => rw [if_neg Bool.false_ne_true]; exact hb rfl Q q)
theorem ev_vAnd (ha : EvE ρ h E da (.bl k)) (hb : k = true → EvE ρ h E db (.bl l)) : EvE ρ h E (vAnd da db) (.bl (k && l)) := fun Q q => ha _ (by
  show if k = true then db ρ h Q E else Q (.bl k) h
  cases k with
  | false => rw [if_neg Bool.false_ne_true]; exact q
  | true => rw [if_pos rfl]; exact hb rfl Q q)
theorem eva_nil : EvA ρ h E aNil [] := fun Q q => q
theorem eva_cons (ha : EvE ρ h E da v) (hb : EvA ρ h E aa vs) : EvA ρ h E (aCons da aa) (v :: vs) := fun Q q => ha _ (hb _ q)
theorem eva1 (ha : EvE ρ h E da v) : EvA ρ h E (aCons da aNil) [v] := eva_cons ha eva_nil
theorem eva2 (ha : EvE ρ h E da v) (hb : EvE ρ h E db w) : EvA ρ h E (aCons da (aCons db aNil)) [v, w] := eva_cons ha (eva1 hb)
theorem ev_tup (ha : EvA ρ h E aa vs) (hl : vs.length ≤ sizeLine) : EvE ρ h E (dTup aa) (.tup vs) := fun Q q => ha _ ⟨hl, q⟩
theorem ev_lst (ha : EvA ρ h E aa vs) (hl : vs.length ≤ sizeLine) : EvE ρ h E (dLst aa) (.lst vs) := fun Q q => ha _ ⟨hl, q⟩
theorem ev_cb {f : FA} (ha : EvA ρ h E aa vs) (hf : EvC h f vs u) : EvE ρ h E (dCB f aa) u := fun Q q => ha _ (hf _ q)
theorem ev_call {n : Nat} {fs : SpF} (ha : EvA ρ h E aa vs) (hn : vs.length = n) (hf : ∀ Q : PV, Q u h → fs vs h Q (fun nm pl h' => E nm pl ρ h')) : EvE ρ h E (dCall n fs aa) u := fun Q q => ha _ ⟨hn, hf _ q⟩
theorem ev_dget {o : Val} (ha : EvE ρ h E da v) (hb : EvE ρ h E db w) (e : dgetA v w h = some (some o)) : EvE ρ h E (dDGet da db) o := fun Q q => ha _ (hb _ (by
  show match dgetA v w h with | some (some u) => Q u h | _ => False
  rw [e]; exact q))
theorem ev_fld {C a : Addr} {f : Str} {fs : List (Str × Val)} (ha : EvE ρ h E da (.ref a)) (e : h a = some (.ins C fs)) (ef : fs.lookup f = some u) : EvE ρ h E (dFld C f da) u := fun Q q => ha _ (by
  show match h a with | some (.ins C' fs) => C' = C ∧ (match fs.lookup f with | some u => Q u h | none => False) | _ => False
  rw [e]
  refine ⟨rfl, ?_⟩
  rw [ef]; exact q)
theorem evi_it {it : Itr} (ha : EvE ρ h E da v) (e : iterOf v h = some it) : EvI ρ h E (dIt da) it := fun Q q => ha _ (by
  show match iterOf v h with | some it => Q it h | none => False
  rw [e]; exact q)
theorem evi_range1 {n : Nat} (ha : EvE ρ h E da (.int (n : Int))) (hn : n ≤ 1000000) : EvI ρ h E (dRange1 (aCons da aNil)) ⟨(List.range n).map fun (i : Nat) => .int (0 + (i : Nat)), fun _ => True⟩ := fun Q q => (eva1 ha) _ (by
  show -(2 ^ 62) ≤ (n : Int) ∧ (n : Int) < 2 ^ 62 ∧ Q ⟨(List.range ((n : Nat) : Int).toNat).map fun (i : Nat) => .int (0 + (i : Nat)), fun _ => True⟩ h
  refine ⟨by omega, by omega, ?_⟩
  have : ((n : Nat) : Int).toNat = n := by omega
  rw [this]; exact q)
variable {D : AE} {s1 s2 : SD}
theorem s_seq (q : s1 ρ h { D with nx := fun ρ h => s2 ρ h D E } E) : sSeq s1 s2 ρ h D E := q
theorem s_set {i : Nat} (ha : EvE ρ h E da v) (q : D.nx (ρ.set i (some v)) h) : sSet i da ρ h D E := ha _ q
theorem ss_set {i : Nat} (ha : EvE ρ h E da v) (q : s2 (ρ.set i (some v)) h D E) : sSeq (sSet i da) s2 ρ h D E := ha _ q
theorem ss_par2 {i j : Nat} (ha : EvA ρ h E aa [v, w]) (q : s2 ((ρ.set i (some v)).set j (some w)) h D E) : sSeq (sPar [i, j] aa) s2 ρ h D E := ha _ q
theorem s_if (ht : EvT ρ h E ta k) (q1 : k = true → s1 ρ h D E) (q2 : k = false → s2 ρ h D E) : sIf ta s1 s2 ρ h D E := ht _ (by
  show if k = true then s1 ρ h D E else s2 ρ h D E
  cases k with
  | true => rw [if_pos rfl]; exact q1 rfl
  | false => rw [if_neg Bool.false_ne_true]; exact q2 rfl)
theorem s_ret (ha : EvE ρ h E da v) (q : D.rt v h) : sRet da ρ h D E := ha _ q
theorem s_for {di : ID} {t : Tg} {it : Itr} (hi : EvI ρ h E di it) (q : forL it.ok t s1 it.items ρ h D E) : sFor di t s1 ρ h D E := hi _ q
theorem s_dput {h' : Hv} (hv : EvE ρ h E da v) (hd : EvE ρ h E db w) (hk : EvE ρ h E dc u) (e : dputA w u v h = some h') (q : D.nx ρ h') : sDPut db dc da ρ h D E := hv _ (hd _ (hk _ (by
  show match dputA w u v h with | some h' => D.nx ρ h' | none => False
  rw [e]; exact q)))
theorem ss_if (ht : EvT ρ h E ta k) {s3 : SD} (q1 : k = true → s1 ρ h { D with nx := fun ρ h => s3 ρ h D E } E) (q2 : k = false → s2 ρ h { D with nx := fun ρ h => s3 ρ h D E } E) : sSeq (sIf ta s1 s2) s3 ρ h D E := s_seq (s_if ht q1 q2)
theorem ss_for {di : ID} {t : Tg} {it : Itr} (hi : EvI ρ h E di it) (q : ∀ d', d' = s1 → forL it.ok t d' it.items ρ h { D with nx := fun ρ h => s2 ρ h D E } E) : sSeq (sFor di t s1) s2 ρ h D E := s_seq (s_for hi (q s1 rfl))
theorem so_for {di : ID} {t : Tg} {it : Itr} (hi : EvI ρ h E di it) (q : ∀ d', d' = s1 → forL it.ok t d' it.items ρ h D E) : sFor di t s1 ρ h D E := s_for hi (q s1 rfl)
theorem ev_neg {i : Int} (ha : EvE ρ h E da (.int i)) : EvE ρ h E (dUn fNeg da) (.int (-i)) := fun Q q => ha _ q
theorem s_call {n : Nat} {fs : SpF} (ha : EvA ρ h E aa vs) (hn : vs.length = n) (hf : fs vs h (fun _ h' => D.nx ρ h') (fun nm pl h' => E nm pl ρ h')) : sExpr (dCall n fs aa) ρ h D E := ha _ ⟨hn, hf⟩
theorem e_meth {C a : Addr} {m : Str} {n : Nat} {fs : SpF} {Q : PV} {fl : List (Str × Val)} (ho : EvE ρ h E da (.ref a)) (e : h a = some (.ins C fl)) (nl : fl.lookup m = none) (ha : EvA ρ h E aa vs) (hn : vs.length + 1 = n) (hf : fs (.ref a :: vs) h Q (fun nm pl h' => E nm pl ρ h')) : dMeth C m n fs da aa ρ h Q E := ho _ (by
  show match h a with | some (.ins C' fl) => C' = C ∧ fl.lookup m = none ∧ aa ρ h (fun vs h2 => vs.length + 1 = n ∧ fs (.ref a :: vs) h2 Q (fun nm pl h' => E nm pl ρ h')) E | _ => False
  rw [e]
  exact ⟨rfl, nl, ha _ ⟨hn, hf⟩⟩)
theorem f_band (a b : Nat) : EvF h fBand (.int (a : Int)) (.int (b : Int)) (.int ((a &&& b : Nat) : Int)) := fun Q q => by
  show Q (.int (Builtin.bitAnd (a : Int) (b : Int))) h
  rw [bitAnd_pp (Int.natCast_nonneg a) (Int.natCast_nonneg b)]
  simpa using q
theorem f_add (i j : Int) : EvF h fAdd (.int i) (.int j) (.int (i + j)) := fun Q q => q
theorem f_sub (i j : Int) : EvF h fSub (.int i) (.int j) (.int (i - j)) := fun Q q => q
theorem f_ixL {v : Val} {vs : List Val} {n : Nat} {u : Val} (e : seqOf v h = some vs) (hu : vs[n]? = some u) : EvF h fIx v (.int (n : Int)) u := fun Q q => by
  have hn : n < vs.length := (List.getElem?_eq_some_iff.mp hu).1
  have ea : atI vs (n : Int) = some u := by
    have : ixN vs.length (n : Int) = some n := by unfold ixN; simp; omega
    unfold atI
    rw [this]
    exact hu
  cases v with
  | str z => cases e
  | tup xs => show match seqOf (.tup xs) h with | some vs => (match atI vs (n : Int) with | some u => Q u h | none => False) | none => False; rw [e]; show match atI vs (n : Int) with | some u => Q u h | none => False; rw [ea]; exact q
  | tpo xs => show match seqOf (.tpo xs) h with | some vs => (match atI vs (n : Int) with | some u => Q u h | none => False) | none => False; rw [e]; show match atI vs (n : Int) with | some u => Q u h | none => False; rw [ea]; exact q
  | lst xs => show match seqOf (.lst xs) h with | some vs => (match atI vs (n : Int) with | some u => Q u h | none => False) | none => False; rw [e]; show match atI vs (n : Int) with | some u => Q u h | none => False; rw [ea]; exact q
  | scr xs => show match seqOf (.scr xs) h with | some vs => (match atI vs (n : Int) with | some u => Q u h | none => False) | none => False; rw [e]; show match atI vs (n : Int) with | some u => Q u h | none => False; rw [ea]; exact q
  | ref xs => show match seqOf (.ref xs) h with | some vs => (match atI vs (n : Int) with | some u => Q u h | none => False) | none => False; rw [e]; show match atI vs (n : Int) with | some u => Q u h | none => False; rw [ea]; exact q
  | _ => cases e
theorem c_len {v : Val} {n : Nat} (e : lenA v h = some n) : EvC h fLen [v] (.int (n : Int)) := fun Q q => by
  show match lenA v h with | some n => Q (.int n) h | none => False
  rw [e]; exact q
section
variable {α : Type} {di : ID} {t : Tg} {tt : TD} {te : ED} {vs : List Nat} {ok : Hv → Prop}
theorem ev_lcF (xs : List α) (f : α → Val) (pv : α → Bool) (g : α → Val) (hdi : EvI ρ h E di ⟨xs.map f, ok⟩) (hok : ∀ h', Sub h h' → ok h') (hl : xs.length ≤ sizeLine)
    (he : ∀ x ∈ xs, ∃ ρ', bT t (f x) (wipeA ρ vs) = some ρ' ∧ (∀ h', Sub h h' → EvT ρ' h' EF tt (pv x)) ∧ (pv x = true → ∀ h', Sub h h' → EvE ρ' h' EF te (g x))) : EvE ρ h E (dLc di t tt te vs) (.lst ((xs.filter pv).map g)) := fun Q q =>
  lc_filtT xs f pv g hdi hok hl (fun x hx => let ⟨ρ', e, a, b⟩ := he x hx; ⟨ρ', e, fun h' Q' sb q' => a h' sb Q' q', fun k h' Q' sb q' => b k h' sb Q' q'⟩) q
theorem ev_lc (xs : List α) (f : α → Val) (g : α → Val) (hdi : EvI ρ h E di ⟨xs.map f, ok⟩) (hok : ∀ h', Sub h h' → ok h') (hl : xs.length ≤ sizeLine)
    (he : ∀ x ∈ xs, ∃ ρ', bT t (f x) (wipeA ρ vs) = some ρ' ∧ ∀ h', Sub h h' → EvE ρ' h' EF te (g x)) : EvE ρ h E (dLc di t tTrue te vs) (.lst (xs.map g)) := fun Q q =>
  lc_mapT xs f g hdi hok hl (fun x hx => let ⟨ρ', e, a⟩ := he x hx; ⟨ρ', e, fun h' Q' sb q' => a h' sb Q' q'⟩) q
theorem ev_all (xs : List α) (f : α → Val) (p : α → Bool) (hdi : EvI ρ h E di ⟨xs.map f, ok⟩) (hok : ∀ h', Sub h h' → ok h') (hl : xs.length ≤ sizeLine)
    (he : ∀ x ∈ xs, ∃ ρ', bT t (f x) (wipeA ρ vs) = some ρ' ∧ ∀ h', Sub h h' → EvE ρ' h' EF te (.bl (p x))) : EvE ρ h E (dCB fAll (aCons (dLc di t tTrue te vs) aNil)) (.bl (xs.all p)) := fun Q q =>
  all_lcT xs f p hdi hok hl (fun x hx => let ⟨ρ', e, a⟩ := he x hx; ⟨ρ', e, fun h' Q' sb q' => a h' sb Q' q'⟩) q
theorem ev_sum (xs : List α) (f : α → Val) (p : α → Int) (hdi : EvI ρ h E di ⟨xs.map f, ok⟩) (hok : ∀ h', Sub h h' → ok h') (hl : xs.length ≤ sizeLine)
    (he : ∀ x ∈ xs, ∃ ρ', bT t (f x) (wipeA ρ vs) = some ρ' ∧ ∀ h', Sub h h' → EvE ρ' h' EF te (.int (p x))) : EvE ρ h E (dCB fSum (aCons (dLc di t tTrue te vs) aNil)) (.int (xs.map p).sum) := fun Q q =>
  sum_lcT xs f p hdi hok hl (fun x hx => let ⟨ρ', e, a⟩ := he x hx; ⟨ρ', e, fun h' Q' sb q' => a h' sb Q' q'⟩) q
end
end
end DL
namespace DL
open PySem PySem.Spec PyProof.Rows L2
def insN (xs : List Nat) (n : Nat) : List Nat := if n ∈ xs then xs else xs ++ [n]
theorem mem_insN {xs : List Nat} {n k : Nat} : k ∈ insN xs n ↔ k ∈ xs ∨ k = n := by
  unfold insN
  split
  · rename_i h
    constructor
    · exact .inl
    · rintro (h' | h')
      · exact h'
      · rw [h']; exact h
  · simp
theorem Small.ins {xs : List Nat} {n : Nat} (s : Small xs) (h : n < 256) : Small (insN xs n) := by
  refine ⟨?_, fun k hk => ?_⟩
  · unfold insN
    split
    · exact s.nd
    · rename_i hn
      rw [List.nodup_append]
      exact ⟨s.nd, by simp, fun a ha b hb => by rw [List.mem_singleton.mp hb]; exact fun e => hn (e ▸ ha)⟩
  · rcases mem_insN.mp hk with h' | h'
    · exact s.lt k h'
    · rw [h']; exact h
theorem nodup_le : ∀ (N : Nat) (xs : List Nat), xs.Nodup → (∀ n ∈ xs, n < N) → xs.length ≤ N
  | 0, xs, _, h => by
    cases xs with
    | nil => simp
    | cons x xs => exact absurd (h x List.mem_cons_self) (Nat.not_lt_zero _)
  | N + 1, xs, nd, h => by
    have ih := nodup_le N (xs.erase N) (nd.erase N) fun n hn => by
      have := (nd.mem_erase_iff).mp hn
      have := h n this.2
      omega
    by_cases e : N ∈ xs
    · rw [List.length_erase_of_mem e] at ih; omega
    · rw [List.erase_of_not_mem e] at ih; omega
theorem Small.len {xs : List Nat} (s : Small xs) : xs.length ≤ 256 := nodup_le 256 xs s.nd s.lt
def upS (f : Str → List Nat) (z : Str) (xs : List Nat) : Str → List Nat := fun y => if y = z then xs else f y
theorem upS_same {f : Str → List Nat} {z : Str} {xs : List Nat} : upS f z xs z = xs := by unfold upS; rw [if_pos rfl]
theorem upS_ne {f : Str → List Nat} {z y : Str} {xs : List Nat} (h : y ≠ z) : upS f z xs y = f y := by unfold upS; rw [if_neg h]
section
variable {G : Gx} {h : Hv} {a : Addr} {b : Book} {hp : Heap'} {gs js : Str → List Nat} {A : Ad}
theorem OffT.refl (h : Hv) : OffT b A h h := fun _ _ => rfl
theorem OffT.trans {h1 h2 : Hv} (x : OffT b A h h1) (y : OffT b A h1 h2) : OffT b A h h2 := fun c hc => (y c hc).trans (x c hc)
variable {E : PX} {Q : PV} {ρ : Sl} {i : Nat}
variable {ds dz dn : ED} {h' : Hv}
end
end DL
namespace DL
open PySem PySem.Spec PyProof.Rows L2
theorem map_cons_nat {v : Val} {vs : List Val} {L : List Nat} {f : Nat → Val} (e : v :: vs = L.map f) : ∃ p L', L = p :: L' ∧ v = f p ∧ vs = L'.map f := by
  cases L with
  | nil => cases e
  | cons p L' =>
    rw [List.map_cons] at e
    cases e
    exact ⟨p, L', rfl, rfl, rfl⟩
theorem map_nil_nat {L : List Nat} {f : Nat → Val} (e : [] = L.map f) : L = [] := by
  cases L with
  | nil => rfl
  | cons _ _ => cases e
end DL
namespace DL
open PySem PySem.Spec PyProof.Rows L2
section
variable {G : Gx} {a : Addr} {b : Book} {hp : Heap'} {gs js : Str → List Nat} {A : Ad} {m : Nat}
end
end DL
namespace DL
open PySem PySem.Spec PyProof.Rows L2
theorem heap_at {hp : Heap'} {k : Int} (h0 : 0 ≤ k) (h1 : k < (hp.length : Int)) : (hp.map encR)[k.toNat]? = some (.tup [.int (rawW hp k), encO (rawL hp k)]) := by
  have hk : k.toNat < hp.length := by omega
  rw [List.getElem?_map, List.getElem?_eq_getElem hk]
  simp [encR, rawW, rawL, hk]
theorem f_heap {h : Hv} {hp : Heap'} {k : Int} (h0 : 0 ≤ k) (h1 : k < (hp.length : Int)) : EvF h fIx (encH hp) (.int k) (.tup [.int (rawW hp k), encO (rawL hp k)]) := by
  have : k = ((k.toNat : Nat) : Int) := by omega
  rw [this]
  have e := heap_at h0 h1
  rw [this] at e
  exact f_ixL rfl e
theorem f_ix0 {h : Hv} {v : Val} {vs : List Val} {u : Val} (e : seqOf v h = some vs) (hu : vs[0]? = some u) : EvF h fIx v (.int 0) u := f_ixL (n := 0) e hu
theorem f_ix1 {h : Hv} {v : Val} {vs : List Val} {u : Val} (e : seqOf v h = some vs) (hu : vs[1]? = some u) : EvF h fIx v (.int 1) u := f_ixL (n := 1) e hu
theorem f_eqI {h : Hv} {i j : Int} : EvF h fEq (.int i) (.int j) (.bl (decide (i = j))) := fun Q q => by
  show match scA (.int i) (.int j) with | some b => Q (.bl b) h | none => datEq (.int i) (.int j) h fun b => Q (.bl b) h
  exact q
end DL
namespace DL
open PySem PySem.Spec PyProof.Rows L2
theorem x_fld {ρ : Sl} {h : Hv} {E : PX} {d : ED} {D : AE} {C a : Addr} {f : Str} {v : Val} {fl : List (Str × Val)} (hd : EvE ρ h E d (.ref a)) (e : h a = some (.ins C fl)) (l : fl.length < 1000) (q : D.nx ρ (put h a (.ins C (putFA f v fl)))) :
    d ρ h (fun o h2 => match o with
      | .ref a => (match h2 a with
        | some (.ins C' fs) => C' = C ∧ fs.length < 1000 ∧ D.nx ρ (put h2 a (.ins C (putFA f v fs)))
        | _ => False)
      | _ => False) E := hd _ (by
  show match h a with | some (.ins C' fs) => C' = C ∧ fs.length < 1000 ∧ D.nx ρ (put h a (.ins C (putFA f v fs))) | _ => False
  rw [e]
  exact ⟨rfl, l, q⟩)
theorem ss_fld {ρ : Sl} {h : Hv} {E : PX} {d dv : ED} {D : AE} {s2 : SD} {C a : Addr} {f : Str} {v : Val} {fl : List (Str × Val)} (hv : EvE ρ h E dv v) (hd : EvE ρ h E d (.ref a)) (e : h a = some (.ins C fl)) (l : fl.length < 1000) (q : s2 ρ (put h a (.ins C (putFA f v fl))) D E) : sSeq (sFldA C f d dv) s2 ρ h D E :=
  s_seq (hv _ (x_fld (D := { D with nx := fun ρ h => s2 ρ h D E }) hd e l q))
end DL
namespace DL
open PySem PySem.Spec PyProof.Rows L2
theorem sFlds_ev {ρ : Sl} {h : Hv} {E : PX} {D : AE} {s2 : SD} {C a : Addr} {i : Nat} {fs : List Str} {aa : AD} {vs : List Val} {fl : List (Str × Val)} (ha : EvA ρ h E aa vs) (hl : vs.length = fs.length) (h5 : fs.length ≤ 5) (hi : ρ[i]? = some (some (.ref a))) (e : h a = some (.ins C fl)) (l : fl.length + 5 < 1000) (q : s2 ρ (put h a (.ins C (putFs fl (fs.zip vs)))) D E) : sSeq (sFlds C i fs aa) s2 ρ h D E :=
  s_seq (ha _ ⟨hl, h5, by
    rw [hi]
    show match h a with | some (.ins C' fl) => C' = C ∧ fl.length + 5 < 1000 ∧ s2 ρ (put h a (.ins C (putFs fl (fs.zip vs)))) D E | _ => False
    rw [e]
    exact ⟨rfl, l, q⟩⟩)
def byPop (n : Nat) : List Nat := (List.range' 1 n).mergeSort fun a b => decide ((setI a).length ≤ (setI b).length)
theorem mem_byPop {n k : Nat} : k ∈ byPop n ↔ k ≠ 0 ∧ k < n + 1 := by
  unfold byPop
  rw [List.mem_mergeSort, List.mem_range'_1]
  omega
theorem byPop_nodup (n : Nat) : (byPop n).Nodup := (List.mergeSort_perm _ _).nodup_iff.mpr List.nodup_range'
theorem byPop_up (n : Nat) : (byPop n).Pairwise fun a b => (setI a).length ≤ (setI b).length := by
  have := List.pairwise_mergeSort (le := fun a b : Nat => decide ((setI a).length ≤ (setI b).length)) (fun a b c h h' => by simp at *; omega) (fun a b => by simp; omega) (List.range' 1 n)
  exact this.imp fun h => by simpa using h
def kdI (f : Nat → Int) (v : Val) : PyData := match v with
  | .int i => .int (f i.toNat)
  | _ => .none
theorem sort_nats {ns : List Nat} {f : Nat → Int} : (ns.map fun (n : Nat) => Val.int (n : Int)).mergeSort (PySem.W.dataLe false (kdI f)) = (ns.mergeSort fun a b => decide (f a ≤ f b)).map fun (n : Nat) => Val.int (n : Int) := by
  rw [List.map_mergeSort (s := PySem.W.dataLe false (kdI f))]
  intro a _ b _
  have : ∀ x y : Int, (!PySem.W.dataLt (.int y) (.int x)) = decide (x ≤ y) := fun x y => by
    rw [PySem.W.dataLt_int, PySem.W.not_lt_int]
  show decide (f a ≤ f b) = !PySem.W.dataLt (kdI f (.int (b : Int))) (kdI f (.int (a : Int)))
  unfold kdI
  simp only [Int.toNat_natCast]
  rw [this]
theorem keys_ints {h1 : Hv} {d : ED} {ns : List Nat} {f : Nat → Int} (run : ∀ n ∈ ns, EvE [some (.int ((n : Nat) : Int))] h1 EF d (.int (f n))) : KeysOk h1 d (ns.map fun (n : Nat) => Val.int (n : Int)) (fun v => match v with | .int i => .int (f i.toNat) | _ => .non) (kdI f) := by
  refine ⟨fun w hw => ?_, ?_, ?_, fun w hw => ?_, fun w hw Q' q' => ?_⟩
  · obtain ⟨n, hn, rfl⟩ := List.mem_map.mp hw
    rfl
  · intro d hd d' hd'
    rw [List.map_map] at hd hd'
    obtain ⟨n, _, rfl⟩ := List.mem_map.mp hd
    obtain ⟨n', _, rfl⟩ := List.mem_map.mp hd'
    rfl
  · refine .inr fun d hd => ?_
    rw [List.map_map] at hd
    obtain ⟨n, _, rfl⟩ := List.mem_map.mp hd
    exact ⟨fun z => (nomatch z), fun xs z => (nomatch z)⟩
  · obtain ⟨n, hn, rfl⟩ := List.mem_map.mp hw
    show (PyData.int _).depth ≤ 20
    simp [PyData.depth]
  · obtain ⟨n, hn, rfl⟩ := List.mem_map.mp hw
    refine run n hn Q' ?_
    simpa using q'
theorem s_sortK {Ts : List (Addr × Str)} {P : Addr} {q : Str} {aa : AD} {d : ED} {ρ : Sl} {h : Hv} {E : PX} {v : Val} {ws : List Val} {k : Val → Val} {kd : Val → PyData} (tb : Tbs Ts h) (hin : (P, q) ∈ Ts) (ha : EvA ρ h E aa [v]) (hl : listOf v h = some ws) (ko : KeysOk h d ws k kd) : EvE ρ h E (dSortK Ts P q aa d) (.lst (ws.mergeSort (PySem.W.dataLe false kd))) := fun Q q' =>
  ha _ ⟨tb, hin, ws, k, kd, hl, ko, q'⟩
end DL
namespace DL
open PySem PySem.Spec PyProof.Rows L2
section
variable {K : PySem.W.Frag} {H : Hp} {h : Hv}
theorem RNs.key : ∀ {kvs : List (NestedKey × Val)} {xs : List NE}, RNs K H h kvs xs → KeyE H xs
  | [], xs, r => by rw [show xs = [] from r]; exact fun e he => nomatch he
  | (k, v) :: kvs, xs, r => by
    obtain ⟨p, y, ys, e, hd, r0, r1, r2⟩ := r
    rw [e]
    intro x hx
    rcases List.mem_cons.mp hx with q | q
    · rw [q]; exact ⟨nk_of r0, hd⟩
    · exact RNs.key r2 x q
theorem RNs.val (k : NestedKey) : ∀ {kvs : List (NestedKey × Val)} {xs : List NE}, RNs K H h kvs xs → (valA kvs k = none ∧ valN xs k = none) ∨ ∃ v x, valA kvs k = some v ∧ valN xs k = some x ∧ RV K H h v x
  | [], xs, r => by rw [show xs = [] from r]; exact .inl ⟨rfl, rfl⟩
  | (j, v) :: kvs, xs, r => by
    obtain ⟨p, y, ys, e, hd, r0, r1, r2⟩ := r
    rw [e]
    by_cases q : j = k
    · refine .inr ⟨v, y, ?_, ?_, r1⟩
      · unfold valA; rw [List.find?_cons]; simp [q]
      · unfold valN; rw [List.find?_cons]; simp [q]
    · rcases RNs.val k r2 with ⟨a, b⟩ | ⟨w, x, a, b, c⟩
      · refine .inl ⟨?_, ?_⟩
        · rw [← a]; unfold valA; rw [List.find?_cons]; simp [q]
        · rw [← b]; unfold valN; rw [List.find?_cons]; simp [q]
      · refine .inr ⟨w, x, ?_, ?_, c⟩
        · rw [← a]; unfold valA; rw [List.find?_cons]; simp [q]
        · rw [← b]; unfold valN; rw [List.find?_cons]; simp [q]
theorem RNs.app {k : NestedKey} {b : Addr} {v : Val} {x : V} (hd : k.depth ≤ 8) (rk : RV K H h (nkV k) (.ref b)) (rv : RV K H h v x) : ∀ {kvs : List (NestedKey × Val)} {xs : List NE}, RNs K H h kvs xs → RNs K H h (kvs ++ [(k, v)]) (xs ++ [(k, b, x)])
  | [], xs, r => by rw [show xs = [] from r]; exact ⟨b, x, [], rfl, hd, rk, rv, rfl⟩
  | (j, w) :: kvs, xs, r => by
    obtain ⟨p, y, ys, e, h1, r0, r1, r2⟩ := r
    rw [e]
    exact ⟨p, y, _, rfl, h1, r0, r1, RNs.app hd rk rv r2⟩
theorem RNs.repl {k : NestedKey} {v : Val} {x : V} (rv : RV K H h v x) : ∀ {kvs : List (NestedKey × Val)} {xs : List NE}, RNs K H h kvs xs → RNs K H h (kvs.map fun kv => if kv.1 = k then (kv.1, v) else kv) (xs.map fun e => if e.1 = k then (e.1, e.2.1, x) else e)
  | [], xs, r => by rw [show xs = [] from r]; exact rfl
  | (j, w) :: kvs, xs, r => by
    obtain ⟨p, y, ys, e, h1, r0, r1, r2⟩ := r
    rw [e, List.map_cons, List.map_cons]
    by_cases q : j = k
    · simp only [q, if_true]
      rw [q] at h1 r0
      exact ⟨p, x, _, rfl, h1, r0, rv, RNs.repl rv r2⟩
    · simp only [q, if_false]
      exact ⟨p, y, _, rfl, h1, r0, r1, RNs.repl rv r2⟩
theorem RNs.any (k : NestedKey) : ∀ {kvs : List (NestedKey × Val)} {xs : List NE}, RNs K H h kvs xs → (kvs.any fun kv => decide (kv.1 = k)) = (valN xs k).isSome
  | [], xs, r => by rw [show xs = [] from r]; rfl
  | (j, v) :: kvs, xs, r => by
    obtain ⟨p, y, ys, e, hd, r0, r1, r2⟩ := r
    rw [e, List.any_cons, RNs.any k r2]
    unfold valN
    rw [List.find?_cons]
    by_cases q : j = k <;> simp [q]
theorem RNs.put {k : NestedKey} {b : Addr} {v : Val} {x : V} {kvs : List (NestedKey × Val)} {xs : List NE} (r : RNs K H h kvs xs) (hd : k.depth ≤ 8) (rk : RV K H h (nkV k) (.ref b)) (rv : RV K H h v x) : RNs K H h (putA kvs k v) (putN xs k b x) := by
  unfold putA putN
  rw [r.any k]
  split
  · exact RNs.repl rv r
  · exact RNs.app hd rk rv r
theorem RNs.len : ∀ {kvs : List (NestedKey × Val)} {xs : List NE}, RNs K H h kvs xs → kvs.length = xs.length
  | [], xs, r => by rw [show xs = [] from r]; rfl
  | (j, w) :: kvs, xs, r => by
    obtain ⟨p, y, ys, e, _, _, _, r2⟩ := r
    rw [e, List.length_cons, List.length_cons, RNs.len r2]
end
section
variable {X : Cx} {B : Bs} {o i e f : Expr} {dd di de df : ED} {pos pos' apos cpos : Pos} {w : World}
end
end DL
namespace DL
open PySem PySem.Spec PyProof.Rows L2
end DL
namespace DL
open PySem PySem.Spec PyProof.Rows L2
def SR__law_valued (d : Nat) : SpF := fun as h Q _ => ∃ (b : Book) (hp : Heap') (t : Tree), as = [encB b, encH hp, t.enc] ∧ WFB b ∧ TrOk b hp t ∧ t.ht < d ∧ Q (.tup [.int (t.whole hp), .int (t.cnt b hp), encO (t.land b hp)]) h
def S__law_valued : SpF := SR__law_valued 24
theorem no__law_valued : ∀ as h Q E, SR__law_valued 0 as h Q E → False := fun _ _ _ _ ⟨_, _, _, _, _, _, z, _⟩ => Nat.not_lt_zero _ z
end DL
namespace DL
open PySem PySem.Spec PyProof.Rows L2
def den__law_valued (R : SpF) : SD := (sSeq (sIf (dNot (dTruth (dCB fIsi (aCons (dVar 2) (aCons (dC (.ty "tuple")) aNil))))) (sRet (dTup (aCons (dBin fIx (dBin fIx (dVar 1) (dVar 2)) (dC (.int 0))) (aCons (dBin fIx (dBin fIx (dVar 1) (dVar 2)) (dC (.int 0))) (aCons (dBin fIx (dBin fIx (dVar 1) (dVar 2)) (dC (.int 1))) aNil))))) sNext) (sSeq (sAsg (.tp [(.nm 3), (.nm 4)]) (dTup (aCons (dC (.int 0)) (aCons (dC (.int 0)) aNil)))) (sSeq (sFor (dIt (dBin fIx (dVar 2) (dC (.int 1)))) (.nm 5) (sSeq (sAsg (.tp [(.nm 6), (.nm 7), (.nm 8)]) (dCall 3 R (aCons (dVar 0) (aCons (dVar 1) (aCons (dVar 5) aNil))))) (sSeq (sSet 3 (dBin fAdd (dVar 3) (dVar 6))) (sIf (dAnd (dTest (dBin fNotN (dVar 8) (dC .non))) (dTest (dBin fIn (dVar 8) (dCall 2 S__law_takes (aCons (dVar 0) (aCons (dBin fIx (dVar 2) (dC (.int 0))) aNil)))))) (sSet 4 (dBin fAdd (dVar 4) (dVar 6))) sNext)))) (sRet (dTup (aCons (dVar 3) (aCons (dVar 4) (aCons (dIfE (dTruth (dCall 4 S__law_has_share (aCons (dVar 0) (aCons (dBin fIx (dVar 2) (dC (.int 0))) (aCons (dVar 4) (aCons (dVar 3) aNil)))))) (dBin fIx (dVar 2) (dC (.int 0))) (dC .non)) aNil))))))))
end DL
namespace DL
open PySem PySem.Spec PyProof.Rows L2
theorem ixp0 {x y : Val} {h : Hv} {Q : PV} (q : Q x h) : fIx (.tup [x, y]) (.int 0) h Q := by simpa [atI, ixN] using q
theorem ixp1 {x y : Val} {h : Hv} {Q : PV} (q : Q y h) : fIx (.tup [x, y]) (.int 1) h Q := by simpa [atI, ixN] using q
theorem bo__law_valued (N : List Str) (hN : N.length = 9) (d : Nat) : ∀ as h Q E, as.length = 3 → SR__law_valued (d + 1) as h Q E → den__law_valued (SR__law_valued d) (startA N as) h (endsR Q) (RX E) := by
  rintro as h0 Q E - ⟨b, hp, t, rfl, wf, tk, hd, q⟩
  have q := RT.same q
  have s3 : (3 : Nat) ≤ sizeLine := by decide
  unfold den__law_valued
  simp only [startA, hN]
  refine seq_o fun K hK => ?_
  cases t with
  | leaf n =>
    have rg := tk.rg n (by simp [Tree.things])
    simp only [sSet, sFor, sIf, sRet, sExpr, sPar, sAsg, sSeq, sNext, sAug, dIt, dTup, dLst, dLstH, dCB, dCall, dCallK, dBin, dUn, dTest, dChain, dIfE, aCons, aNil, dVar, dC, dTruth, dNot, dAnd, dOr, vAnd, vOr, vNot, dBM, dSl, dRev, oSome, oNone]
    simp only [Tree.enc, Tree.whole, Tree.cnt, Tree.land] at q ⊢
    simp [-fIx]
    refine ix_heap rg.1 rg.2 (ixp0 (ix_heap rg.1 rg.2 (ixp0 (ix_heap rg.1 rg.2 (ixp1 ?_)))))
    exact ⟨s3, q⟩
  | node z ts =>
    have hts := ht_node hd
    have zn := tk.land
    rw [enc_node]
    simp only [sSet, sFor, sIf, sRet, sExpr, sPar, sAsg, sSeq, sNext, sAug, dIt, dTup, dLst, dLstH, dCB, dCall, dCallK, dBin, dUn, dTest, dChain, dIfE, aCons, aNil, dVar, dC, dTruth, dNot, dAnd, dOr, vAnd, vOr, vNot, dBM, dSl, dRev, oSome, oNone]
    simp
    subst hK
    refine seq_o fun K hK => ?_
    simp only [sSet, sFor, sIf, sRet, sExpr, sPar, sAsg, sSeq, sNext, sAug, dIt, dTup, dLst, dLstH, dCB, dCall, dCallK, dBin, dUn, dTest, dChain, dIfE, aCons, aNil, dVar, dC, dTruth, dNot, dAnd, dOr, vAnd, vOr, vNot, dBM, dSl, dRev, oSome, oNone]
    simp
    refine ⟨by decide, ?_⟩
    subst hK
    refine seq_o fun K hK => ?_
    refine for_o fun dd hdd => ?_
    simp only [sSet, sFor, sIf, sRet, sExpr, sPar, sAsg, sSeq, sNext, sAug, dIt, dTup, dLst, dLstH, dCB, dCall, dCallK, dBin, dUn, dTest, dChain, dIfE, aCons, aNil, dVar, dC, dTruth, dNot, dAnd, dOr, vAnd, vOr, vNot, dBM, dSl, dRev, oSome, oNone]
    simp [atI, ixN]
    subst hdd
    refine for_ind (fun vs ρ h => ∃ (done rest : List Tree) (x5 x6 x7 x8 : Option Val), ts = done ++ rest ∧ vs = rest.map Tree.enc ∧ ρ = [some (encB b), some (encH hp), some (.tup [.str z, .tup (ts.map Tree.enc)]), some (.int (wholeTs hp done)), some (.int (cntTs b hp z done)), x5, x6, x7, x8] ∧ h = h0) ?_ ?_ _ _ _ ⟨[], ts, none, none, none, none, rfl, rfl, rfl, rfl⟩
    · rintro ρ h ⟨done, rest, x5, x6, x7, x8, e1, e2, rfl, rfl⟩
      have : rest = [] := by cases rest with
        | nil => rfl
        | cons _ _ => cases e2
      subst this
      rw [List.append_nil] at e1
      subst e1
      refine ⟨trivial, ?_⟩
      dsimp only
      subst hK
      simp only [sSet, sFor, sIf, sRet, sExpr, sPar, sAsg, sSeq, sNext, sAug, dIt, dTup, dLst, dLstH, dCB, dCall, dCallK, dBin, dUn, dTest, dChain, dIfE, aCons, aNil, dVar, dC, dTruth, dNot, dAnd, dOr, vAnd, vOr, vNot, dBM, dSl, dRev, oSome, oNone]
      simp [atI, ixN]
      refine ⟨b, z, _, _, rfl, wf, zn, ?_⟩
      rw [Tree.whole, Tree.cnt, Tree.land] at q
      cases he : enough b z (cntTs b hp z ts) (wholeTs hp ts) with
      | true => rw [he] at q; simp; exact ⟨s3, q⟩
      | false => rw [he] at q; simp; exact ⟨s3, q⟩
    · rintro v vs ρ h ⟨done, rest, x5, x6, x7, x8, e1, e2, rfl, rfl⟩
      cases rest with
      | nil => cases e2
      | cons t rest =>
        rw [List.map_cons, List.cons.injEq] at e2
        obtain ⟨rfl, rfl⟩ := e2
        have mt : t ∈ ts := by rw [e1]; simp
        refine ⟨trivial, _, rfl, fun N hN => ?_⟩
        refine seq_o fun K hK => ?_
        simp only [sSet, sFor, sIf, sRet, sExpr, sPar, sAsg, sSeq, sNext, sAug, dIt, dTup, dLst, dLstH, dCB, dCall, dCallK, dBin, dUn, dTest, dChain, dIfE, aCons, aNil, dVar, dC, dTruth, dNot, dAnd, dOr, vAnd, vOr, vNot, dBM, dSl, dRev, oSome, oNone]
        simp only [List.set, List.getElem?_cons_zero, List.getElem?_cons_succ]
        refine ⟨rfl, b, hp, t, rfl, wf, tk.mem mt, hts t mt, ?_⟩
        simp
        subst hK
        refine seq_o fun K hK => ?_
        simp only [sSet, sFor, sIf, sRet, sExpr, sPar, sAsg, sSeq, sNext, sAug, dIt, dTup, dLst, dLstH, dCB, dCall, dCallK, dBin, dUn, dTest, dChain, dIfE, aCons, aNil, dVar, dC, dTruth, dNot, dAnd, dOr, vAnd, vOr, vNot, dBM, dSl, dRev, oSome, oNone]
        simp
        subst hK
        simp only [sSet, sFor, sIf, sRet, sExpr, sPar, sAsg, sSeq, sNext, sAug, dIt, dTup, dLst, dLstH, dCB, dCall, dCallK, dBin, dUn, dTest, dChain, dIfE, aCons, aNil, dVar, dC, dTruth, dNot, dAnd, dOr, vAnd, vOr, vNot, dBM, dSl, dRev, oSome, oNone]
        simp
        have ew : wholeTs hp (done ++ [t]) = wholeTs hp done + t.whole hp := by rw [wholeTs_app, wholeTs, wholeTs]; omega
        cases hl : t.land b hp with
        | none =>
          have ec : cntTs b hp z (done ++ [t]) = cntTs b hp z done := by rw [cntTs_app, cntTs, cntTs, hl]; show _ + (0 + 0) = _; omega
          simp [encO]
          refine hN _ _ ⟨done ++ [t], rest, some t.enc, some (.int (t.whole hp)), some (.int (t.cnt b hp)), some .non, by rw [e1]; simp, rfl, ?_, rfl⟩
          rw [ew, ec]
        | some l =>
          simp [encO, atI, ixN]
          refine ⟨b, z, rfl, wf.pl, ?_⟩
          simp [inA_str, flat_strs]
          by_cases hm : l ∈ takesL b z
          · have ec : cntTs b hp z (done ++ [t]) = cntTs b hp z done + t.whole hp := by rw [cntTs_app, cntTs, cntTs, hl]; show _ + ((if l ∈ takesL b z then t.whole hp else 0) + 0) = _; rw [if_pos hm]; omega
            simp [hm]
            refine hN _ _ ⟨done ++ [t], rest, some t.enc, some (.int (t.whole hp)), some (.int (t.cnt b hp)), some (.str l), by rw [e1]; simp, rfl, ?_, rfl⟩
            rw [ew, ec]
          · have ec : cntTs b hp z (done ++ [t]) = cntTs b hp z done := by rw [cntTs_app, cntTs, cntTs, hl]; show _ + ((if l ∈ takesL b z then t.whole hp else 0) + 0) = _; rw [if_neg hm]; omega
            simp [hm]
            refine hN _ _ ⟨done ++ [t], rest, some t.enc, some (.int (t.whole hp)), some (.int (t.cnt b hp)), some (.str l), by rw [e1]; simp, rfl, ?_, rfl⟩
            rw [ew, ec]
end DL
namespace DL
open PySem PySem.Spec PyProof.Rows L2
end DL
namespace DL
open PySem PySem.Spec PyProof.Rows L2
end DL
namespace DL
open PySem PySem.Spec PyProof.Rows L2
end DL
namespace DL
open PySem PySem.Spec PyProof.Rows L2
theorem rgI_nats (n : Nat) : rgI 1 ((n : Int) + 1) = (List.range' 1 n).map fun (k : Nat) => (k : Int) := by
  unfold rgI
  have : ((n : Int) + 1 - 1).toNat = n := by omega
  rw [this]
  refine List.ext_getElem (by simp) fun i h1 h2 => ?_
  simp
end DL
namespace DL
open PySem PySem.Spec PyProof.Rows L2
theorem setI_ne {n : Nat} (hn : n < 256) (n0 : n ≠ 0) : ∃ x r, setI n = x :: r := by
  cases e : setI n with
  | nil => have := bits_set hn; rw [e] at this; exact absurd this.symm n0
  | cons x r => exact ⟨x, r, rfl⟩
end DL
namespace DL
open PySem PySem.Spec PyProof.Rows L2
theorem f_addL {h : Hv} {v w : Val} {xs ys : List Val} (e1 : listOf v h = some xs) (e2 : listOf w h = some ys) (hl : xs.length + ys.length ≤ sizeLine) : EvF h fAdd v w (.lst (xs ++ ys)) := fun Q q => by
  unfold fAdd
  split
  · cases e1
  · cases e1
  · cases e1
  · cases e1
  · cases e1
  · rw [e1, e2]; exact ⟨hl, q⟩
end DL
namespace DL
open PySem PySem.Spec PyProof.Rows L2
end DL
namespace DL
open PySem PySem.Spec PyProof.Rows L2
section
variable {h h' : Hv} {d : Addr} {la : Str → Addr} {b : Book} {fs : Str → List Nat} {ρ : Sl} {E : PX} {dd dz : ED}
theorem DV.sub {kvs : List (Key × Val)} (v : DV h d kvs) (sb : Sub h h') : DV h' d kvs := v.imp (sb d _) fun ⟨o, xs, e⟩ => ⟨o, xs, sb d _ e⟩
end
end DL
namespace DL
open PySem PySem.Spec PyProof.Rows L2
theorem okN_encS (n d : Nat) : okN (d + 1) (encS n) = true := okN_ints (by have := setI_len n; omega) d
structure FB (G : Gx) (h0 h : Hv) (d : Addr) (la : Str → Addr) (b : Book) (fs : Str → List Nat) : Prop where
  f : FndAt h d la b fs
  g : Grw G h0 h
  nd : h0 d = none
  nl : ∀ z ∈ b.names, h0 (la z) = none ∧ la z ≠ d
section
variable {G : Gx} {h0 h : Hv} {d : Addr} {la : Str → Addr} {b : Book} {fs : Str → List Nat} {z : Str} {n : Nat}
theorem FB.app (t : FB G h0 h d la b fs) (hz : z ∈ b.names) (hn : n < 256) (n0 : n ≠ 0) (nf : n ∉ fs z) : FB G h0 (put h (la z) (.lst ((fs z).map encS ++ [encS n]))) d la b (upS fs z (fs z ++ [n])) := by
  refine ⟨⟨?_, fun y hy => ?_, t.f.nl, fun y hy => ?_, fun y hy => ?_⟩, t.g.write (t.nl z hz).1 (t.f.l z hz) (fun _ z => nomatch z) (fun z => nomatch z) (fun _ z => nomatch z), t.nd, t.nl⟩
  · rcases t.f.d with v | ⟨o, xs, v⟩
    · exact .inl (by rw [put_ne (t.nl z hz).2.symm]; exact v)
    · exact .inr ⟨o, xs, by rw [put_ne (t.nl z hz).2.symm]; exact v⟩
  · by_cases e : y = z
    · subst e; rw [put_same, upS_same, List.map_append]; rfl
    · rw [put_ne (t.f.nl y hy z hz e), upS_ne e]; exact t.f.l y hy
  · by_cases e : y = z
    · subst e; rw [upS_same]
      refine ⟨List.nodup_append.mpr ⟨(t.f.s y hy).nd, by simp, fun a ha c hc => ?_⟩, fun k hk => ?_⟩
      · rw [List.mem_singleton.mp hc]; exact fun e => nf (e ▸ ha)
      · rcases List.mem_append.mp hk with hk | hk
        · exact (t.f.s y hy).lt k hk
        · rw [List.mem_singleton.mp hk]; exact hn
    · rw [upS_ne e]; exact t.f.s y hy
  · by_cases e : y = z
    · subst e; rw [upS_same]
      intro k hk
      rcases List.mem_append.mp hk with hk | hk
      · exact t.f.z y hy k hk
      · rw [List.mem_singleton.mp hk]; exact n0
    · rw [upS_ne e]; exact t.f.z y hy
theorem FB.frz (t : FB G h0 h d la b fs) {kvs : List (Key × Val)} (e : h d = some (.dK kvs)) (o : Obj) (xs : List (Key × V)) : FB G h0 (put h d (.dF o xs (refD b la))) d la b fs := by
  refine ⟨⟨.inr ⟨o, xs, put_same⟩, fun y hy => ?_, t.f.nl, t.f.s, t.f.z⟩, t.g.write t.nd e (fun _ z => nomatch z) (fun z => nomatch z) (fun _ z => nomatch z), t.nd, t.nl⟩
  rw [put_ne (t.nl y hy).2]; exact t.f.l y hy
end
end DL
namespace DL
open PySem PySem.Spec PyProof.Rows L2
end DL
namespace DL
open PySem PySem.Spec PyProof.Rows L2
end DL
namespace DL
open PySem PySem.Spec PyProof.Rows L2
section
variable {ρ : Sl} {h : Hv} {E : PX} {aa ab : AD} {vs ws : List Val} {u v : Val} {da : ED} {s2 : SD} {D : AE}
end
theorem e_call {n : Nat} {fs : SpF} {ρ : Sl} {h : Hv} {E : PX} {aa : AD} {vs : List Val} {Q : PV} (ha : EvA ρ h E aa vs) (hn : vs.length = n) (hf : fs vs h Q (fun nm pl h' => E nm pl ρ h')) : dCall n fs aa ρ h Q E := ha _ ⟨hn, hf⟩
theorem x_set {i : Nat} {d : ED} {s2 : SD} {ρ : Sl} {h : Hv} {E : PX} {D : AE} (q : d ρ h (fun v h => s2 (ρ.set i (some v)) h D E) E) : sSeq (sSet i d) s2 ρ h D E := q
theorem Town.sub {t r : Addr} {h h' : Hv} (T : Town t r h) (s : Sub h h') : Town t r h' := by
  obtain ⟨c, c0, e1⟩ := T.tc
  obtain ⟨rs, e2, k⟩ := T.rc
  exact ⟨T.ne, ⟨c, c0, s _ _ e1⟩, rs, s _ _ e2, k⟩
section
variable {ρ : Sl} {h : Hv} {E : PX} {s2 : SD} {D : AE} {ns : List Int} {t r : Addr} {Ts : List (Addr × Str)}
theorem ss_begun {i : Nat} (tb : Tbs Ts h) (q : ∀ t r h', Town t r h' → Tbs Ts h' → s2 (ρ.set i (some (.ref t))) h' D E) : sSeq (sSet i (dCall 0 S__law_begun aNil)) s2 ρ h D E :=
  s_seq (show _ ∧ _ from ⟨rfl, rfl, fun t r h1 ht hr T1 o1 => q t r h1 T1 (tb.begin ht hr T1 o1)⟩)
theorem ss_book {i : Nat} {ds dt : ED} (nl : ns.length ≤ 63) (T : Town t r h) (tb : Tbs Ts h) (hs : EvE ρ h E ds (.scr ns)) (ht : EvE ρ h E dt (.ref t)) (q : ∀ b h', Drawn b → Town t r h' → Tbs Ts h' → Only t r h h' → s2 (ρ.set i (some (encB b))) h' D E) : sSeq (sSet i (dCall 2 S__law_a_book (aCons ds (aCons dt aNil)))) s2 ρ h D E :=
  x_set (e_call (eva2 hs ht) rfl ⟨ns, t, r, rfl, nl, T, fun b h' db T' o' => q b h' db T' (tb.town T T' o') o'⟩)
theorem ss_heap {i : Nat} {ds dt db dm : ED} {b : Book} {most : Int} (nl : ns.length ≤ 63) (m1 : 1 ≤ most) (m8 : most ≤ 8) (bl : b.lands.length ≤ 4) (T : Town t r h) (tb : Tbs Ts h) (hs : EvE ρ h E ds (.scr ns)) (ht : EvE ρ h E dt (.ref t)) (hb : EvE ρ h E db (encB b)) (hm : EvE ρ h E dm (.int most)) (q : ∀ hp h', DrawnH b hp most → Town t r h' → Tbs Ts h' → Only t r h h' → s2 (ρ.set i (some (encH hp))) h' D E) : sSeq (sSet i (dCall 4 S__law_a_heap (aCons ds (aCons dt (aCons db (aCons dm aNil)))))) s2 ρ h D E :=
  x_set (e_call (eva_cons hs (eva_cons ht (eva2 hb hm))) rfl ⟨ns, t, r, b, most, rfl, nl, m1, m8, bl, T, fun b h' db T' o' => q b h' db T' (tb.town T T' o') o'⟩)
theorem e_draw {ds dt dm : ED} {m : Int} {Q : PV} (nl : ns.length ≤ 63) (m0 : 0 < m) (m1 : m < 1073741824) (T : Town t r h) (tb : Tbs Ts h) (hs : EvE ρ h E ds (.scr ns)) (ht : EvE ρ h E dt (.ref t)) (hm : EvE ρ h E dm (.int m)) (q : ∀ n h', 0 ≤ n → n < m → Town t r h' → Tbs Ts h' → Only t r h h' → Q (.int n) h') : dCall 3 S__law_draw (aCons ds (aCons dt (aCons dm aNil))) ρ h Q E :=
  (eva_cons hs (eva2 ht hm)) _ ⟨rfl, ns, t, r, m, rfl, m0, m1, nl, T, fun n h' n0 n1 T' o' => q n h' n0 n1 T' (tb.town T T' o') o'⟩
theorem e_drawName {ds dt db db2 : ED} {b : Book} {Q : PV} (wf : WFB b) (nl : ns.length ≤ 63) (T : Town t r h) (tb : Tbs Ts h) (hs : EvE ρ h E ds (.scr ns)) (ht : EvE ρ h E dt (.ref t)) (hb : EvE ρ h E db (encB b)) (hb2 : EvE ρ h E db2 (encB b)) (q : ∀ z h', z ∈ b.names → Town t r h' → Tbs Ts h' → Only t r h h' → Q (.str z) h') :
    dBin fIx (dBin fIx (dBin fIx db (dC (.int 0))) (dCall 3 S__law_draw (aCons ds (aCons dt (aCons (dCB fLen (aCons (dBin fIx db2 (dC (.int 0))) aNil)) aNil))))) (dC (.int 0)) ρ h Q E := by
  have n4 := wf.n4
  have n1 := wf.n1
  have lb : ∀ {d : ED}, EvE ρ h E d (encB b) → EvE ρ h E (dBin fIx d (dC (.int 0))) (.tup (b.lands.map encL)) := fun hd => ev_bin hd ev_c (f_ix0 rfl rfl)
  show dBin fIx (dBin fIx db (dC (.int 0))) _ ρ h _ E
  refine lb hb _ ?_
  refine e_draw (m := (b.lands.length : Int)) nl (by omega) (by omega) T tb hs ht (ev_cb (eva1 (lb hb2)) (c_len (by simp))) fun n h' n0 n1 T' tb' o' => ?_
  obtain ⟨k, rfl⟩ := Int.eq_ofNat_of_zero_le n0
  have hk : k < b.lands.length := by omega
  refine f_ixL (u := encL b.lands[k]) (vs := b.lands.map encL) rfl (by rw [List.getElem?_map, List.getElem?_eq_getElem hk]; rfl) _ ?_
  exact f_ix0 (v := encL b.lands[k]) (vs := [.str b.lands[k].nm, .int b.lands[k].p, .int b.lands[k].q, .int b.lands[k].pr]) (u := .str b.lands[k].nm) rfl rfl Q (q _ _ (List.mem_map.mpr ⟨_, List.getElem_mem hk, rfl⟩) T' tb' o')
end
theorem drawn_hp {b : Book} {hp : Heap'} {m : Int} (dh : DrawnH b hp m) (hm : m ≤ 8) : HpOk b hp := ⟨by have := dh.nm; omega, dh.fr⟩
theorem zz_odd {b : Book} (db : Drawn b) : odd b (.str "zz") := by
  refine ⟨rfl, ?_⟩
  rw [inA_str]
  obtain ⟨k, k1, k3, e⟩ := db.nm
  rw [decide_eq_false_iff_not, e]
  intro h
  have := List.mem_of_mem_take h
  revert this
  decide
theorem names_len {b : Book} (wf : WFB b) : b.names.length ≤ 4 := by have := wf.n4; unfold Book.names; rw [List.length_map]; exact this
theorem FndAt.only {h h' : Hv} {d : Addr} {la : Str → Addr} {b : Book} {fs : Str → List Nat} {t r : Addr} (f : FndAt h d la b fs) (nd : d ≠ t ∧ d ≠ r) (nl : ∀ z ∈ b.names, la z ≠ t ∧ la z ≠ r) (on : Only t r h h') : FndAt h' d la b fs :=
  ⟨f.d.imp (fun e => (on d nd.1 nd.2).trans e) fun ⟨o, xs, e⟩ => ⟨o, xs, (on d nd.1 nd.2).trans e⟩, fun z hz => (on _ (nl z hz).1 (nl z hz).2).trans (f.l z hz), f.nl, f.s, f.z⟩
theorem FndAt.sub {h h' : Hv} {d : Addr} {la : Str → Addr} {b : Book} {fs : Str → List Nat} (f : FndAt h d la b fs) (s : Sub h h') : FndAt h' d la b fs :=
  ⟨f.d.sub s, fun z hz => s _ _ (f.l z hz), f.nl, f.s, f.z⟩
end DL
namespace DL
open PySem PySem.Spec PyProof.Rows L2
def Ris (xs : List Nat) : Prop := xs.Pairwise fun a b => setI a < setI b
structure LotOk (b : Book) (hp : Heap') (fs : Str → List Nat) : Prop where
  r : ∀ z ∈ b.names, Ris (fs z)
  s : ∀ z ∈ b.names, ∀ n ∈ fs z, n ≠ 0 ∧ inH hp n
def lotV (b : Book) (fs : Str → List Nat) : Val := .tup (b.names.map fun z => .tup ((fs z).map encS))
end DL
namespace DL
open PySem PySem.Spec PyProof.Rows L2
end DL
namespace DL
open PySem PySem.Spec PyProof.Rows L2
end DL
namespace DL
open PySem PySem.Spec PyProof.Rows L2
section
variable {ρ : Sl} {h : Hv} {E : PX} {da db : ED}
end
structure Gr0 (h0 h : Hv) : Prop where
  sub : Sub h0 h
  bz : ∀ c, h c = some .busy → h0 c = some .busy
theorem Gr0.refl (h : Hv) : Gr0 h h := ⟨Sub.refl h, fun _ e => e⟩
theorem Gr0.new {h0 h : Hv} {p : Addr} {o : Ob} (g : Gr0 h0 h) (e : h p = none) (nb : o ≠ .busy) : Gr0 h0 (put h p o) :=
  ⟨g.sub.trans (Sub.put e), fun c hc => by
    by_cases z : c = p
    · subst z; rw [put_same] at hc; exact absurd (Option.some.inj hc) nb
    · rw [put_ne z] at hc; exact g.bz c hc⟩
theorem Gr0.write {h0 h : Hv} {p : Addr} {o : Ob} (g : Gr0 h0 h) (e0 : h0 p = none) (nb : o ≠ .busy) : Gr0 h0 (put h p o) :=
  ⟨fun c w hc => by rw [put_ne (fun z => by rw [z, e0] at hc; cases hc)]; exact g.sub c w hc, fun c hc => by
    by_cases z : c = p
    · subst z; rw [put_same] at hc; exact absurd (Option.some.inj hc) nb
    · rw [put_ne z] at hc; exact g.bz c hc⟩
theorem Gr0.none {h0 h : Hv} (g : Gr0 h0 h) {c : Addr} (e : h c = none) : h0 c = none := by
  cases e0 : h0 c with
  | none => rfl
  | some o => rw [g.sub c o e0] at e; cases e
structure TldAt (h : Hv) (d : Addr) (ta : Str → Addr) (b : Book) (fs : Str → List Nat) : Prop where
  dv : DV h d (refD b ta)
  l : ∀ z ∈ b.names, h (ta z) = some (.dK (encD (fs z)))
  ne : ∀ z ∈ b.names, ta z ≠ d
theorem TldAt.sub {h h' : Hv} {d : Addr} {ta : Str → Addr} {b : Book} {fs : Str → List Nat} (t : TldAt h d ta b fs) (s : Sub h h') : TldAt h' d ta b fs := ⟨t.dv.sub s, fun z hz => s _ _ (t.l z hz), t.ne⟩
theorem TldAt.fresh {h : Hv} {d : Addr} {ta : Str → Addr} {b : Book} {fs : Str → List Nat} (t : TldAt h d ta b fs) {j : Addr} (e : h j = none) : j ≠ d ∧ ∀ z ∈ b.names, j ≠ ta z := by
  refine ⟨fun e2 => ?_, fun z hz e2 => by rw [e2, t.l z hz] at e; cases e⟩
  subst e2
  rcases t.dv with v | ⟨o, xs, v⟩ <;> (rw [v] at e; cases e)
theorem TldAt.put {h : Hv} {d : Addr} {ta : Str → Addr} {b : Book} {fs : Str → List Nat} (t : TldAt h d ta b fs) {j : Addr} {o : Ob} (n : j ≠ d ∧ ∀ z ∈ b.names, j ≠ ta z) : TldAt (DL.put h j o) d ta b fs :=
  ⟨t.dv.imp (fun e => by rw [put_ne n.1.symm]; exact e) fun ⟨o, xs, e⟩ => ⟨o, xs, by rw [put_ne n.1.symm]; exact e⟩, fun z hz => by rw [put_ne (n.2 z hz).symm]; exact t.l z hz, t.ne⟩
theorem TldAt.frz {h : Hv} {d : Addr} {ta : Str → Addr} {b : Book} {fs : Str → List Nat} (t : TldAt h d ta b fs) (o : Obj) (xs : List (Key × V)) : TldAt (DL.put h d (.dF o xs (refD b ta))) d ta b fs :=
  ⟨.inr ⟨o, xs, put_same⟩, fun z hz => by rw [put_ne (t.ne z hz)]; exact t.l z hz, t.ne⟩
section
variable {h h' : Hv} {d : Addr} {ta : Str → Addr} {b : Book} {fs : Str → List Nat} {ρ : Sl} {E : PX} {dd dz dn : ED} {z : Str} {n : Nat}
end
theorem Ris.nodup {xs : List Nat} (r : Ris xs) : xs.Nodup := r.imp fun {a b} h e => by subst e; exact List.lt_irrefl _ h
section
variable {b : Book} {hp : Heap'} {fs : Str → List Nat}
theorem LotOk.small (l : LotOk b hp fs) (h8 : hp.length ≤ 8) {z : Str} (hz : z ∈ b.names) : Small (fs z) := ⟨(l.r z hz).nodup, fun n hn => inH_lt h8 (l.s z hz n hn).2⟩
theorem LotOk.okN (l : LotOk b hp fs) (h8 : hp.length ≤ 8) (wf : WFB b) (d : Nat) : DL.okN (d + 3) (lotV b fs) = true := by
  unfold lotV
  rw [okN_tup]
  refine ⟨fun v hv => ?_, by rw [List.length_map]; have := names_len wf; omega⟩
  obtain ⟨z, hz, rfl⟩ := List.mem_map.mp hv
  rw [okN_tup]
  refine ⟨fun v hv => ?_, by rw [List.length_map]; have := (l.small h8 hz).len; omega⟩
  obtain ⟨n, -, rfl⟩ := List.mem_map.mp hv
  exact okN_encS n d
end
end DL
namespace DL
open PySem PySem.Spec PyProof.Rows L2
end DL
namespace DL
open PySem PySem.Spec PyProof.Rows L2
end DL
namespace DL
open PySem PySem.Spec PyProof.Rows L2
def getI (d : List (Int × Int)) (k : Int) : Int := ((d.find? fun p => decide (p.1 = k)).map (·.2)).getD 0
def putI (d : List (Int × Int)) (k v : Int) : List (Int × Int) := if (d.any fun p => decide (p.1 = k)) = true then d.map (fun p => if p.1 = k then (p.1, v) else p) else d ++ [(k, v)]
def addI (d : List (Int × Int)) (k v : Int) : List (Int × Int) := putI d k (getI d k + v)
abbrev GK := Nat × Str
abbrev MsL := List (GK × Int)
abbrev WsL := List (GK × List (Int × Int))
def mAt (ms : MsL) (n : Nat) (z : Str) : Int := ((ms.find? fun e => decide (e.1 = (n, z))).map (·.2)).getD 0
def wAt (ws : WsL) (n : Nat) (z : Str) : List (Int × Int) := ((ws.find? fun e => decide (e.1 = (n, z))).map (·.2)).getD []
def kO (b : Book) (z : Str) : Option Str → Bool
  | some l => decide (l ∈ takesL b z)
  | none => false
def blkA (b : Book) (hp : Heap') (ms : MsL) (m : Nat) (z : Str) : List (Int × Int) := match setI m with
  | [i] => [(if kO b z (rawL hp i) = true then wt hp m else 0, 1)]
  | _ => (b.names.filter fun y => decide (mAt ms m y ≠ 0)).map fun y => (if y ∈ takesL b z then wt hp m else 0, mAt ms m y)
def prt1 (told : List (Int × Int)) (q : Int × Int) (rest : List (Int × Int)) : List (Int × Int) := rest.foldl (fun t p => addI t (q.1 + p.1) (q.2 * p.2)) told
def rstA (ws : WsL) (m p : Nat) (z : Str) : List (Int × Int) := if p = m then [(0, 1)] else wAt ws (m ^^^ p) z
def prt2 (b : Book) (hp : Heap') (ms : MsL) (ws : WsL) (m : Nat) (z : Str) (told : List (Int × Int)) (p : Nat) : List (Int × Int) := if p &&& lowN m ≠ 0 then (blkA b hp ms p z).foldl (fun t q => prt1 t q (rstA ws m p z)) told else told
def prtA (b : Book) (hp : Heap') (ms : MsL) (ws : WsL) (m : Nat) (z : Str) : List (Int × Int) := (partsN m).foldl (prt2 b hp ms ws m z) []
def cnt1 (b : Book) (z : Str) (w : Int) (t : Int) (q : Int × Int) (rest : List (Int × Int)) : Int := rest.foldl (fun t r => if enough b z (q.1 + r.1) w = true then t + q.2 * r.2 else t) t
def cnt2 (b : Book) (hp : Heap') (ms : MsL) (ws : WsL) (m : Nat) (z : Str) (t : Int) (p : Nat) : Int := if p &&& lowN m ≠ 0 ∧ p ≠ m then (blkA b hp ms p z).foldl (fun t q => cnt1 b z (wt hp m) t q (wAt ws (m ^^^ p) z)) t else t
def cntA (b : Book) (hp : Heap') (ms : MsL) (ws : WsL) (m : Nat) (z : Str) : Int := (partsN m).foldl (cnt2 b hp ms ws m z) 0
def stM (b : Book) (hp : Heap') (S : MsL × WsL) (m : Nat) : MsL := S.1 ++ b.names.map fun z => ((m, z), cntA b hp S.1 S.2 m z)
def stG (b : Book) (hp : Heap') (S : MsL × WsL) (m : Nat) : MsL × WsL := (stM b hp S m, S.2 ++ b.names.map fun z => ((m, z), prtA b hp (stM b hp S m) S.2 m z))
def finG (b : Book) (hp : Heap') : MsL × WsL := (byPop (2 ^ hp.length - 1)).foldl (stG b hp) ([], [])
def tidyN (b : Book) (hp : Heap') (z : Str) : Int := if hp.length = 1 then (if rawL hp 0 = some z then 1 else 0) else mAt (finG b hp).1 (2 ^ hp.length - 1) z
def gkV (k : GK) : List Key := [.inl (k.1 : Int), .inr k.2]
def encMs (ms : MsL) : List (List Key × Val) := ms.map fun e => (gkV e.1, .int e.2)
def encWs (ws : WsL) (wa : GK → Addr) : List (List Key × Val) := ws.map fun e => (gkV e.1, .ref (wa e.1))
def encI (d : List (Int × Int)) : List (Key × Val) := d.map fun p => (.inl p.1, .int p.2)
def grF (b : Book) (hp : Heap') (ma wa : Addr) : List (Str × Val) :=
  [("book", encB b), ("heap", encH hp), ("names", .lst (b.names.map .str)), ("whole", .int ((2 ^ hp.length : Nat) - 1 : Int)), ("weights", .lst ((List.range (2 ^ hp.length)).map fun n => .int (wt hp n))), ("many", .ref ma), ("ways", .ref wa)]
structure Ag where
  a : Addr
  ma : Addr
  wa : Addr
  w : GK → Addr
structure GrAt (G : Gx) (h : Hv) (A : Ag) (b : Book) (hp : Heap') (ms : MsL) (ws : WsL) : Prop where
  ins : h A.a = some (.ins (G.C "Groupings") (grF b hp A.ma A.wa))
  ma : h A.ma = some (.dT (encMs ms))
  wa : h A.wa = some (.dT (encWs ws A.w))
  w : ∀ e ∈ ws, DV h (A.w e.1) (encI e.2)
  nw : ∀ e ∈ ws, A.w e.1 ≠ A.a ∧ A.w e.1 ≠ A.ma ∧ A.w e.1 ≠ A.wa
  inj : ∀ e ∈ ws, ∀ f ∈ ws, e.1 ≠ f.1 → A.w e.1 ≠ A.w f.1
def OffG (A : Ag) (ws : WsL) (h h' : Hv) : Prop := ∀ c, (∀ e ∈ ws, c ≠ A.w e.1) → h' c = h c
structure GOk (b : Book) (hp : Heap') (ms : MsL) (ws : WsL) (m : Nat) : Prop where
  wf : WFB b
  n8 : hp.length ≤ 8
  m0 : m ≠ 0
  mh : inH hp m
  pm : ∀ p ∈ partsN m, p ≠ m → ∀ z ∈ b.names, ∃ v, (((p, z), v) : GK × Int) ∈ ms
  pw : ∀ p ∈ partsN m, p ≠ m → ∀ z ∈ b.names, ∃ v, (((p, z), v) : GK × List (Int × Int)) ∈ ws
  nm : (ms.map (·.1)).Nodup
  nw : (ws.map (·.1)).Nodup
  lw : ∀ e ∈ ws, e.2.length ≤ 256 ∧ (e.2.map (·.1)).Nodup
  lm : ms.length ≤ 1100 ∧ ws.length ≤ 1100
  bd : ∀ e ∈ ms, -(2 ^ 64) < e.2 ∧ e.2 < 2 ^ 64
def S_Groupings_blocks (G : Gx) : SpF := fun as h Q _ => ∃ (A : Ag) (b : Book) (hp : Heap') (ms : MsL) (ws : WsL) (p : Nat) (z : Str), as = [.ref A.a, .int (p : Int), .str z] ∧ GrAt G h A b hp ms ws ∧ WFB b ∧ hp.length ≤ 8 ∧ p ≠ 0 ∧ inH hp p ∧ ((setI p).length = 1 ∨ ∀ y ∈ b.names, ∃ v, (((p, y), v) : GK × Int) ∈ ms) ∧
  Q (.lst ((blkA b hp ms p z).map fun q => .tup [.int q.1, .int q.2])) h
def S_Groupings_parted (G : Gx) : SpF := fun as h Q _ => ∃ (A : Ag) (b : Book) (hp : Heap') (ms : MsL) (ws : WsL) (m : Nat) (z : Str), as = [.ref A.a, .int (m : Int), .str z] ∧ GrAt G h A b hp ms ws ∧ GOk b hp ms ws m ∧ z ∈ b.names ∧ (∀ y ∈ b.names, ∃ v, (((m, y), v) : GK × Int) ∈ ms) ∧ (prtA b hp ms ws m z).length ≤ 256 ∧
  ∀ h' p, h p = none → GrAt G h' A b hp ms ws → OffG A ws (put h p (.dK (encI (prtA b hp ms ws m z)))) h' → h' p = some (.dK (encI (prtA b hp ms ws m z))) → Q (.ref p) h'
def S_Groupings_count (G : Gx) : SpF := fun as h Q _ => ∃ (A : Ag) (b : Book) (hp : Heap') (ms : MsL) (ws : WsL) (m : Nat) (z : Str), as = [.ref A.a, .int (m : Int), .str z] ∧ GrAt G h A b hp ms ws ∧ GOk b hp ms ws m ∧ z ∈ b.names ∧
  ∀ h', GrAt G h' A b hp ms ws → OffG A ws h h' → Q (.int (cntA b hp ms ws m z)) h'
structure GPre (G : Gx) (h : Hv) (b : Book) (hp : Heap') : Prop where
  wf : WFB b
  ho : HpOk b hp
  n1 : 1 ≤ hp.length
  n5 : hp.length ≤ 5
  tb : Tbs G.Ts h
  ns : ("Groupings.__init__" : Str) ∈ G.ns
def S_Groupings___init__ (G : Gx) : SpF := fun as h Q _ => ∃ (a : Addr) (b : Book) (hp : Heap') (h0 : Hv), as = [.ref a, encB b, encH hp] ∧ GPre G h0 b hp ∧ h0 a = none ∧ h = put h0 a (.ins (G.C "Groupings") []) ∧
  ∀ h' A, A.a = a → GrAt G h' A b hp (finG b hp).1 (finG b hp).2 → Lss h' h0 → Q .non h'
def S_how_many_tidy (G : Gx) : SpF := fun as h Q E => ∃ (b : Book) (hp : Heap') (v : Val), as = [encB b, encH hp, v] ∧ GPre G h b hp ∧
  ((∃ z, v = .str z ∧ z ∈ b.names ∧ Q (.int (tidyN b hp z)) h) ∨ (odd b v ∧ E "NoLand" none h))
end DL
namespace DL
open PySem PySem.Spec PyProof.Rows L2
def LenF (P : Program) (w : World) (K : PySem.W.Frag) (mg : Str → Option Value) (base : Heap) (A : Around) (C : Addr) (fs : SpF) : Prop :=
  ∃ (k : Nat) (f : Addr) (fd : FuncData) (ps : List Str), FnOk P w K mg base (L2.CX P w) k f fd ps (spA K mg 1 fs) ∧ Room (k + 1) A ∧ PySem.W.findIn K (.ref C) "__len__" = some (some (.ref f)) ∧ PySem.W.isFn K (.ref f) = true ∧ L2.Binds K fd ps []
theorem MtR.len {P : Program} {w : World} {K : PySem.W.Frag} {mg : Str → Option Value} {base : Heap} {k j : Nat} {C : Addr} {fs : SpF} {A : Around} (F : MtR P w K mg base k C "__len__" 1 fs) (hr : Room j A) (h : k + 1 ≤ j := by decide) : LenF P w K mg base A C fs :=
  let ⟨f, fd, ps, a, b, c⟩ := F; ⟨k, f, fd, ps, a, hr.mono h, b.at_, b.fn, c⟩
end DL
namespace DL
open PySem PySem.Spec PyProof.Rows L2
section
variable {K : PySem.W.Frag}
def txtI (i : Int) : Str := Str.ofString (toString i)
def fStrI : FA := fun vs h Q => match vs with
  | [.int i] => i.natAbs.log2 < 1920 ∧ Q (.str (txtI i)) h
  | _ => False
theorem cl_strI : CaL K fStrI (fun xs H Q => ∃ i, xs = [.int i] ∧ i.natAbs.log2 < 1920 ∧ Q (.str (toString i)) H) := fun vs xs h H Q' Q r rs q c => by
  unfold fStrI at q
  split at q
  · rename_i i
    obtain ⟨x, e, rv⟩ := rvs1 rs
    rw [RV] at rv
    subst rv
    exact ⟨i, e, q.1, c.val r (by rw [RV]; rfl) q.2⟩
  · exact q.elim
end
def dJsL : List ED → Str → Sl → Hv → (Str → Hv → Prop) → PX → Prop
  | [], acc, ρ, h, Q, E => Q acc h
  | d :: ds, acc, ρ, h, Q, E => d ρ h (fun v h1 => match v with
    | .str y => (acc ++ y).length ≤ sizeLine ∧ dJsL ds (acc ++ y) ρ h1 Q E
    | _ => False) E
section
variable {X : Cx} {B : Bs}
def StrF (P : Program) (w : World) (K : PySem.W.Frag) (mg : Str → Option Value) (base : Heap) (A : Around) (C : Addr) (fs : SpF) : Prop :=
  ∃ (k : Nat) (f : Addr) (fd : FuncData) (ps : List Str), FnOk P w K mg base (L2.CX P w) k f fd ps (spA K mg 1 fs) ∧ Room (k + 2) A ∧ PySem.W.findIn K (.ref C) "__str__" = some (some (.ref f)) ∧ PySem.W.isFn K (.ref f) = true ∧ L2.Binds K fd ps []
theorem MtR.str {P : Program} {w : World} {K : PySem.W.Frag} {mg : Str → Option Value} {base : Heap} {k j : Nat} {C : Addr} {fs : SpF} {A : Around} (F : MtR P w K mg base k C "__str__" 1 fs) (hr : Room j A) (h : k + 2 ≤ j := by decide) : StrF P w K mg base A C fs :=
  let ⟨f, fd, ps, a, b, c⟩ := F; ⟨k, f, fd, ps, a, hr.mono h, b.at_, b.fn, c⟩
end
end DL
namespace DL
open PySem PySem.Spec PyProof.Rows L2
section
variable {X : Cx} {B : Bs} {o e : Expr} {es : List Expr} {d dv : ED} {aa : AD} {f m x : Str} {C : Addr} {pos pos' apos p : Pos}
end
end DL
namespace DL
open PySem PySem.Spec PyProof.Rows L2
def MtKR (P : Program) (w : World) (K : PySem.W.Frag) (mg : Str → Option Value) (base : Heap) (k : Nat) (C : Addr) (m : Str) (ks : List Str) (fs : SpF) : Prop :=
  ∃ (f : Addr) (fd : FuncData) (ps : List Str), FnOk P w K mg base (L2.CX P w) k f fd ps (spA K mg (ks.length + 1) fs) ∧ Meth K C m f ∧ KBinds K fd ps ks (gk 1 ks.length) (gk 1 ks.length)
def MtK (P : Program) (w : World) (K : PySem.W.Frag) (mg : Str → Option Value) (base : Heap) (A : Around) (C : Addr) (m : Str) (ks : List Str) (fs : SpF) : Prop :=
  ∃ (k : Nat) (f : Addr) (fd : FuncData) (ps : List Str), FnOk P w K mg base (L2.CX P w) k f fd ps (spA K mg (ks.length + 1) fs) ∧ Room k A ∧ Meth K C m f ∧ KBinds K fd ps ks (gk 1 ks.length) (gk 1 ks.length)
theorem MtKR.at {P : Program} {w : World} {K : PySem.W.Frag} {mg : Str → Option Value} {base : Heap} {k j : Nat} {C : Addr} {m : Str} {ks : List Str} {fs : SpF} {A : Around} (F : MtKR P w K mg base k C m ks fs) (hr : Room j A) (h : k ≤ j := by decide) : MtK P w K mg base A C m ks fs :=
  let ⟨f, fd, ps, a, b, c⟩ := F; ⟨k, f, fd, ps, a, hr.mono h, b, c⟩
section
variable {X : Cx} {B : Bs} {o e : Expr} {es : List Expr} {d dv : ED} {dk : AD} {m x : Str} {C : Addr} {pos apos p : Pos} {kws : List Keyword} {ks : List Str}
end
def MkKR (P : Program) (w : World) (K : PySem.W.Frag) (mg : Str → Option Value) (base : Heap) (k : Nat) (x : Str) (C : Addr) (ks : List Str) (fs : SpF) : Prop :=
  ∃ (f : Addr) (fd : FuncData) (ps : List Str), FnOk P w K mg base (L2.CX P w) k f fd ps (spA K mg (ks.length + 1) fs) ∧ Mk K C f ∧ mg x = some (.ref C) ∧ KBinds K fd ps ks (gk 1 ks.length) (gk 1 ks.length)
def MkK (P : Program) (w : World) (K : PySem.W.Frag) (mg : Str → Option Value) (base : Heap) (A : Around) (x : Str) (C : Addr) (ks : List Str) (fs : SpF) : Prop :=
  ∃ (k : Nat) (f : Addr) (fd : FuncData) (ps : List Str), FnOk P w K mg base (L2.CX P w) k f fd ps (spA K mg (ks.length + 1) fs) ∧ Room (k + 1) A ∧ Mk K C f ∧ mg x = some (.ref C) ∧ KBinds K fd ps ks (gk 1 ks.length) (gk 1 ks.length)
theorem MkKR.at {P : Program} {w : World} {K : PySem.W.Frag} {mg : Str → Option Value} {base : Heap} {k j : Nat} {x : Str} {C : Addr} {ks : List Str} {fs : SpF} {A : Around} (F : MkKR P w K mg base k x C ks fs) (hr : Room j A) (h : k + 1 ≤ j := by decide) : MkK P w K mg base A x C ks fs :=
  let ⟨f, fd, ps, a, b, c, d⟩ := F; ⟨k, f, fd, ps, a, hr.mono h, b, c, d⟩
section
variable {X : Cx} {B : Bs} {dk : AD} {x : Str} {C : Addr} {pos p : Pos} {kws : List Keyword} {ks : List Str}
end
end DL
namespace DL
open PySem PySem.Spec PyProof.Rows L2
section
variable {prog : Program} {w : World} {A : Around} {E : Value → Shared → Prop} {s : Shared} {K : PySem.W.Frag} {x C f : Addr} {ox : Obj} {od : Option Obj} {b tb : Value}
end
def EqF (P : Program) (w : World) (K : PySem.W.Frag) (mg : Str → Option Value) (base : Heap) (A : Around) (C : Addr) (fs : SpF) : Prop :=
  ∃ (k : Nat) (f : Addr) (fd : FuncData) (ps : List Str), FnOk P w K mg base (L2.CX P w) k f fd ps (spA K mg 2 fs) ∧ Room (k + 2) A ∧ PySem.W.findIn K (.ref C) "__eq__" = some (some (.ref f)) ∧ PySem.W.isFn K (.ref f) = true ∧ L2.Binds K fd ps []
theorem MtR.eq {P : Program} {w : World} {K : PySem.W.Frag} {mg : Str → Option Value} {base : Heap} {k j : Nat} {C : Addr} {fs : SpF} {A : Around} (F : MtR P w K mg base k C "__eq__" 2 fs) (hr : Room j A) (h : k + 2 ≤ j := by decide) : EqF P w K mg base A C fs :=
  let ⟨f, fd, ps, a, b, c⟩ := F; ⟨k, f, fd, ps, a, hr.mono h, b.at_, b.fn, c⟩
section
variable {X : Cx} {C : Addr} {fs : SpF}
end
end DL
namespace DL
open PySem PySem.Spec PyProof.Rows L2
section
variable {K : PySem.W.Frag}
theorem rvs_strs_inv {H : Hp} {h : Hv} : ∀ {xs : List V} {ys : List Str}, RVs K H h (ys.map Val.str) xs → xs = ys.map V.str
  | xs, [], r => by
    rw [List.map_nil, RVs] at r
    exact r
  | xs, y :: ys, r => by
    rw [List.map_cons, RVs] at r
    obtain ⟨z, zs, rfl, rv, rs⟩ := r
    rw [RV] at rv
    rw [rv, rvs_strs_inv rs]
    rfl
def fJoin : FM := fun v ws h Q => match v, ws with
  | .str a, [w] => (match seqOf w h with
    | some vs => (match strsOf vs with
      | some ys => (ys.map (·.length)).sum + ys.length * a.length ≤ 16777216 ∧ Q (.str (Txt.join a ys)) h
      | none => False)
    | none => False)
  | _, _ => False
def rJoin (K : PySem.W.Frag) : V → List V → Hp → VK → Prop := fun x xs H Q => ∃ a p, ∃ ys : List Str, x = .str a ∧ xs = [.ref p] ∧ (SqL K H p (ys.map V.str) ∨ SqT K H p (ys.map V.str)) ∧
    (ys.map (·.length)).sum + ys.length * a.length ≤ 16777216 ∧ Q (.str (Txt.join a ys)) H
theorem mt_joinD {X : Cx} : L2.MtR X "str.join" (rJoin X.K) := mt_join
theorem ml_join : MtL K fJoin (rJoin K) := fun v ws x ys h H Q' Q r rv rs q c => by
  unfold fJoin at q
  split at q
  · rename_i a w
    split at q
    · rename_i vs hv
      split at q
      · rename_i zs hz
        obtain ⟨y, e1, ry⟩ := rvs1 rs
        obtain ⟨p, xs, e2, hp, rx⟩ := seqOf_rel r ry hv
        rw [RV] at rv
        have e4 := strsOf_eq hz
        subst e4
        have e3 := rvs_strs_inv rx
        subst e3
        exact ⟨a, p, zs, rv, by rw [e1, e2], hp, q.1, c.val r (by rw [RV]) q.2⟩
      · exact q.elim
    · exact q.elim
  · exact q.elim
end
end DL
namespace DL
open PySem PySem.Spec PyProof.Rows L2
section
variable {K : PySem.W.Frag}
def fMaxL : FA := fun vs h Q => ∃ (v : Val) (ns : List Int), vs = [v] ∧ listOf v h = some (ns.map .int) ∧ ns ≠ [] ∧ ∀ m, m ∈ ns → (∀ y ∈ ns, y ≤ m) → Q (.int m) h
theorem cl_maxL : CaL K fMaxL (rMax K) := fun vs xs h H Q' Q r rs q c => by
  obtain ⟨v, ns, rfl, el, hne, q⟩ := q
  obtain ⟨x, e, rv⟩ := rvs1 rs
  obtain ⟨a, us, e3, ha, rss⟩ := listOf_rel r rv el
  rw [rss.ints] at ha
  exact ⟨a, ns, by rw [e, e3], .of ha, List.length_pos_iff.mpr hne, fun m hm hy => c.val r (by rw [RV]) (q m hm hy)⟩
end
structure KeysF (h1 : Hv) (fs : SpF) (ws : List Val) (k : Val → Val) (kd : Val → PyData) : Prop where
  dat : ∀ w ∈ ws, dat (k w) = some (kd w)
  al : PySem.W.AllAlike (ws.map kd)
  so : PySem.W.Sortable (ws.map kd)
  dp : ∀ w ∈ ws, (kd w).depth ≤ 20
  run : ∀ w ∈ ws, ∀ Q' : PV, Q' (k w) h1 → fs [w] h1 Q' (fun _ _ _ => False)
def dSortKD (fs : SpF) (aa : AD) : ED := fun ρ h Q E => aa ρ h (fun vs h1 => match vs with
  | [v] => ∃ (ws : List Val) (k : Val → Val) (kd : Val → PyData), listOf v h1 = some ws ∧ KeysF h1 fs ws k kd ∧ Q (.lst (ws.mergeSort (PySem.W.dataLe false kd))) h1
  | _ => False) E
theorem de_sortKD {X : Cx} {B : Bs} {k : Nat} {x : Str} {e : Expr} {aa : AD} {fs : SpF} {p kpos npos pos : Pos} (hm : X.mg "sorted" = none) (F : FnR X.prog X.w X.K X.mg X.base k x 1 fs) (hr : Room (k + 3) X.A) (ha : DA X B [e] aa)
    (hg : Gl X "sorted" := by rfl) (hgx : Gl X x := by rfl) (he : backTo pos (starEach [e] X.env) = (false, eval e X.env) :: backTo pos (starEach [] X.env) := by rfl) (hpl : (backTo pos (starEach [e] X.env)).any (·.1) = false := by rfl) (hdb : (x == ("__debug__" : Str)) = false := by decide) :
    DE X B (.Call (.Name "sorted" p) [e] [⟨some "key", .Name x npos, kpos⟩] pos) (dSortKD fs aa) := by
  obtain ⟨f, fd, ps, G, hmx, hk, hb⟩ := F
  refine ⟨fun pins s σ H Q I ⟨ρ, h, Q', S0, q, C⟩ => ?_⟩
  refine wpAny_Call_Name_kw (ld_blt I hg hm bt_sorted ?_ (by decide) (by decide))
  have hA := ha.run pos pins s σ H (fun vs H1 => ∃ l xs h1 ws, ∃ (kf : Val → Val) (kd : Val → PyData), vs = [V.ref l] ∧ ST X.K B σ H1 ρ h1 ∧ H1 l = some (.lst xs) ∧ RVs X.K H1 h1 ws xs ∧ KeysF h1 fs ws kf kd ∧ Q' (.lst (ws.mergeSort (PySem.W.dataLe false kd))) h1 ∧ Cont X.K h1 H1 Q' Q) I ⟨ρ, h, _, S0, q, fun vs h1 xs H1 q1 s1 rv1 r1 => ?_⟩
  · refine PyProof.Rows.callWith_kw (thn hA fun us s1 ⟨vs, H1, I1, r1, l, xs, h1, ws, kf, kd, ev, S1, sq, rs, ko, hQ, C1⟩ => ?_) he hpl (by rfl) (by rfl)
    subst ev
    obtain ⟨u, rfl, ru⟩ := vals1 r1
    obtain rfl : u = Value.ref l := ru
    show wpAny _ _ (evalAll [do let v ← eval (.Name x npos) X.env; standAt pos; pure v]) _ _ s1
    refine wpAny_evalAll_cons (wpAny_bind (thn ((pe_glob (v := .ref f) hgx hmx rfl hdb).run pins s1 σ H1 (fun y H2 => y = V.ref f ∧ H2 = H1) I1 ⟨rfl, rfl⟩) fun v s2 ⟨y, H2, I2, ry, ey, eH⟩ => wpAny_bind (wpAny_standAt (wpAny_pure (wpAny_evalAll_nil ?_)))))
    subst ey
    subst eH
    cases (show v = Value.ref f from ry)
    refine wpAny_mono (sorted_keyI (h := h1) (Q := Q) (f := f) kf kd I2 S1.r (.of sq) rs ko.dat ko.al ko.so (fun w hw => ?_) (fun more w x u s' H' hw J st rH rx ru => ?_) (fun p H' ys st rH np rys => ?_)) (fun v s' z => z) fun e s' z => z
    · have := ko.dp w hw
      have := hr.un
      omega
    · have q1 : spA X.K X.mg 1 fs [x] H' (fun y H2 => Step h1 H' h1 H2 ∧ RH X.K H2 h1 ∧ RV X.K H2 h1 (kf w) y) (fun _ _ _ => False) := by
        refine ⟨[w], h1, _, _, RVs.cons rx RVs.nil, rH, rfl, ko.run w hw (fun v h2 => v = kf w ∧ h2 = h1) ⟨rfl, rfl⟩, fun v h2 z H3 q2 st' rv2 r2 => ?_, fun nm pl h' cls d H3 hE _ _ _ _ => hE.elim⟩
        obtain ⟨ev, eh⟩ := q2
        subst ev
        subst eh
        exact ⟨st', r2, rv2⟩
      have r1 : Vals [x] [u] := .cons ru .nil
      have hl : ([u] ++ []).length = ps.length := by
        have e := G.len _ _ _ _ q1
        simpa using e
      have b := hb _ [u] J.kIn hl
      rw [List.append_nil] at b
      refine wpAny_call (codeAny_mono (G.run _ X.stack _ _ ⟨[u], []⟩ [u] _ _ (fun _ _ _ => False) ((hr.mono (by omega)).in1.in1) J.env0.in1.in1 b r1 q1) fun r s' hq => ?_)
      cases r with
      | error e =>
        obtain ⟨_, _, _, _, _, _, _, _, _, _, _, _, hE⟩ := hq
        exact hE.elim
      | ok fl =>
        cases fl with
        | ret u => exact J.after hq
        | next => exact False.elim hq
        | brk => exact False.elim hq
        | cont => exact False.elim hq
    · exact (C1.trans st).lst rH rys np hQ
  · split at q1
    · rename_i v
      obtain ⟨ws, kf, kd, hl, ko, hQ⟩ := q1
      obtain ⟨x, ex, rx⟩ := rvs1 rv1
      obtain ⟨l, ys, e1, e2, e3⟩ := listOf_rel r1 rx hl
      subst e1
      exact ⟨l, ys, h1, ws, kf, kd, ex, S0.step s1 r1, e2, e3, ko, hQ, C.trans s1⟩
    · exact q1.elim
end DL
namespace DL
open PySem PySem.Spec PyProof.Rows L2
structure Fams where
  tr : Nat → Str → List Tree
  bl : Nat → List Tree
  rw : Nat → List (List Tree)
def trP (b : Book) (hp : Heap') (z : Str) (r : List Tree) (ts : List Tree) : List Tree := (ts.map fun t => Tree.node z (t :: r)).filter fun w => decide (w.land b hp = some z)
def famG (b : Book) (hp : Heap') (ms : MsL) : Nat → Fams
  | 0 => ⟨fun _ _ => [], fun _ => [], fun _ => []⟩
  | k + 1 => ⟨fun m z => (partsN m).flatMap fun p => if p &&& lowN m ≠ 0 ∧ p ≠ m then ((famG b hp ms k).rw (m ^^^ p)).flatMap fun r => trP b hp z r ((famG b hp ms k).bl p) else [],
      fun m => if (setI m).length = 1 then (setI m).map Tree.leaf else (b.names.filter fun y => decide (mAt ms m y ≠ 0)).flatMap fun y => (famG b hp ms k).tr m y,
      fun m => if m = 0 then [[]] else (partsN m).flatMap fun p => if p &&& lowN m ≠ 0 then ((famG b hp ms k).bl p).flatMap fun t => ((famG b hp ms k).rw (m ^^^ p)).map fun r => t :: r else []⟩
def encRw (r : List Tree) : Val := .tup (encTs r)
structure GFull (G : Gx) (h : Hv) (A : Ag) (b : Book) (hp : Heap') (ms : MsL) (ws : WsL) : Prop where
  t : GrAt G h A b hp ms ws
  wf : WFB b
  ho : HpOk b hp
  n5 : hp.length ≤ 5
  ms : ∀ p, p ≠ 0 → inH hp p → ∀ y ∈ b.names, ∃ v, (((p, y), v) : GK × Int) ∈ ms
section
variable (G : Gx)
def SR_Groupings_trees (d : Nat) : SpF := fun as h Q _ => ∃ (A : Ag) (b : Book) (hp : Heap') (ms : MsL) (ws : WsL) (m : Nat) (z : Str), as = [.ref A.a, .int (m : Int), .str z] ∧ GFull G h A b hp ms ws ∧ m ≠ 0 ∧ inH hp m ∧ z ∈ b.names ∧ 3 * (setI m).length < d ∧ Q (.lst (((famG b hp ms d).tr m z).map Tree.enc)) h
def SR_Groupings_block_trees (d : Nat) : SpF := fun as h Q _ => ∃ (A : Ag) (b : Book) (hp : Heap') (ms : MsL) (ws : WsL) (m : Nat), as = [.ref A.a, .int (m : Int)] ∧ GFull G h A b hp ms ws ∧ m ≠ 0 ∧ inH hp m ∧ 3 * (setI m).length + 1 < d ∧ Q (.lst (((famG b hp ms d).bl m).map Tree.enc)) h
def SR_Groupings_rows (d : Nat) : SpF := fun as h Q _ => ∃ (A : Ag) (b : Book) (hp : Heap') (ms : MsL) (ws : WsL) (m : Nat), as = [.ref A.a, .int (m : Int)] ∧ GFull G h A b hp ms ws ∧ inH hp m ∧ 3 * (setI m).length + 2 < d ∧ Q (.lst (((famG b hp ms d).rw m).map encRw)) h
def S_Groupings_trees : SpF := SR_Groupings_trees G 24
def S_Groupings_block_trees : SpF := SR_Groupings_block_trees G 24
def S_Groupings_rows : SpF := SR_Groupings_rows G 24
theorem no_Groupings_trees : ∀ as h Q E, SR_Groupings_trees G 0 as h Q E → False := fun _ _ _ _ ⟨_, _, _, _, _, _, _, _, _, _, _, _, z, _⟩ => Nat.not_lt_zero _ z
theorem no_Groupings_block_trees : ∀ as h Q E, SR_Groupings_block_trees G 0 as h Q E → False := fun _ _ _ _ ⟨_, _, _, _, _, _, _, _, _, _, z, _⟩ => Nat.not_lt_zero _ z
theorem no_Groupings_rows : ∀ as h Q E, SR_Groupings_rows G 0 as h Q E → False := fun _ _ _ _ ⟨_, _, _, _, _, _, _, _, _, z, _⟩ => Nat.not_lt_zero _ z
end
end DL
namespace DL
open PySem PySem.Spec PyProof.Rows L2
mutual
def Tree.text : Tree → Str
  | .leaf n => txtI n
  | .node z ts => ((z ++ "(") ++ Txt.join " " (textTs ts)) ++ ")"
def textTs : List Tree → List Str
  | [] => []
  | t :: ts => t.text :: textTs ts
end
theorem textTs_map (ts : List Tree) : textTs ts = ts.map Tree.text := by
  induction ts with
  | nil => rfl
  | cons t ts ih => rw [textTs, ih]; rfl
def Tree.least (t : Tree) : Int := (sortI t.things).headD 0
mutual
def Tree.tidy (b : Book) (hp : Heap') : Tree → Bool
  | .leaf _ => true
  | .node z ts => (!decide (ts.length < 2) && decide ((Tree.node z ts).land b hp = some z)) && (decide (ts.map Tree.least = sortI (ts.map Tree.least)) && tidyTs b hp ts)
def tidyTs (b : Book) (hp : Heap') : List Tree → Bool
  | [] => true
  | t :: ts => t.tidy b hp && tidyTs b hp ts
end
theorem tidyTs_all (b : Book) (hp : Heap') (ts : List Tree) : tidyTs b hp ts = ts.all (Tree.tidy b hp) := by
  induction ts with
  | nil => rfl
  | cons t ts ih => rw [tidyTs, ih]; rfl
def TxtOk (t : Tree) : Prop := (∀ z ∈ t.lands, z.length ≤ 8) ∧ (∀ n ∈ t.things, 0 ≤ n ∧ n ≤ 10000) ∧ t.size ≤ 500
def SR_text_of (d : Nat) : SpF := fun as h Q _ => ∃ t : Tree, as = [t.enc] ∧ t.ht < d ∧ TxtOk t ∧ Q (.str t.text) h
def S_text_of : SpF := SR_text_of 24
theorem no_text_of : ∀ as h Q E, SR_text_of 0 as h Q E → False := fun _ _ _ _ ⟨_, _, z, _⟩ => Nat.not_lt_zero _ z
def LevOk (names : List Str) (t : Tree) : Prop := t.okT names ∧ t.size ≤ 900
def SR_levels_of (d : Nat) : SpF := fun as h Q _ => ∃ (names : List Str) (t : Tree), as = [t.enc] ∧ t.ht < d ∧ LevOk names t ∧ Q (.int (t.ht : Int)) h
def S_levels_of : SpF := SR_levels_of 24
theorem no_levels_of : ∀ as h Q E, SR_levels_of 0 as h Q E → False := fun _ _ _ _ ⟨_, _, _, z, _⟩ => Nat.not_lt_zero _ z
def SR__law_level (d : Nat) : SpF := SR_levels_of d
def S__law_level : SpF := SR__law_level 24
theorem no__law_level : ∀ as h Q E, SR__law_level 0 as h Q E → False := no_levels_of
def SR__law_things (d : Nat) : SpF := fun as h Q _ => ∃ t : Tree, as = [t.enc] ∧ t.ht < d ∧ t.size ≤ 900 ∧ Q (.lst (t.things.map .int)) h
def S__law_things : SpF := SR__law_things 24
theorem no__law_things : ∀ as h Q E, SR__law_things 0 as h Q E → False := fun _ _ _ _ ⟨_, _, z, _⟩ => Nat.not_lt_zero _ z
def SR_is_tidy_so (d : Nat) : SpF := fun as h Q _ => ∃ (b : Book) (hp : Heap') (t : Tree), as = [encB b, encH hp, t.enc] ∧ WFB b ∧ TrOk b hp t ∧ t.ht < d ∧ t.ht < 24 ∧ t.size ≤ 900 ∧ okN 60 t.enc = true ∧ Q (.bl (t.tidy b hp)) h
def S_is_tidy_so : SpF := SR_is_tidy_so 24
theorem no_is_tidy_so : ∀ as h Q E, SR_is_tidy_so 0 as h Q E → False := fun _ _ _ _ ⟨_, _, _, _, _, _, z, _⟩ => Nat.not_lt_zero _ z
def SR__law_is_tidy (d : Nat) : SpF := SR_is_tidy_so d
def S__law_is_tidy : SpF := SR__law_is_tidy 24
theorem no__law_is_tidy : ∀ as h Q E, SR__law_is_tidy 0 as h Q E → False := no_is_tidy_so
def S_is_tidy : SpF := fun as h Q _ => ∃ (b : Book) (hp : Heap') (v : Val), as = [encB b, encH hp, v] ∧ WFB b ∧ okN 60 v = true ∧
  ((∃ t : Tree, v = t.enc ∧ TrOk b hp t ∧ t.ht < 24 ∧ t.size ≤ 900 ∧ t.things.Nodup ∧ isSh b hp.length 24 v = some true ∧ Q (.bl (t.tidy b hp)) h) ∨
   ((isSh b hp.length 24 v = some false ∨ ∃ t : Tree, v = t.enc ∧ t.ht < 24 ∧ isSh b hp.length 24 v = some true ∧ t.things.length ≤ 1000 ∧ ¬t.things.Nodup) ∧ Q (.bl false) h))
def treesG (b : Book) (hp : Heap') (z : Str) : List Tree := if hp.length = 1 then (if rawL hp 0 = some z then [.leaf 0] else []) else if tidyN b hp z ≠ 0 then (famG b hp (finG b hp).1 24).tr (2 ^ hp.length - 1) z else []
def S_all_tidy (G : Gx) : SpF := fun as h Q E => ∃ (b : Book) (hp : Heap') (v : Val), as = [encB b, encH hp, v] ∧ GPre G h b hp ∧
  ((∃ z, v = .str z ∧ z ∈ b.names ∧ ((300 < tidyN b hp z ∧ E "TooMany" none h) ∨ (tidyN b hp z ≤ 300 ∧ ∀ ts : List Tree, ts.Perm (treesG b hp z) → Q (.tup (ts.map Tree.enc)) h))) ∨ (odd b v ∧ E "NoLand" none h))
end DL
namespace DL
open PySem PySem.Spec PyProof.Rows L2
def den_text_of (R : SpF) : SD := (sSeq (sIf (dNot (dTruth (dCB fIsi (aCons (dVar 0) (aCons (dC (.ty "tuple")) aNil))))) (sRet (dCB fStrI (aCons (dVar 0) aNil))) sNext) (sRet (dBin fAdd (dBin fAdd (dBin fAdd (dBin fIx (dVar 0) (dC (.int 0))) (dC (.str "("))) (dBM "str" fJoin (dC (.str " ")) (aCons (dLc (dIt (dBin fIx (dVar 0) (dC (.int 1)))) (.nm 1) tTrue (dCall 1 R (aCons (dVar 1) aNil)) [1]) aNil))) (dC (.str ")")))))
def den_all_tidy (G : Gx) : SD := (sSeq (sSet 3 (dCall 3 (S_how_many_tidy G) (aCons (dVar 0) (aCons (dVar 1) (aCons (dVar 2) aNil))))) (sSeq (sIf (dTest (dBin fGt (dVar 3) (dC (.int 300)))) (sRaise "TooMany") sNext) (sSeq (sIf (dTest (dBin fEq (dCB fLen (aCons (dVar 1) aNil)) (dC (.int 1)))) (sRet (dBin fMulA (dTup (aCons (dC (.int 0)) aNil)) (dVar 3))) sNext) (sSeq (sSet 4 (dNew (G.C "Groupings") 3 (S_Groupings___init__ G) (aCons (dVar 0) (aCons (dVar 1) aNil)))) (sRet (dIfE (dTruth (dVar 3)) (dCB fTuple (aCons (dSortKD S_text_of (aCons (dMeth (G.C "Groupings") "trees" 3 (S_Groupings_trees G) (dVar 4) (aCons (dFld (G.C "Groupings") "whole" (dVar 4)) (aCons (dVar 2) aNil))) aNil)) aNil)) (dTup aNil)))))))
def den_levels_of (R : SpF) : SD := (sRet (dIfE (dTruth (dCB fIsi (aCons (dVar 0) (aCons (dC (.ty "tuple")) aNil)))) (dBin fAdd (dC (.int 1)) (dCB fMaxL (aCons (dLc (dIt (dBin fIx (dVar 0) (dC (.int 1)))) (.nm 1) tTrue (dCall 1 R (aCons (dVar 1) aNil)) [1]) aNil))) (dC (.int 0))))
def den_is_tidy_so (R : SpF) : SD := (sSeq (sIf (dNot (dTruth (dCB fIsi (aCons (dVar 2) (aCons (dC (.ty "tuple")) aNil))))) (sRet (dC (.bl true))) sNext) (sSeq (sIf (dOr (dTest (dBin fLtI (dCB fLen (aCons (dBin fIx (dVar 2) (dC (.int 1))) aNil)) (dC (.int 2)))) (dTest (dBin fNe (dCall 3 S_counts_as (aCons (dVar 0) (aCons (dVar 1) (aCons (dVar 2) aNil)))) (dBin fIx (dVar 2) (dC (.int 0)))))) (sRet (dC (.bl false))) sNext) (sSeq (sSet 3 (dLc (dIt (dBin fIx (dVar 2) (dC (.int 1)))) (.nm 4) tTrue (dBin fIx (dCall 1 S_things_in (aCons (dVar 4) aNil)) (dC (.int 0))) [4])) (sRet (vAnd (dBin fEq (dVar 3) (dCB fSorted (aCons (dVar 3) aNil))) (dCB fAll (aCons (dLc (dIt (dBin fIx (dVar 2) (dC (.int 1)))) (.nm 4) tTrue (dCall 3 R (aCons (dVar 0) (aCons (dVar 1) (aCons (dVar 4) aNil)))) [4]) aNil)))))))
def den_is_tidy : SD := (sRet (vAnd (dCall 3 S_is_tree (aCons (dVar 0) (aCons (dVar 1) (aCons (dVar 2) aNil)))) (dCall 3 S_is_tidy_so (aCons (dVar 0) (aCons (dVar 1) (aCons (dVar 2) aNil))))))
def den__law_things (R : SpF) : SD := (sSeq (sIf (dNot (dTruth (dCB fIsi (aCons (dVar 0) (aCons (dC (.ty "tuple")) aNil))))) (sRet (dLst (aCons (dVar 0) aNil))) sNext) (sSeq (sSet 1 (dLst aNil)) (sSeq (sFor (dIt (dBin fIx (dVar 0) (dC (.int 1)))) (.nm 2) (sSet 1 (dBin fAdd (dVar 1) (dCall 1 R (aCons (dVar 2) aNil))))) (sRet (dVar 1)))))
def den__law_is_tidy (R : SpF) : SD := (sSeq (sIf (dNot (dTruth (dCB fIsi (aCons (dVar 2) (aCons (dC (.ty "tuple")) aNil))))) (sRet (dC (.bl true))) sNext) (sSeq (sSet 3 (dLc (dIt (dBin fIx (dVar 2) (dC (.int 1)))) (.nm 4) tTrue (dCB fMinL (aCons (dCall 1 S__law_things (aCons (dVar 4) aNil)) aNil)) [4])) (sSeq (sIf (dOr (dTest (dBin fLtI (dCB fLen (aCons (dVar 3) aNil)) (dC (.int 2)))) (dOr (dTest (dBin fNe (dVar 3) (dCB fSorted (aCons (dVar 3) aNil)))) (dTest (dBin fNe (dBin fIx (dCall 3 S__law_valued (aCons (dVar 0) (aCons (dVar 1) (aCons (dVar 2) aNil)))) (dC (.int 2))) (dBin fIx (dVar 2) (dC (.int 0))))))) (sRet (dC (.bl false))) sNext) (sRet (dBin fEq (dLc (dIt (dBin fIx (dVar 2) (dC (.int 1)))) (.nm 4) (dNot (dTruth (dCall 3 R (aCons (dVar 0) (aCons (dVar 1) (aCons (dVar 4) aNil)))))) (dVar 4) [4]) (dLst aNil))))))
def den__law_level (R : SpF) : SD := (sRet (dIfE (dTruth (dCB fIsi (aCons (dVar 0) (aCons (dC (.ty "tuple")) aNil)))) (dBin fAdd (dC (.int 1)) (dCB fMaxL (aCons (dLc (dIt (dBin fIx (dVar 0) (dC (.int 1)))) (.nm 1) tTrue (dCall 1 R (aCons (dVar 1) aNil)) [1]) aNil))) (dC (.int 0))))
end DL
namespace DL
open PySem PySem.Spec PyProof.Rows L2
def den_Groupings_trees (G : Gx) (R_trees R_block_trees R_rows : SpF) : SD := (sSeq (sPar [3, 4] (aCons (dBin fBand (dVar 1) (dUn fNeg (dVar 1))) (aCons (dLstH aNil) aNil))) (sSeq (sFor (dIt (dCall 1 S_parts_of (aCons (dVar 1) aNil))) (.nm 5) (sIf (dAnd (dTruth (dBin fBand (dVar 5) (dVar 3))) (dTest (dBin fNe (dVar 5) (dVar 1)))) (sFor (dIt (dMeth (G.C "Groupings") "rows" 2 R_rows (dVar 0) (aCons (dBin fBxor (dVar 1) (dVar 5)) aNil))) (.nm 6) (sFor (dIt (dMeth (G.C "Groupings") "block_trees" 2 R_block_trees (dVar 0) (aCons (dVar 5) aNil))) (.nm 7) (sSeq (sSet 8 (dTup (aCons (dVar 2) (aCons (dBin fAdd (dTup (aCons (dVar 7) aNil)) (dVar 6)) aNil)))) (sIf (dTest (dBin fEq (dCall 3 S_counts_as (aCons (dFld (G.C "Groupings") "book" (dVar 0)) (aCons (dFld (G.C "Groupings") "heap" (dVar 0)) (aCons (dVar 8) aNil)))) (dVar 2))) (sExpr (dBM "list" fAppend (dVar 4) (aCons (dVar 8) aNil))) sNext)))) sNext)) (sRet (dVar 4))))
def den_Groupings_block_trees (G : Gx) (R_trees R_block_trees R_rows : SpF) : SD := (sSeq (sSet 2 (dCall 1 S_set_of (aCons (dVar 1) aNil))) (sSeq (sIf (dTest (dBin fEq (dCB fLen (aCons (dVar 2) aNil)) (dC (.int 1)))) (sRet (dLst (aCons (dBin fIx (dVar 2) (dC (.int 0))) aNil))) sNext) (sRet (dLc2 (dIt (dFld (G.C "Groupings") "names" (dVar 0))) (.nm 3) (dTruth (dDGet (dFld (G.C "Groupings") "many" (dVar 0)) (dTup (aCons (dVar 1) (aCons (dVar 3) aNil))))) (dIt (dMeth (G.C "Groupings") "trees" 3 R_trees (dVar 0) (aCons (dVar 1) (aCons (dVar 3) aNil)))) (.nm 4) tTrue (dVar 4) [3, 4] [4]))))
def den_Groupings_rows (G : Gx) (R_trees R_block_trees R_rows : SpF) : SD := (sSeq (sIf (dNot (dTruth (dVar 1))) (sRet (dLst (aCons (dTup aNil) aNil))) sNext) (sSeq (sPar [2, 3] (aCons (dBin fBand (dVar 1) (dUn fNeg (dVar 1))) (aCons (dLstH aNil) aNil))) (sSeq (sFor (dIt (dCall 1 S_parts_of (aCons (dVar 1) aNil))) (.nm 4) (sIf (dTruth (dBin fBand (dVar 4) (dVar 2))) (sSeq (sSet 5 (dMeth (G.C "Groupings") "rows" 2 R_rows (dVar 0) (aCons (dBin fBxor (dVar 1) (dVar 4)) aNil))) (sExpr (dBM "list" fExtend (dVar 3) (aCons (dLc2 (dIt (dMeth (G.C "Groupings") "block_trees" 2 R_block_trees (dVar 0) (aCons (dVar 4) aNil))) (.nm 6) tTrue (dIt (dVar 5)) (.nm 7) tTrue (dBin fAdd (dTup (aCons (dVar 6) aNil)) (dVar 7)) [6, 7] [7]) aNil)))) sNext)) (sRet (dVar 3)))))
end DL
namespace DL
open PySem PySem.Spec PyProof.Rows L2
end DL
namespace DL
open PySem PySem.Spec PyProof.Rows L2
end DL
namespace DL
open PySem PySem.Spec PyProof.Rows L2
end DL
namespace DL
open PySem PySem.Spec PyProof.Rows L2
theorem CMade.mono {b : Book} {hp : Heap'} {fs gs : Str → List Nat} {z : Str} {m : Nat} (c : CMade b hp fs z m) (h : ∀ t ∈ takesL b z, ∀ n ∈ fs t, n ∈ gs t) : CMade b hp gs z m := by
  obtain ⟨p, s, j, e⟩ := c
  exact ⟨p, s, j.mono fun q ⟨t, ht, hq⟩ => ⟨t, ht, h t ht q hq⟩, e⟩
end DL
namespace DL
open PySem PySem.Spec PyProof.Rows L2
set_option maxHeartbeats 0 in
theorem bit_add_all : ((List.range 256).all fun m => (List.range 8).all fun x => m.testBit x || (decide (m + 2 ^ x < 256) && (List.range 9).all fun i => (m + 2 ^ x).testBit i == (m.testBit i || decide (i = x)))) = true := by decide +kernel
theorem bit_add {m x : Nat} (hm : m < 256) (hx : x < 8) (hb : m.testBit x = false) : m + 2 ^ x < 256 ∧ ∀ i, (m + 2 ^ x).testBit i = (m.testBit i || decide (i = x)) := by
  have := List.all_eq_true.mp (List.all_eq_true.mp bit_add_all m (List.mem_range.mpr hm)) x (List.mem_range.mpr hx)
  rw [hb, Bool.false_or, Bool.and_eq_true, decide_eq_true_eq] at this
  refine ⟨this.1, fun i => ?_⟩
  by_cases hi : i < 9
  · exact beq_iff_eq.mp (List.all_eq_true.mp this.2 i (List.mem_range.mpr hi))
  · have big : ∀ k, k < 256 → k.testBit i = false := fun k hk => by
      cases e : k.testBit i with
      | false => rfl
      | true => have := bit_lt hk e; omega
    rw [big _ this.1, big _ hm]
    simp; omega
def In8 (L : List Int) : Prop := ∀ i ∈ L, 0 ≤ i ∧ i < 8
theorem bitsL_cons (x : Int) (L : List Int) : bitsL (x :: L) = 2 ^ x.toNat + bitsL L := by unfold bitsL; simp
theorem bits_list : ∀ {L : List Int}, L.Nodup → In8 L → bitsL L < 256 ∧ ∀ i : Nat, (bitsL L).testBit i = decide ((i : Int) ∈ L)
  | [], _, _ => ⟨by decide, fun i => by simp [bitsL]⟩
  | x :: L, nd, h8 => by
    obtain ⟨nx, nd'⟩ := List.nodup_cons.mp nd
    obtain ⟨lt, tb⟩ := bits_list nd' fun i hi => h8 i (List.mem_cons_of_mem _ hi)
    have hx := h8 x List.mem_cons_self
    have ex : ((x.toNat : Nat) : Int) = x := by omega
    have hb : (bitsL L).testBit x.toNat = false := by rw [tb, ex]; exact decide_eq_false nx
    obtain ⟨a, c⟩ := bit_add lt (by omega : x.toNat < 8) hb
    rw [bitsL_cons, Nat.add_comm]
    refine ⟨a, fun i => ?_⟩
    rw [c, tb, Bool.eq_iff_iff, Bool.or_eq_true, decide_eq_true_eq, decide_eq_true_eq, decide_eq_true_eq, List.mem_cons]
    constructor
    · rintro (h | h)
      · exact .inr h
      · exact .inl (by omega)
    · rintro (h | h)
      · exact .inr (by omega)
      · exact .inl h
theorem mem_setI {n : Nat} (hn : n < 256) {i : Int} : i ∈ setI n ↔ 0 ≤ i ∧ n.testBit i.toNat = true := by
  unfold setI
  rw [List.mem_map]
  constructor
  · rintro ⟨j, hj, rfl⟩
    exact ⟨by omega, by rw [Int.toNat_natCast]; exact (mem_setN hn).mp hj⟩
  · rintro ⟨h0, h⟩
    exact ⟨i.toNat, (mem_setN hn).mpr h, by omega⟩
theorem setI_nodup (n : Nat) : (setI n).Nodup := (setI_up n).imp fun h e => by omega
theorem set_list {L : List Int} (nd : L.Nodup) (h8 : In8 L) : (setI (bitsL L)).Perm L := by
  obtain ⟨lt, tb⟩ := bits_list nd h8
  refine (List.perm_ext_iff_of_nodup (setI_nodup _) nd).mpr fun i => ?_
  rw [mem_setI lt, tb, decide_eq_true_eq]
  constructor
  · rintro ⟨h0, h⟩
    rw [show ((i.toNat : Nat) : Int) = i by omega] at h
    exact h
  · intro h
    have := (h8 i h).1
    exact ⟨this, by rw [show ((i.toNat : Nat) : Int) = i by omega]; exact h⟩
theorem wt_list {hp : Heap'} {L : List Int} (nd : L.Nodup) (h8 : In8 L) : wt hp (bitsL L) = (L.map (rawW hp)).sum := sum_perm (set_list nd h8) _
theorem bits_sub {L M : List Int} (nL : L.Nodup) (nM : M.Nodup) (h8 : In8 M) (h : ∀ i ∈ L, i ∈ M) : sub (bitsL L) (bitsL M) = true := sub_iff.mpr fun i hi => by
  rw [(bits_list nL fun i hi => h8 i (h i hi)).2] at hi
  rw [(bits_list nM h8).2]
  exact decide_eq_true (h _ (of_decide_eq_true hi))
end DL
namespace DL
open PySem PySem.Spec PyProof.Rows L2
theorem things_ne {names : List Str} : ∀ (t : Tree), t.okT names → t.things ≠ []
  | .leaf n, _ => by rw [Tree.things]; simp
  | .node z (t :: ts), h => by
    rw [Tree.okT] at h
    have h3 := h.2.2
    rw [okTs] at h3
    rw [Tree.things, thingsTs]
    intro e
    exact things_ne t h3.1 (List.append_eq_nil_iff.mp e).1
  | .node z [], h => by rw [Tree.okT] at h; exact absurd rfl h.2.1
end DL
namespace DL
open PySem PySem.Spec PyProof.Rows L2
def costT (c : Str → Int) (t : Tree) : Int := (t.lands.map c).sum
def costTs (c : Str → Int) (ts : List Tree) : Int := ((landsTs ts).map c).sum
def Nn (c : Str → Int) (b : Book) : Prop := ∀ z ∈ b.names, 0 ≤ c z ∧ c z ≤ 9999
structure GT (b : Book) (hp : Heap') (z : Str) (n : Nat) (t : Tree) : Prop where
  ok : t.okT b.names
  th : t.things.Perm (setI n)
  ld : t.land b hp = some z
structure GS (b : Book) (hp : Heap') (z : Str) (n : Nat) (ts : List Tree) : Prop where
  ok : okTs b.names ts
  ne : ts ≠ []
  th : (thingsTs ts).Perm (setI n)
  ld : ∀ t ∈ ts, ∃ y ∈ takesL b z, t.land b hp = some y
theorem set_rest {n p : Nat} (hn : n < 256) (s : sub p n = true) : (setI p ++ setI (n - p)).Perm (setI n) := by
  have hp := lt_of_sub hn s
  have hr := lt_of_sub hn (rest_sub hn s)
  have key : ∀ i, i ∈ setI (n - p) ↔ i ∈ setI n ∧ i ∉ setI p := fun i => by
    rw [mem_setI hr, mem_setI hn, mem_setI hp, rest_bit hn s, Bool.and_eq_true, Bool.not_eq_true']
    constructor
    · rintro ⟨h0, h1, h2⟩
      exact ⟨⟨h0, h1⟩, fun h => by rw [h.2] at h2; cases h2⟩
    · rintro ⟨⟨h0, h1⟩, h2⟩
      refine ⟨h0, h1, ?_⟩
      cases e : p.testBit i.toNat with
      | false => rfl
      | true => exact absurd ⟨h0, e⟩ h2
  refine (List.perm_ext_iff_of_nodup ?_ (setI_nodup n)).mpr fun i => ?_
  · refine List.nodup_append.mpr ⟨setI_nodup p, setI_nodup _, fun i hi j hj e => ?_⟩
    subst e
    exact ((key i).mp hj).2 hi
  · rw [List.mem_append, key]
    constructor
    · rintro (h | h)
      · exact (sub_mem hn hp).mp s i h
      · exact h.1
    · intro h
      by_cases c : i ∈ setI p
      · exact .inl c
      · exact .inr ⟨h, c⟩
end DL
namespace DL
open PySem PySem.Spec PyProof.Rows L2
theorem setI_neT {n : Nat} (hn : n < 256) (n0 : n ≠ 0) : ∃ x r, setI n = x :: r := by
  cases e : setI n with
  | nil => exact absurd (setI_inj hn (by decide) (by rw [e]; decide)) n0
  | cons x r => exact ⟨x, r, rfl⟩

structure TrM (b : Book) (m : Nat) (t : Tree) : Prop where
  ok : t.okT b.names
  th : t.things.Perm (setI m)
  ht : t.ht < (setI m).length
  sz : t.size < 2 * (setI m).length
structure RwM (b : Book) (m : Nat) (r : List Tree) : Prop where
  ok : okTs b.names r
  th : (thingsTs r).Perm (setI m)
  ht : htTs r ≤ (setI m).length - 1
  sz : sizeTs r + r.length ≤ 2 * (setI m).length
theorem set_two {m p : Nat} (hm : m < 256) (hp : p ∈ partsN m) : (setI p ++ setI (m ^^^ p)).Perm (setI m) ∧ (setI p).length + (setI (m ^^^ p)).length = (setI m).length ∧ m ^^^ p < 256 ∧ p < 256 ∧ 1 ≤ (setI p).length := by
  obtain ⟨p0, s⟩ := mem_parts.mp hp
  have e := minus_xor hm s
  have le := sub_le s
  have pm := set_rest hm s
  rw [e] at pm
  obtain ⟨x, r, ex⟩ := setI_neT (show p < 256 by omega) p0
  refine ⟨pm, by have := pm.length_eq; rwa [List.length_append] at this, by omega, by omega, by rw [ex]; simp⟩
theorem xor_pos {m p : Nat} (hm : m < 256) (hp : p ∈ partsN m) (ne : p ≠ m) : m ^^^ p ≠ 0 := by
  obtain ⟨p0, s⟩ := mem_parts.mp hp
  have e := minus_xor hm s
  have le := sub_le s
  omega
theorem rwM_cons {b : Book} {m p : Nat} {t : Tree} {r : List Tree} (hm : m < 256) (hp : p ∈ partsN m) (a : TrM b p t) (c : RwM b (m ^^^ p) r) : RwM b m (t :: r) := by
  obtain ⟨pm, le, l1, l2, l3⟩ := set_two hm hp
  have h1 := a.ht
  have h2 := c.ht
  have h3 := a.sz
  have h4 := c.sz
  refine ⟨⟨a.ok, c.ok⟩, ?_, ?_, ?_⟩
  · rw [thingsTs]
    exact (a.th.append c.th).trans pm
  · rw [htTs]; omega
  · rw [sizeTs, List.length_cons]; omega
theorem trM_node {b : Book} {m p : Nat} {t : Tree} {r : List Tree} {z : Str} (hm : m < 256) (hz : z ∈ b.names) (hp : p ∈ partsN m) (ne : p ≠ m) (a : TrM b p t) (c : RwM b (m ^^^ p) r) : TrM b m (.node z (t :: r)) := by
  obtain ⟨pm, le, l1, l2, l3⟩ := set_two hm hp
  obtain ⟨x, y, ex⟩ := setI_neT l1 (xor_pos hm hp ne)
  have l4 : 1 ≤ (setI (m ^^^ p)).length := by rw [ex]; simp
  have w := rwM_cons hm hp a c
  have h1 := a.ht
  have h2 := c.ht
  have h3 := a.sz
  have h4 := c.sz
  have rl : 1 ≤ r.length := by
    cases r with
    | nil => have := c.th.length_eq; rw [thingsTs, List.length_nil] at this; omega
    | cons _ _ => simp
  refine ⟨⟨hz, by simp, w.ok⟩, ?_, ?_, ?_⟩
  · rw [Tree.things]; exact w.th
  · rw [Tree.ht, htTs]; omega
  · rw [Tree.size, sizeTs]; omega
theorem fam_ok {b : Book} {hp : Heap'} {ms : MsL} : ∀ k, (∀ m z, m < 256 → z ∈ b.names → ∀ t ∈ (famG b hp ms k).tr m z, TrM b m t ∧ t.land b hp = some z) ∧ (∀ m, m < 256 → ∀ t ∈ (famG b hp ms k).bl m, TrM b m t) ∧ (∀ m, m < 256 → ∀ r ∈ (famG b hp ms k).rw m, RwM b m r)
  | 0 => ⟨fun _ _ _ _ _ h => absurd h List.not_mem_nil, fun _ _ _ h => absurd h List.not_mem_nil, fun _ _ _ h => absurd h List.not_mem_nil⟩
  | k + 1 => by
    obtain ⟨i1, i2, i3⟩ := fam_ok (b := b) (hp := hp) (ms := ms) k
    refine ⟨fun m z hm hz t ht => ?_, fun m hm t ht => ?_, fun m hm r hr => ?_⟩
    · obtain ⟨p, hpm, ht⟩ := List.mem_flatMap.mp ht
      split at ht
      · rename_i c
        obtain ⟨r, hr, ht⟩ := List.mem_flatMap.mp ht
        obtain ⟨ht, hl⟩ := List.mem_filter.mp ht
        obtain ⟨t', ht', rfl⟩ := List.mem_map.mp ht
        obtain ⟨-, -, l1, l2, -⟩ := set_two hm hpm
        exact ⟨trM_node hm hz hpm c.2 (i2 p l2 t' ht') (i3 _ l1 r hr), of_decide_eq_true hl⟩
      · exact absurd ht List.not_mem_nil
    · have ht : t ∈ (if (setI m).length = 1 then (setI m).map Tree.leaf else (b.names.filter fun y => decide (mAt ms m y ≠ 0)).flatMap fun y => (famG b hp ms k).tr m y) := ht
      split at ht
      · rename_i c
        obtain ⟨i, ei⟩ := List.length_eq_one_iff.mp c
        rw [ei] at ht
        rw [List.map_singleton] at ht
        rw [List.mem_singleton.mp ht]
        exact ⟨trivial, by rw [ei, Tree.things], by rw [ei, Tree.ht]; simp, by rw [ei, Tree.size]; simp⟩
      · obtain ⟨y, hy, ht⟩ := List.mem_flatMap.mp ht
        exact (i1 m y hm (List.mem_filter.mp hy).1 t ht).1
    · have hr : r ∈ (if m = 0 then [[]] else (partsN m).flatMap fun p => if p &&& lowN m ≠ 0 then ((famG b hp ms k).bl p).flatMap fun t => ((famG b hp ms k).rw (m ^^^ p)).map fun r => t :: r else []) := hr
      split at hr
      · rename_i c
        rw [List.mem_singleton.mp hr, c]
        exact ⟨trivial, by rw [thingsTs]; exact List.Perm.of_eq (by decide), by rw [htTs]; exact Nat.zero_le _, by rw [sizeTs]; simp⟩
      · obtain ⟨p, hpm, hr⟩ := List.mem_flatMap.mp hr
        split at hr
        · obtain ⟨t, ht, hr⟩ := List.mem_flatMap.mp hr
          obtain ⟨r', hr', rfl⟩ := List.mem_map.mp hr
          obtain ⟨-, -, l1, l2, -⟩ := set_two hm hpm
          exact rwM_cons hm hpm (i2 p l2 t ht) (i3 _ l1 r' hr')
        · exact absurd hr List.not_mem_nil
def tB (n : Nat) : Nat := [0, 1, 4, 52, 1124, 34004].getD n 0
def tR (n : Nat) : Nat := [1, 1, 5, 65, 1405, 42505].getD n 0
def tT (n : Nat) : Nat := [0, 0, 1, 13, 281, 8501].getD n 0
theorem tab_R : ∀ m : Nat, m < 32 → m ≠ 0 → ((partsN m).map fun p => if p &&& lowN m ≠ 0 then tB (setI p).length * tR (setI (m ^^^ p)).length else 0).sum ≤ tR (setI m).length := by decide +kernel
theorem tab_T : ∀ m : Nat, m < 32 → ((partsN m).map fun p => if p &&& lowN m ≠ 0 ∧ p ≠ m then tR (setI (m ^^^ p)).length * tB (setI p).length else 0).sum ≤ tT (setI m).length := by decide +kernel
theorem tab_B : ∀ m : Nat, m < 32 → m ≠ 0 → 4 * tT (setI m).length ≤ tB (setI m).length ∧ 1 ≤ tB (setI m).length := by decide +kernel
theorem tab_le : ∀ m : Nat, m < 32 → tB (setI m).length ≤ 50000 ∧ tR (setI m).length ≤ 50000 ∧ tT (setI m).length ≤ 50000 := by decide +kernel
theorem flat_le {α β : Type} {l : List α} {f : α → List β} {n : Nat} (h : ∀ x ∈ l, (f x).length ≤ n) : (l.flatMap f).length ≤ l.length * n := by
  induction l with
  | nil => simp
  | cons x l ih =>
    rw [List.flatMap_cons, List.length_append, List.length_cons, Nat.add_mul, Nat.one_mul]
    have := h x List.mem_cons_self
    have := ih fun y hy => h y (List.mem_cons_of_mem _ hy)
    omega
theorem flat_sum {α β : Type} {l : List α} {f : α → List β} {g : α → Nat} (h : ∀ x ∈ l, (f x).length ≤ g x) : (l.flatMap f).length ≤ (l.map g).sum := by
  induction l with
  | nil => simp
  | cons x l ih =>
    rw [List.flatMap_cons, List.length_append, List.map_cons, List.sum_cons]
    have := h x List.mem_cons_self
    have := ih fun y hy => h y (List.mem_cons_of_mem _ hy)
    omega
theorem fam_len {b : Book} {hp : Heap'} {ms : MsL} (n4 : b.names.length ≤ 4) : ∀ k, (∀ m z, m < 32 → ((famG b hp ms k).tr m z).length ≤ tT (setI m).length) ∧ (∀ m, m < 32 → m ≠ 0 → ((famG b hp ms k).bl m).length ≤ tB (setI m).length) ∧ (∀ m, m < 32 → ((famG b hp ms k).rw m).length ≤ tR (setI m).length)
  | 0 => ⟨fun _ _ _ => Nat.zero_le _, fun _ _ _ => Nat.zero_le _, fun _ _ => Nat.zero_le _⟩
  | k + 1 => by
    obtain ⟨i1, i2, i3⟩ := fam_len (b := b) (hp := hp) (ms := ms) n4 k
    have sm : ∀ {m p : Nat}, m < 32 → p ∈ partsN m → p < 32 ∧ p ≠ 0 ∧ m ^^^ p < 32 := fun {m p} hm hpm => by
      obtain ⟨p0, s⟩ := mem_parts.mp hpm
      have e := minus_xor (by omega) s
      have le := sub_le s
      exact ⟨by omega, p0, by omega⟩
    refine ⟨fun m z hm => ?_, fun m hm m0 => ?_, fun m hm => ?_⟩
    · refine Nat.le_trans (flat_sum fun p hpm => ?_) (tab_T m hm)
      obtain ⟨p3, p0, x3⟩ := sm hm hpm
      by_cases c : p &&& lowN m ≠ 0 ∧ p ≠ m
      · rw [if_pos c, if_pos c]
        refine Nat.le_trans (flat_le (n := tB (setI p).length) fun r hr => ?_) (Nat.mul_le_mul (i3 _ x3) (Nat.le_refl _))
        refine Nat.le_trans (List.length_filter_le _ _) ?_
        rw [List.length_map]
        exact i2 p p3 p0
      · rw [if_neg c, if_neg c]; exact Nat.le_refl _
    · obtain ⟨h1, h2⟩ := tab_B m hm m0
      show (if (setI m).length = 1 then (setI m).map Tree.leaf else (b.names.filter fun y => decide (mAt ms m y ≠ 0)).flatMap fun y => (famG b hp ms k).tr m y).length ≤ _
      split
      · rename_i c; rw [List.length_map]; rw [c] at h2 ⊢; exact h2
      · refine Nat.le_trans (flat_le fun y _ => i1 m y hm) ?_
        have := List.length_filter_le (fun y => decide (mAt ms m y ≠ 0)) b.names
        exact Nat.le_trans (Nat.mul_le_mul (show _ ≤ 4 by omega) (Nat.le_refl _)) h1
    · show (if m = 0 then [[]] else (partsN m).flatMap fun p => if p &&& lowN m ≠ 0 then ((famG b hp ms k).bl p).flatMap fun t => ((famG b hp ms k).rw (m ^^^ p)).map fun r => t :: r else []).length ≤ _
      split
      · rename_i c; rw [c]; decide +kernel
      · rename_i c
        refine Nat.le_trans (flat_sum fun p hpm => ?_) (tab_R m hm c)
        obtain ⟨p3, p0, x3⟩ := sm hm hpm
        by_cases c : p &&& lowN m ≠ 0
        · rw [if_pos c, if_pos c]
          refine Nat.le_trans (flat_le (n := tR (setI (m ^^^ p)).length) fun r hr => ?_) (Nat.mul_le_mul (i2 p p3 p0) (Nat.le_refl _))
          rw [List.length_map]
          exact i3 _ x3
        · rw [if_neg c, if_neg c]; exact Nat.le_refl _
end DL
namespace DL
open PySem PySem.Spec PyProof.Rows L2
def den_Groupings_blocks (G : Gx) : SD := (sSeq (sPar [3, 4] (aCons (dCall 1 S_set_of (aCons (dVar 1) aNil)) (aCons (dCall 2 S_takes (aCons (dFld (G.C "Groupings") "book" (dVar 0)) (aCons (dVar 2) aNil))) aNil))) (sSeq (sIf (dTest (dBin fEq (dCB fLen (aCons (dVar 3) aNil)) (dC (.int 1)))) (sSeq (sSet 5 (dBin fIx (dBin fIx (dFld (G.C "Groupings") "heap" (dVar 0)) (dBin fIx (dVar 3) (dC (.int 0)))) (dC (.int 1)))) (sRet (dLst (aCons (dTup (aCons (dIfE (dAnd (dTest (dBin fNotN (dVar 5) (dC .non))) (dTest (dBin fIn (dVar 5) (dVar 4)))) (dBin fIx (dFld (G.C "Groupings") "weights" (dVar 0)) (dVar 1)) (dC (.int 0))) (aCons (dC (.int 1)) aNil))) aNil)))) sNext) (sSeq (sSet 6 (dLstH aNil)) (sSeq (sFor (dIt (dFld (G.C "Groupings") "names" (dVar 0))) (.nm 7) (sIf (dTruth (dDGet (dFld (G.C "Groupings") "many" (dVar 0)) (dTup (aCons (dVar 1) (aCons (dVar 7) aNil))))) (sExpr (dBM "list" fAppend (dVar 6) (aCons (dTup (aCons (dIfE (dTest (dBin fIn (dVar 7) (dVar 4))) (dBin fIx (dFld (G.C "Groupings") "weights" (dVar 0)) (dVar 1)) (dC (.int 0))) (aCons (dDGet (dFld (G.C "Groupings") "many" (dVar 0)) (dTup (aCons (dVar 1) (aCons (dVar 7) aNil)))) aNil))) aNil))) sNext)) (sRet (dVar 6))))))
def den_Groupings_parted (G : Gx) : SD := (sSeq (sPar [3, 4] (aCons (dBin fBand (dVar 1) (dUn fNeg (dVar 1))) (aCons dNewK aNil))) (sSeq (sFor (dIt (dCall 1 S_parts_of (aCons (dVar 1) aNil))) (.nm 5) (sIf (dTruth (dBin fBand (dVar 5) (dVar 3))) (sSeq (sSet 6 (dIfE (dTest (dBin fEq (dVar 5) (dVar 1))) (dDisp [((dC (.int 0)), (dC (.int 1)))]) (dDGet (dFld (G.C "Groupings") "ways" (dVar 0)) (dTup (aCons (dBin fBxor (dVar 1) (dVar 5)) (aCons (dVar 2) aNil)))))) (sFor (dIt (dMeth (G.C "Groupings") "blocks" 3 (S_Groupings_blocks G) (dVar 0) (aCons (dVar 5) (aCons (dVar 2) aNil)))) (.tp [(.nm 7), (.nm 8)]) (sFor (dItems (dVar 6)) (.tp [(.nm 9), (.nm 10)]) (sDPut (dVar 4) (dBin fAdd (dVar 7) (dVar 9)) (dBin fAdd (dDGet2 (dVar 4) (dBin fAdd (dVar 7) (dVar 9)) (dC (.int 0))) (dBin fMulA (dVar 8) (dVar 10))))))) sNext)) (sRet (dVar 4))))
def den_Groupings_count (G : Gx) : SD := (sSeq (sPar [3, 4] (aCons (dBin fBand (dVar 1) (dUn fNeg (dVar 1))) (aCons (dC (.int 0)) aNil))) (sSeq (sFor (dIt (dCall 1 S_parts_of (aCons (dVar 1) aNil))) (.nm 5) (sIf (dAnd (dTruth (dBin fBand (dVar 5) (dVar 3))) (dTest (dBin fNe (dVar 5) (dVar 1)))) (sFor (dIt (dMeth (G.C "Groupings") "blocks" 3 (S_Groupings_blocks G) (dVar 0) (aCons (dVar 5) (aCons (dVar 2) aNil)))) (.tp [(.nm 6), (.nm 7)]) (sFor (dItems (dDGet (dFld (G.C "Groupings") "ways" (dVar 0)) (dTup (aCons (dBin fBxor (dVar 1) (dVar 5)) (aCons (dVar 2) aNil))))) (.tp [(.nm 8), (.nm 9)]) (sIf (dTruth (dCall 4 S_is_enough (aCons (dFld (G.C "Groupings") "book" (dVar 0)) (aCons (dVar 2) (aCons (dBin fAdd (dVar 6) (dVar 8)) (aCons (dBin fIx (dFld (G.C "Groupings") "weights" (dVar 0)) (dVar 1)) aNil)))))) (sAug 4 (fI0 fun i j => .int (i + j)) (dBin fMulA (dVar 7) (dVar 9))) sNext))) sNext)) (sRet (dVar 4))))
def den_Groupings___init__ (G : Gx) : SD := (sSeq (sFlds (G.C "Groupings") 0 ["book", "heap"] (aCons (dVar 1) (aCons (dVar 2) aNil))) (sSeq (sFldA (G.C "Groupings") "names" (dVar 0) (dCall 1 S_names_of (aCons (dVar 1) aNil))) (sSeq (sFldA (G.C "Groupings") "whole" (dVar 0) (dBin fSub (dBin fShl (dC (.int 1)) (dCB fLen (aCons (dVar 2) aNil))) (dC (.int 1)))) (sSeq (sFldA (G.C "Groupings") "weights" (dVar 0) (dLc (dRange1 (aCons (dBin fAdd (dFld (G.C "Groupings") "whole" (dVar 0)) (dC (.int 1))) aNil)) (.nm 3) tTrue (dCB fSum (aCons (dLc (dIt (dCall 1 S_set_of (aCons (dVar 3) aNil))) (.nm 5) tTrue (dBin fIx (dBin fIx (dVar 2) (dVar 5)) (dC (.int 0))) [5]) aNil)) [3])) (sSeq (sFldA (G.C "Groupings") "many" (dVar 0) dNewT) (sSeq (sFldA (G.C "Groupings") "ways" (dVar 0) dNewT) (sFor (dIt (dSortK G.Ts (G.T "Groupings.__init__") (lamQ "Groupings.__init__") (aCons (dListRange2 (aCons (dC (.int 1)) (aCons (dBin fAdd (dFld (G.C "Groupings") "whole" (dVar 0)) (dC (.int 1))) aNil))) aNil) (dCB fLen (aCons (dCall 1 S_set_of (aCons (dVar 0) aNil)) aNil)))) (.nm 3) (sSeq (sFor (dIt (dFld (G.C "Groupings") "names" (dVar 0))) (.nm 4) (sDPut (dFld (G.C "Groupings") "many" (dVar 0)) (dTup (aCons (dVar 3) (aCons (dVar 4) aNil))) (dMeth (G.C "Groupings") "count" 3 (S_Groupings_count G) (dVar 0) (aCons (dVar 3) (aCons (dVar 4) aNil))))) (sFor (dIt (dFld (G.C "Groupings") "names" (dVar 0))) (.nm 4) (sDPut (dFld (G.C "Groupings") "ways" (dVar 0)) (dTup (aCons (dVar 3) (aCons (dVar 4) aNil))) (dMeth (G.C "Groupings") "parted" 3 (S_Groupings_parted G) (dVar 0) (aCons (dVar 3) (aCons (dVar 4) aNil)))))))))))))
def den_how_many_tidy (G : Gx) : SD := (sSeq (sExpr (dCall 2 S_look_land (aCons (dVar 0) (aCons (dVar 2) aNil)))) (sSeq (sIf (dTest (dBin fEq (dCB fLen (aCons (dVar 1) aNil)) (dC (.int 1)))) (sRet (dCB fIntB (aCons (dBin fEq (dBin fIx (dBin fIx (dVar 1) (dC (.int 0))) (dC (.int 1))) (dVar 2)) aNil))) sNext) (sSeq (sSet 3 (dNew (G.C "Groupings") 3 (S_Groupings___init__ G) (aCons (dVar 0) (aCons (dVar 1) aNil)))) (sRet (dDGet (dFld (G.C "Groupings") "many" (dVar 3)) (dTup (aCons (dFld (G.C "Groupings") "whole" (dVar 3)) (aCons (dVar 2) aNil))))))))
end DL
namespace DL
open PySem PySem.Spec PyProof.Rows L2
theorem m_next {ρ : Sl} {h : Hv} {D : AE} {E : PX} (q : D.nx ρ h) : sNext ρ h D E := q
end DL
namespace DL
open PySem PySem.Spec PyProof.Rows L2
end DL
namespace DL
open PySem PySem.Spec PyProof.Rows L2
theorem nd_map {α β : Type} {f : α → β} (hf : ∀ a b, f a = f b → a = b) {l : List α} (h : l.Nodup) : (l.map f).Nodup := List.pairwise_map.mpr (List.Pairwise.imp (fun ne e => ne (hf _ _ e)) h)
end DL
namespace DL
open PySem PySem.Spec PyProof.Rows L2
theorem m_augL {ρ : Sl} {h : Hv} {E : PX} {D : AE} {de : ED} {i : Nat} {a c : Int} (e : ρ[i]? = some (some (.int a))) (hv : EvE ρ h E de (.int c)) (q : D.nx (ρ.set i (some (.int (a + c)))) h) : sAug i (fI0 fun i j => .int (i + j)) de ρ h D E := by
  show match ρ[i]? with | some (some v) => _ | _ => False
  rw [e]
  exact hv _ q
theorem m_inT {h : Hv} {z : Str} {ns : List Str} : EvF h fIn (.str z) (.tup (ns.map .str)) (.bl (decide (z ∈ ns))) := fun Q q => by
  refine ⟨rfl, ?_, Qv q (by rw [inA_str])⟩
  rw [List.all_map, List.all_eq_true]
  intro x _
  rfl
end DL
namespace DL
open PySem PySem.Spec PyProof.Rows L2
end DL
namespace DL
open PySem PySem.Spec PyProof.Rows L2
end DL
namespace DL
open PySem PySem.Spec PyProof.Rows L2
structure LS (Ts : List (Addr × Str)) (t r : Addr) (h : Hv) : Prop where
  T : Town t r h
  tb : Tbs Ts h
section
variable {Ts : List (Addr × Str)} {t r : Addr} {h h' : Hv} {p : Addr} {vs ws : List Val}
theorem LS.new (s : LS Ts t r h) (e : h p = none) : LS Ts t r (put h p (.lst vs)) := ⟨s.T.put (s.T.fresh e).1 (s.T.fresh e).2, s.tb.put e (fun _ z => nomatch z)⟩
theorem LS.ne (s : LS Ts t r h) (e : h p = some (.lst ws)) : p ≠ t ∧ p ≠ r := by
  obtain ⟨c, _, e1⟩ := s.T.tc
  obtain ⟨rs, e2, _⟩ := s.T.rc
  exact ⟨fun z => (by rw [z, e1] at e; cases e), fun z => (by rw [z, e2] at e; cases e)⟩
end
theorem f_gtI {h : Hv} {i j : Int} : EvF h fGt (.int i) (.int j) (.bl (decide (j < i))) := fun Q q => q
end DL
namespace DL
open PySem PySem.Spec PyProof.Rows L2
end DL
namespace DL
open PySem PySem.Spec PyProof.Rows L2
end DL
namespace DL
open PySem PySem.Spec PyProof.Rows L2
end DL
namespace DL
open PySem PySem.Spec PyProof.Rows L2
structure Kp (t r : Addr) (h0 h : Hv) : Prop where
  s : ∀ a o, a ≠ t → a ≠ r → h0 a = some o → h a = some o
  b : ∀ a, h a = some .busy → h0 a = some .busy
def mixT (t r : Addr) (h0 h : Hv) : Hv := fun a => if a = t ∨ a = r then h a else h0 a
section
variable {t r p : Addr} {h0 h h' : Hv} {vs ws : List Val}
theorem Kp.less (k : Kp t r h0 h) (T : Town t r h) : Lss h (mixT t r h0 h) := ⟨fun a => by
  unfold mixT
  split
  · exact .inr rfl
  · rename_i n
    cases e : h0 a with
    | none => exact .inl rfl
    | some o => exact .inr (k.s a o (fun z => n (.inl z)) (fun z => n (.inr z)) e).symm, fun a e => by
  unfold mixT
  split
  · exact e
  · exact k.b a e⟩
theorem Kp.no (k : Kp t r h0 h) (T : Town t r h) (e : h p = none) : h0 p = none := by
  obtain ⟨n1, n2⟩ := T.fresh e
  cases e0 : h0 p with
  | none => rfl
  | some o => rw [k.s p o n1 n2 e0] at e; cases e
theorem Kp.refl (h : Hv) : Kp t r h h := ⟨fun _ _ _ _ e => e, fun _ e => e⟩
end
end DL
namespace DL
open PySem PySem.Spec PyProof.Rows L2
end DL
namespace DL
open PySem PySem.Spec PyProof.Rows L2
end DL
namespace DL
open PySem PySem.Spec PyProof.Rows L2
section
variable {ρ : Sl} {h : Hv} {E : PX} {D : AE} {s1 s2 : SD} {da db dl dx : ED} {Q : PV} {v w : Val} {vs : List Val}
theorem m_ev (a : EvE ρ h E da v) (q : Q v h) : da ρ h Q E := a _ q
theorem m_app {a : Addr} (ho : EvE ρ h E dl (.ref a)) (e : h a = some (.lst vs)) (hl : vs.length < sizeLine) (hx : EvE ρ h E dx w) (q : D.nx ρ (put h a (.lst (vs ++ [w])))) : sExpr (dBM "list" fAppend dl (aCons dx aNil)) ρ h D E := ho _ ⟨by simp only [tyA, e], eva1 hx _ (by simp only [fAppend, e]; exact ⟨hl, q⟩)⟩
end
end DL
namespace DL
open PySem PySem.Spec PyProof.Rows L2
inductive JndC (P : Nat → Int → Prop) : Nat → Int → Prop
  | one {n : Nat} {k : Int} : n ≠ 0 → P n k → JndC P n k
  | more {n p : Nat} {k k' : Int} : sub p n = true → p ≠ 0 → p ≠ n → lowN n &&& p ≠ 0 → P p k → JndC P (n - p) k' → JndC P n (k + k')
theorem JndC.mono {P P' : Nat → Int → Prop} {n : Nat} {k : Int} (j : JndC P n k) (h : ∀ p k, P p k → P' p k) : JndC P' n k := by
  induction j with
  | one n0 hp => exact .one n0 (h _ _ hp)
  | more s p0 pn l hp _ ih => exact .more s p0 pn l (h _ _ hp) ih
theorem JndC.pos {P : Nat → Int → Prop} {n : Nat} {k : Int} (j : JndC P n k) : n ≠ 0 := by
  cases j with
  | one n0 _ => exact n0
  | more s p0 pn _ _ _ => have := sub_le s; omega
def Up (P : Nat → Int → Prop) (n : Nat) (k : Int) : Prop := ∃ k', k' ≤ k ∧ P n k'
theorem JndC.up {P : Nat → Int → Prop} {n : Nat} {k : Int} (j : JndC (Up P) n k) : Up (JndC P) n k := by
  induction j with
  | one n0 hp =>
    obtain ⟨k', h, hp⟩ := hp
    exact ⟨k', h, .one n0 hp⟩
  | more s p0 pn l hp _ ih =>
    obtain ⟨k1, h1, hp⟩ := hp
    obtain ⟨k2, h2, hj⟩ := ih
    exact ⟨k1 + k2, by omega, .more s p0 pn l hp hj⟩
theorem JndC.low {P : Nat → Int → Prop} {Q : Nat → Prop} {n : Nat} {k : Int} (j : JndC P n k) (h : ∀ p k, P p k → Q p) : Jnd Q n := by
  induction j with
  | one n0 hp => exact .one n0 (h _ _ hp)
  | more s p0 pn l hp _ ih => exact .more s p0 pn l (h _ _ hp) ih
def TkC (b : Book) (C : Str → Nat → Int → Prop) (z : Str) (p : Nat) (k : Int) : Prop := ∃ t ∈ takesL b z, C t p k
structure CloC (b : Book) (hp : Heap') (c : Str → Int) (C : Str → Nat → Int → Prop) : Prop where
  raw : ∀ (i : Nat) (w : Int) (z : Str), hp[i]? = some (w, some z) → C z (2 ^ i) 0
  made : ∀ z ∈ b.names, ∀ n, inH hp n → ∀ p, sub p n = true → ∀ k, JndC (TkC b C z) p k → enough b z (wt hp p) (wt hp n) = true → C z n (k + c z)
def Cst (b : Book) (hp : Heap') (c : Str → Int) (z : Str) (n : Nat) (k : Int) : Prop := ∀ C, CloC b hp c C → C z n k
end DL
namespace DL
open PySem PySem.Spec PyProof.Rows L2
abbrev Bst := Str → Nat → Option (Int × Tree)
abbrev Spt := Str → Nat → Option (Int × List Tree)
def OptB (b : Book) (hp : Heap') (c : Str → Int) (z : Str) (n : Nat) (o : Option (Int × Tree)) : Prop :=
  (∀ k t, o = some (k, t) → GT b hp z n t ∧ costT c t = k ∧ t.ht ≤ b.names.length * (setI n).length) ∧ (∀ k', Cst b hp c z n k' → ∃ k t, o = some (k, t) ∧ k ≤ k')
def OptS (b : Book) (hp : Heap') (c : Str → Int) (z : Str) (n : Nat) (o : Option (Int × List Tree)) : Prop :=
  (∀ k ts, o = some (k, ts) → GS b hp z n ts ∧ costTs c ts = k ∧ htTs ts ≤ b.names.length * (setI n).length) ∧ (∀ k', JndC (TkC b (Cst b hp c) z) n k' → ∃ k ts, o = some (k, ts) ∧ k ≤ k')
def cheap (B : Bst) (m : Nat) (k : Int) (w : Str) : Bool := match B w m with
  | some (k', _) => decide (k' ≤ k)
  | none => false
def cntB (b : Book) (B : Bst) (m : Nat) (k : Int) : Nat := b.names.countP (cheap B m k)
structure BMid (b : Book) (hp : Heap') (c : Str → Int) (D : Nat → Prop) (m : Nat) (B : Bst) (S : Spt) : Prop where
  lo : ∀ z ∈ b.names, ∀ n, D n → OptB b hp c z n (B z n) ∧ OptS b hp c z n (S z n)
  nx : ∀ z ∈ b.names, ∀ n, ¬ D n → n ≠ m → B z n = none ∧ S z n = none
  bm : ∀ z ∈ b.names, ∀ k t, B z m = some (k, t) → GT b hp z m t ∧ costT c t = k ∧ t.ht ≤ b.names.length * ((setI m).length - 1) + cntB b B m k
  sm : ∀ z ∈ b.names, ∀ k ts, S z m = some (k, ts) → GS b hp z m ts ∧ costTs c ts = k ∧ htTs ts ≤ b.names.length * ((setI m).length - 1) + cntB b B m k
structure Cand (b : Book) (B : Bst) (S : Spt) (z : Str) (m p : Nat) (y : Str) (k1 : Int) (t : Tree) (k2 : Int) (ts : List Tree) : Prop where
  cp : p ∈ partsN m
  cl : lowN m &&& p ≠ 0
  cy : y ∈ takesL b z
  cb : B y p = some (k1, t)
  cs : (m - p = 0 ∧ k2 = 0 ∧ ts = []) ∨ (m - p ≠ 0 ∧ S z (m - p) = some (k2, ts))
structure FBo (b : Book) (hp : Heap') (c : Str → Int) (D : Nat → Prop) (m : Nat) : Prop where
  fo : FillOk b hp D m
  w1 : ∀ x ∈ hp, 1 ≤ x.1
  nn : Nn c b
theorem FBo.m1 {b : Book} {hp : Heap'} {c : Str → Int} {D : Nat → Prop} {m : Nat} (f : FBo b hp c D m) : 1 ≤ (setI m).length := by
  obtain ⟨x, r, e⟩ := setI_ne f.fo.lt f.fo.m0
  rw [e]; simp
theorem FBo.low {b : Book} {hp : Heap'} {c : Str → Int} {D : Nat → Prop} {m : Nat} (f : FBo b hp c D m) {p : Nat} (p0 : p ≠ 0) (pm : p ≠ m) (s : sub p m = true) : D p ∧ b.names.length * (setI p).length ≤ b.names.length * ((setI m).length - 1) :=
  ⟨f.fo.low p p0 pm s, Nat.mul_le_mul_left _ (by have := pop_lt f.fo.lt p0 s pm; omega)⟩
theorem Cand.off {b : Book} {B : Bst} {S S' : Spt} {z : Str} {m p : Nat} {y : Str} {k1 : Int} {t : Tree} {k2 : Int} {ts : List Tree} (h : Cand b B S z m p y k1 t k2 ts) (e : ∀ n, n ≠ m → S' z n = S z n) : Cand b B S' z m p y k1 t k2 ts :=
  ⟨h.cp, h.cl, h.cy, h.cb, h.cs.imp id fun hs => ⟨hs.1, by
    have := mem_parts.mp h.cp
    rw [e _ (by have := sub_le this.2; omega)]; exact hs.2⟩⟩
end DL
namespace DL
open PySem PySem.Spec PyProof.Rows L2
def encBo (o : Int × Tree) : Val := .tup [.int o.1, o.2.enc]
def encSo (o : Int × List Tree) : Val := .tup [.int o.1, .tup (o.2.map Tree.enc)]
structure DOf (kvs : List (Key × Val)) (f : Nat → Option Val) : Prop where
  ks : ∃ ks : List Nat, kvs.map (·.1) = ks.map (fun (k : Nat) => (Sum.inl (k : Int) : Key)) ∧ ks.Nodup ∧ ∀ k ∈ ks, k < 256
  val : ∀ n : Nat, valA kvs (.inl (n : Int)) = f n
structure Ab where
  ca : Addr
  bt : Addr
  sp : Addr
  ba : Str → Addr
  sa : Str → Addr
def cosD (b : Book) (c : Str → Int) : List (Key × Val) := b.names.map fun z => (.inr z, .int (c z))
def bestF (b : Book) (hp : Heap') (A : Ab) : List (Str × Val) :=
  [("book", encB b), ("heap", encH hp), ("costs", .ref A.ca), ("names", .lst (b.names.map .str)), ("best", .ref A.bt), ("split", .ref A.sp), ("whole", .int ((2 ^ hp.length : Nat) - 1 : Int)), ("weights", .lst ((List.range (2 ^ hp.length)).map fun n => .int (wt hp n)))]
structure BestAt (G : Gx) (h : Hv) (a : Addr) (b : Book) (hp : Heap') (c : Str → Int) (B : Bst) (S : Spt) (A : Ab) : Prop where
  ins : h a = some (.ins (G.C "Best") (bestF b hp A))
  ca : h A.ca = some (.dK (cosD b c))
  bt : h A.bt = some (.dK (refD b A.ba))
  sp : h A.sp = some (.dK (refD b A.sa))
  ba : ∀ z ∈ b.names, ∃ kvs, h (A.ba z) = some (.dK kvs) ∧ DOf kvs (fun n => (B z n).map encBo)
  sa : ∀ z ∈ b.names, ∃ kvs, h (A.sa z) = some (.dK kvs) ∧ DOf kvs (fun n => (S z n).map encSo)
  nb : ∀ z ∈ b.names, ∀ y ∈ b.names, z ≠ y → A.ba z ≠ A.ba y
  ns : ∀ z ∈ b.names, ∀ y ∈ b.names, z ≠ y → A.sa z ≠ A.sa y
  bs : ∀ z ∈ b.names, ∀ y ∈ b.names, A.ba z ≠ A.sa y
  nbt : ∀ z ∈ b.names, A.ba z ≠ A.ca ∧ A.ba z ≠ A.bt ∧ A.ba z ≠ A.sp
  nst : ∀ z ∈ b.names, A.sa z ≠ A.ca ∧ A.sa z ≠ A.bt ∧ A.sa z ≠ A.sp
def OffB (b : Book) (A : Ab) (h h' : Hv) : Prop := ∀ c, (∀ z ∈ b.names, c ≠ A.ba z ∧ c ≠ A.sa z) → h' c = h c
def SmS (b : Book) (S : Spt) : Prop := ∀ z ∈ b.names, ∀ n k ts, S z n = some (k, ts) → ts.length ≤ 8
structure BPre (G : Gx) (h : Hv) (b : Book) (hp : Heap') : Prop where
  wf : WFB b
  ho : HpOk b hp
  w1 : ∀ x ∈ hp, 1 ≤ x.1
  n1 : 1 ≤ hp.length
  tb : Tbs G.Ts h
  ns : ("Best.__init__" : Str) ∈ G.ns
  nz : ∀ z ∈ b.names, okN 0 (.str z) = true
end DL
namespace DL
open PySem PySem.Spec PyProof.Rows L2
end DL
namespace DL
open PySem PySem.Spec PyProof.Rows L2
theorem DOf.len {kvs : List (Key × Val)} {f : Nat → Option Val} (d : DOf kvs f) : kvs.length ≤ 256 := by
  obtain ⟨ks, e, nd, lt⟩ := d.ks
  have := congrArg List.length e
  rw [List.length_map, List.length_map] at this
  rw [this]
  exact nd_len 256 ks nd lt
theorem val_put {kvs : List (Key × Val)} {k k' : Key} {v : Val} : valA (putA kvs k v) k' = if k' = k then some v else valA kvs k' := by
  unfold putA
  split
  · rename_i ha
    induction kvs with
    | nil => cases ha
    | cons x kvs ih =>
      unfold valA at *
      rw [List.map_cons, List.find?_cons, List.find?_cons]
      rw [List.any_cons, Bool.or_eq_true, decide_eq_true_eq] at ha
      by_cases e : x.1 = k
      · rw [if_pos e]
        by_cases e2 : k' = k
        · rw [if_pos e2]
          simp [e, e2]
        · rw [if_neg e2]
          have h1 : decide (x.1 = k') = false := by rw [e]; exact decide_eq_false fun h => e2 h.symm
          simp only [h1]
          by_cases ha2 : (kvs.any fun kv => decide (kv.1 = k)) = true
          · have := ih ha2
            rw [if_neg e2] at this
            exact this
          · have em : kvs.map (fun kv => if kv.1 = k then (kv.1, v) else kv) = kvs := by
              conv => rhs; rw [← List.map_id kvs]
              refine List.map_congr_left fun y hy => ?_
              have : y.1 ≠ k := fun h => ha2 (List.any_eq_true.mpr ⟨y, hy, decide_eq_true h⟩)
              rw [if_neg this]; rfl
            rw [em]
      · rw [if_neg e]
        have ha2 := ha.resolve_left e
        by_cases e3 : x.1 = k'
        · have : k' ≠ k := fun h => e (e3.trans h)
          rw [if_neg this]
          simp [e3]
        · have h1 : decide (x.1 = k') = false := decide_eq_false e3
          simp only [h1]
          exact ih ha2
  · rename_i ha
    unfold valA
    rw [List.find?_append]
    by_cases e : k' = k
    · subst e
      rw [if_pos rfl]
      have : kvs.find? (fun kv => decide (kv.1 = k')) = none := by
        rw [List.find?_eq_none]
        intro x hx h
        exact ha (List.any_eq_true.mpr ⟨x, hx, h⟩)
      rw [this]
      simp
    · rw [if_neg e]
      cases hf : kvs.find? (fun kv => decide (kv.1 = k')) with
      | some x => simp
      | none =>
        have : decide (k = k') = false := decide_eq_false fun h => e h.symm
        simp [this]
theorem DOf.put {kvs : List (Key × Val)} {f : Nat → Option Val} (d : DOf kvs f) {m : Nat} (hm : m < 256) (v : Val) : DOf (putA kvs (.inl (m : Int)) v) (fun n => if n = m then some v else f n) := by
  refine ⟨?_, fun n => ?_⟩
  · obtain ⟨ks, e, nd, lt⟩ := d.ks
    unfold putA
    split
    · refine ⟨ks, ?_, nd, lt⟩
      rw [List.map_map, ← e]
      refine List.map_congr_left fun kv _ => ?_
      show (if kv.1 = _ then (kv.1, _) else kv).1 = kv.1
      split <;> rfl
    · rename_i hn
      refine ⟨ks ++ [m], by rw [List.map_append, List.map_append, e]; rfl, ?_, ?_⟩
      · rw [List.nodup_append]
        refine ⟨nd, by simp, ?_⟩
        intro a ha b hb hab
        rw [List.mem_singleton] at hb
        subst hb; subst hab
        apply hn
        have : (Sum.inl (a : Int) : Key) ∈ kvs.map (·.1) := by rw [e]; exact List.mem_map.mpr ⟨a, ha, rfl⟩
        obtain ⟨kv, hkv, ek⟩ := List.mem_map.mp this
        exact List.any_eq_true.mpr ⟨kv, hkv, by rw [ek]; simp⟩
      · intro k hk
        rcases List.mem_append.mp hk with h | h
        · exact lt k h
        · rw [List.mem_singleton] at h; omega
  · rw [val_put, d.val n]
    by_cases e : n = m
    · subst e; rw [if_pos rfl, if_pos rfl]
    · rw [if_neg e, if_neg (fun h => e (by have := Sum.inl.inj h; omega))]
theorem DOf.nil : DOf [] (fun _ => none) := ⟨⟨[], rfl, List.nodup_nil, fun _ h => nomatch h⟩, fun _ => rfl⟩
theorem DOf.congr {kvs : List (Key × Val)} {f g : Nat → Option Val} (d : DOf kvs f) (h : ∀ n, f n = g n) : DOf kvs g := ⟨d.ks, fun n => (d.val n).trans (h n)⟩
section
variable {G : Gx} {h : Hv} {a : Addr} {b : Book} {hp : Heap'} {c : Str → Int} {B : Bst} {S : Spt} {A : Ab}
theorem BestAt.ne (t : BestAt G h a b hp c B S A) {z : Str} (hz : z ∈ b.names) : a ≠ A.sa z ∧ a ≠ A.ba z := by
  obtain ⟨k1, e1, _⟩ := t.ba z hz
  obtain ⟨k2, e2, _⟩ := t.sa z hz
  exact ⟨fun e => (by have h1 := t.ins; rw [e, e2] at h1; cases h1), fun e => (by have h1 := t.ins; rw [e, e1] at h1; cases h1)⟩
theorem OffB.refl (h : Hv) : OffB b A h h := fun _ _ => rfl
theorem OffB.trans {h1 h2 : Hv} (x : OffB b A h h1) (y : OffB b A h1 h2) : OffB b A h h2 := fun c hc => (y c hc).trans (x c hc)
variable {E : PX} {Q : PV} {ρ : Sl} {i : Nat}
variable {ds dz dn : ED}
end
end DL
namespace DL
open PySem PySem.Spec PyProof.Rows L2
theorem gkV_inj {a b : GK} (h : gkV a = gkV b) : a = b := by
  obtain ⟨n, z⟩ := a
  obtain ⟨m, y⟩ := b
  unfold gkV at h
  simp only [List.cons.injEq, Sum.inl.injEq, Sum.inr.injEq, and_true] at h
  rw [show n = m by omega, h.2]
theorem val_ms {ms : MsL} {k : GK} (h : ∃ v, (k, v) ∈ ms) : valA (encMs ms) (gkV k) = some (.int (mAt ms k.1 k.2)) := by
  obtain ⟨v, h⟩ := h
  unfold valA encMs mAt
  induction ms with
  | nil => cases h
  | cons e ms ih =>
    rw [List.map_cons, List.find?_cons, List.find?_cons]
    by_cases c : e.1 = k
    · rw [show decide (gkV e.1 = gkV k) = true from decide_eq_true (by rw [c]), show decide (e.1 = (k.1, k.2)) = true from decide_eq_true c]
      rfl
    · rw [show decide (gkV e.1 = gkV k) = false from decide_eq_false fun z => c (gkV_inj z), show decide (e.1 = (k.1, k.2)) = false from decide_eq_false c]
      rcases List.mem_cons.mp h with z | z
      · exact absurd (by rw [← z]) c
      · exact ih z
theorem val_ws {ws : WsL} {wa : GK → Addr} {k : GK} (h : ∃ v, (k, v) ∈ ws) : valA (encWs ws wa) (gkV k) = some (.ref (wa k)) ∧ (k, wAt ws k.1 k.2) ∈ ws := by
  obtain ⟨v, h⟩ := h
  unfold valA encWs wAt
  induction ws with
  | nil => cases h
  | cons e ws ih =>
    rw [List.map_cons, List.find?_cons, List.find?_cons]
    by_cases c : e.1 = k
    · rw [show decide (gkV e.1 = gkV k) = true from decide_eq_true (by rw [c]), show decide (e.1 = (k.1, k.2)) = true from decide_eq_true c]
      refine ⟨by rw [c]; rfl, ?_⟩
      show (k, e.2) ∈ e :: ws
      rw [← c]
      exact List.mem_cons_self
    · rw [show decide (gkV e.1 = gkV k) = false from decide_eq_false fun z => c (gkV_inj z), show decide (e.1 = (k.1, k.2)) = false from decide_eq_false c]
      rcases List.mem_cons.mp h with z | z
      · exact absurd (by rw [← z]) c
      · obtain ⟨h1, h2⟩ := ih z
        exact ⟨h1, List.mem_cons_of_mem _ h2⟩
theorem get_encI (d : List (Int × Int)) (k : Int) : (valA (encI d) (.inl k)).getD (.int 0) = .int (getI d k) := by
  unfold valA encI getI
  induction d with
  | nil => rfl
  | cons p d ih =>
    rw [List.map_cons, List.find?_cons, List.find?_cons]
    by_cases c : p.1 = k
    · rw [show decide ((Sum.inl p.1 : Key) = Sum.inl k) = true from decide_eq_true (by rw [c]), show decide (p.1 = k) = true from decide_eq_true c]
      rfl
    · rw [show decide ((Sum.inl p.1 : Key) = Sum.inl k) = false from decide_eq_false fun z => c (Sum.inl.inj z), show decide (p.1 = k) = false from decide_eq_false c]
      exact ih
theorem put_encI (d : List (Int × Int)) (k v : Int) : putA (encI d) (.inl k) (.int v) = encI (putI d k v) := by
  have ha : ((encI d).any fun kv => decide (kv.1 = (Sum.inl k : Key))) = d.any fun p => decide (p.1 = k) := by
    unfold encI
    rw [List.any_map]
    congr 1
    funext p
    show decide ((Sum.inl p.1 : Key) = Sum.inl k) = decide (p.1 = k)
    rw [Bool.eq_iff_iff, decide_eq_true_eq, decide_eq_true_eq]
    exact ⟨fun z => Sum.inl.inj z, fun z => by rw [z]⟩
  unfold putA putI
  rw [ha]
  split
  · unfold encI
    rw [List.map_map, List.map_map]
    refine List.map_congr_left fun p _ => ?_
    show (if (Sum.inl p.1 : Key) = Sum.inl k then ((Sum.inl p.1 : Key), Val.int v) else (Sum.inl p.1, Val.int p.2)) = ((Sum.inl (if p.1 = k then (p.1, v) else p).1 : Key), Val.int (if p.1 = k then (p.1, v) else p).2)
    by_cases c : p.1 = k
    · rw [if_pos (by rw [c]), if_pos c]
    · rw [if_neg fun z => c (Sum.inl.inj z), if_neg c]
  · unfold encI
    rw [List.map_append]; rfl
section
variable {G : Gx} {h h' : Hv} {A : Ag} {b : Book} {hp : Heap'} {ms : MsL} {ws : WsL}
theorem OffG.refl : OffG A ws h h := fun _ _ => rfl
theorem OffG.trans {h2 : Hv} (x : OffG A ws h h') (y : OffG A ws h' h2) : OffG A ws h h2 := fun c hc => (y c hc).trans (x c hc)
theorem GrAt.frz (t : GrAt G h A b hp ms ws) {e : GK × List (Int × Int)} (he : e ∈ ws) {o : Obj} {xs : List (Key × V)} (hd : h' (A.w e.1) = some (.dF o xs (encI e.2))) (ho : ∀ c, c ≠ A.w e.1 → h' c = h c) (nd : (ws.map (·.1)).Nodup) : GrAt G h' A b hp ms ws := by
  have n := t.nw e he
  refine ⟨(ho _ n.1.symm).trans t.ins, (ho _ n.2.1.symm).trans t.ma, (ho _ n.2.2.symm).trans t.wa, fun f hf => ?_, t.nw, t.inj⟩
  by_cases c : f.1 = e.1
  · have : f = e := by
      have : ∀ {l : WsL}, (l.map (·.1)).Nodup → e ∈ l → f ∈ l → f = e := fun {l} => by
        induction l with
        | nil => intro _ h; cases h
        | cons x l ih =>
          intro nd h1 h2
          rw [List.map_cons, List.nodup_cons] at nd
          rcases List.mem_cons.mp h1 with e1 | e1
          · rcases List.mem_cons.mp h2 with e2 | e2
            · rw [e1, e2]
            · exact absurd (by rw [← e1, ← c]; exact List.mem_map_of_mem e2) nd.1
          · rcases List.mem_cons.mp h2 with e2 | e2
            · exact absurd (by rw [← e2, c]; exact List.mem_map_of_mem e1) nd.1
            · exact ih nd.2 e1 e2
      exact this nd he hf
    rw [this]
    exact .inr ⟨o, xs, hd⟩
  · have ne : A.w f.1 ≠ A.w e.1 := t.inj f hf e he c
    rcases t.w f hf with z | ⟨o', xs', z⟩
    · exact .inl ((ho _ ne).trans z)
    · exact .inr ⟨o', xs', (ho _ ne).trans z⟩
theorem GrAt.off (t : GrAt G h A b hp ms ws) (ho : ∀ c, c = A.a ∨ c = A.ma ∨ c = A.wa ∨ (∃ e ∈ ws, c = A.w e.1) → h' c = h c) : GrAt G h' A b hp ms ws :=
  ⟨(ho _ (.inl rfl)).trans t.ins, (ho _ (.inr (.inl rfl))).trans t.ma, (ho _ (.inr (.inr (.inl rfl)))).trans t.wa, fun f hf => by
    have := ho (A.w f.1) (.inr (.inr (.inr ⟨f, hf, rfl⟩)))
    rcases t.w f hf with z | ⟨o', xs', z⟩
    · exact .inl (this.trans z)
    · exact .inr ⟨o', xs', this.trans z⟩, t.nw, t.inj⟩
variable {ρ : Sl} {E : PX} {D : AE} {ds dn dz : ED}
theorem g_fld (t : GrAt G h A b hp ms ws) {f : Str} {v : Val} (hd : EvE ρ h E ds (.ref A.a)) (hf : (grF b hp A.ma A.wa).lookup f = some v) : EvE ρ h E (dFld (G.C "Groupings") f ds) v := ev_fld hd t.ins hf
theorem keys_gk (n : Nat) (z : Str) : keysOf [.int (n : Int), .str z] = some (gkV (n, z)) := rfl
theorem g_many (t : GrAt G h A b hp ms ws) {n : Nat} {z : Str} (hm : ∃ v, (((n, z), v) : GK × Int) ∈ ms) (hd : EvE ρ h E ds (.ref A.a)) (hn : EvE ρ h E dn (.int (n : Int))) (hz : EvE ρ h E dz (.str z)) : EvE ρ h E (dDGet (dFld (G.C "Groupings") "many" ds) (dTup (aCons dn (aCons dz aNil)))) (.int (mAt ms n z)) :=
  ev_dget (g_fld t hd rfl) (ev_tup (eva2 hn hz) (by simp [sizeLine_eq])) (by
    unfold dgetA
    simp only [t.ma, keys_gk, val_ms hm])
theorem g_ways (t : GrAt G h A b hp ms ws) {n : Nat} {z : Str} (hm : ∃ v, (((n, z), v) : GK × List (Int × Int)) ∈ ws) (hd : EvE ρ h E ds (.ref A.a)) (hn : EvE ρ h E dn (.int (n : Int))) (hz : EvE ρ h E dz (.str z)) : EvE ρ h E (dDGet (dFld (G.C "Groupings") "ways" ds) (dTup (aCons dn (aCons dz aNil)))) (.ref (A.w (n, z))) :=
  ev_dget (g_fld t hd rfl) (ev_tup (eva2 hn hz) (by simp [sizeLine_eq])) (by
    unfold dgetA
    simp only [t.wa, keys_gk, (val_ws hm).1])
theorem g_wt (t : GrAt G h A b hp ms ws) {n : Nat} (hn : inH hp n) (hd : EvE ρ h E ds (.ref A.a)) (hdn : EvE ρ h E dn (.int (n : Int))) : EvE ρ h E (dBin fIx (dFld (G.C "Groupings") "weights" ds) dn) (.int (wt hp n)) :=
  ev_bin (g_fld t hd rfl) hdn (f_ixL (vs := (List.range (2 ^ hp.length)).map fun n => .int (wt hp n)) rfl (by
    rw [List.getElem?_map, List.getElem?_range hn]; rfl))
theorem so_items {dd : ED} {d : Addr} {kvs : List (Key × Val)} {t : Tg} {s1 : SD} (hd : EvE ρ h E dd (.ref d)) (dv : DV h d kvs) (q : ∀ o xs h' d', d' = s1 → h' d = some (.dF o xs kvs) → (∀ c, c ≠ d → h' c = h c) → forL (fun h2 => h2 d = some (.dF o xs kvs)) t d' (kvs.map fun p => Val.tup [keyV p.1, p.2]) ρ h' D E) : sFor (dItems dd) t s1 ρ h D E := by
  show dd ρ h _ E
  refine hd _ ?_
  dsimp only
  rcases dv with e | ⟨o, xs, e⟩
  · rw [e]
    exact fun o xs => q o xs _ s1 rfl put_same fun c hc => put_ne hc
  · rw [e]
    exact q o xs h s1 rfl e fun c _ => rfl
end
end DL
namespace DL
open PySem PySem.Spec PyProof.Rows L2
theorem kO_ev {ρ : Sl} {h : Hv} {E : PX} {d1 d2 : ED} {b : Book} {z : Str} {o : Option Str} (e1 : EvE ρ h E d1 (encO o)) (e2 : EvE ρ h E d2 (.tup ((takesL b z).map .str))) : EvT ρ h E (dAnd (dTest (dBin fNotN d1 (dC .non))) (dTest (dBin fIn d1 d2))) (kO b z o) := by
  cases o with
  | none => exact (evt_and (k := false) (l := false) (evt_test (ev_bin e1 ev_c fun Q q => q)) fun z => nomatch z).cast rfl
  | some l => exact (evt_and (k := true) (l := decide (l ∈ takesL b z)) (evt_test (ev_bin e1 ev_c fun Q q => q)) fun _ => evt_test (ev_bin e1 e2 m_inT)).cast (by simp [kO])
def encQ (q : Int × Int) : Val := .tup [.int q.1, .int q.2]
theorem bo_Groupings_blocks (G : Gx) (N : List Str) (hN : N.length = 8) : ∀ as h Q E, as.length = 3 → S_Groupings_blocks G as h Q E → den_Groupings_blocks G (startA N as) h (endsR Q) (RX E) := by
  rintro as h Q E - ⟨A, b, hp, ms, ws, p, z, rfl, t, wf, n8, p0, hpp, hm, q⟩
  unfold den_Groupings_blocks
  simp only [startA, hN]
  have hp8 := inH_lt n8 hpp
  have n4 := names_len wf
  refine ss_par2 (v := encS p) (w := .tup ((takesL b z).map .str)) (eva2 (ev_call (eva1 ev_var) rfl fun Q q => ⟨p, rfl, q⟩) (ev_call (eva2 (g_fld t (ev_var (v := .ref A.a)) rfl) (ev_var (v := .str z))) rfl fun Q q => ⟨b, z, rfl, wf.pl, q⟩)) ?_
  have tlen : EvE [some (.ref A.a), some (.int (p : Int)), some (.str z), some (encS p), some (.tup ((takesL b z).map .str)), none, none, none] h (RX E) (dBin fEq (dCB fLen (aCons (dVar 3) aNil)) (dC (.int 1))) (.bl (decide ((setI p).length = 1))) := (ev_bin (ev_cb (eva1 (ev_var (v := encS p))) (c_len (n := (setI p).length) (by unfold encS; simp))) ev_c f_eqI).cast (by
    congr 1
    rw [Bool.eq_iff_iff, decide_eq_true_eq, decide_eq_true_eq]
    omega)
  by_cases c1 : (setI p).length = 1
  · obtain ⟨i, ei⟩ := List.length_eq_one_iff.mp c1
    have rgi := inH_rg hpp i (by rw [ei]; exact List.mem_singleton_self i)
    refine ss_if (k := true) (evt_test (tlen.cast (by rw [decide_eq_true c1]))) (fun _ => ?_) fun z => nomatch z
    refine ss_set (v := encO (rawL hp i)) (ev_bin (ev_bin (g_fld t (ev_var (v := .ref A.a)) rfl) (ev_bin (ev_var (v := encS p)) ev_c (f_ix0 (u := .int i) rfl (by rw [ei]; rfl))) fun Q q => ix_heap rgi.1 rgi.2 q) ev_c (f_ix1 rfl rfl)) ?_
    refine s_ret (v := .lst ((blkA b hp ms p z).map encQ)) ((ev_lst (eva1 (ev_tup (eva2 (v := .int (if kO b z (rawL hp i) = true then wt hp p else 0)) (ev_if (kO_ev ev_var (ev_var (v := .tup ((takesL b z).map .str)))) (fun k => ?_) fun k => ?_) ev_c) (by simp [sizeLine_eq]))) (by simp [sizeLine_eq])).cast (by unfold blkA; rw [ei]; rfl)) (RT.same q)
    · rw [if_pos k]; exact g_wt t hpp ev_var ev_var
    · rw [if_neg (by rw [k]; exact Bool.false_ne_true)]; exact ev_c
  · refine ss_if (k := false) (evt_test (tlen.cast (by rw [decide_eq_false c1]))) (fun z => nomatch z) fun _ => ?_
    refine m_next ?_
    dsimp only
    have hm := hm.resolve_left c1
    refine x_set (show dLstH aNil _ _ _ _ from ⟨by simp, fun f nf => ?_⟩)
    obtain ⟨gB, egB⟩ : ∃ gB : List Str → List (Int × Int), gB = fun l => (l.filter fun y => decide (mAt ms p y ≠ 0)).map fun y => (if y ∈ takesL b z then wt hp p else 0, mAt ms p y) := ⟨_, rfl⟩
    have eb : blkA b hp ms p z = gB b.names := by
      unfold blkA
      rw [egB]
      split
      · rename_i i ei
        exact absurd (by rw [ei]; rfl) c1
      · rfl
    have nf' : ∀ c, c = A.a ∨ c = A.ma ∨ c = A.wa ∨ (∃ e ∈ ws, c = A.w e.1) → c ≠ f := fun c hc z => by
      rcases hc with e | e | e | ⟨e, he, e2⟩
      · rw [← z, e, t.ins] at nf; cases nf
      · rw [← z, e, t.ma] at nf; cases nf
      · rw [← z, e, t.wa] at nf; cases nf
      · rw [← z, e2] at nf
        rcases t.w e he with x | ⟨_, _, x⟩ <;> rw [x] at nf <;> cases nf
    have tf : ∀ vs, GrAt G (put h f (.lst vs)) A b hp ms ws := fun vs => t.off fun c hc => put_ne (nf' c hc)
    refine ss_for (it := ⟨b.names.map .str, fun _ => True⟩) (evi_it (g_fld (tf _) (ev_var (v := .ref A.a)) rfl) rfl) fun dd hdd => ?_
    refine for_ind (fun vs ρ h' => ∃ (done R : List Str) (x7 : Option Val), b.names = done ++ R ∧ vs = R.map .str ∧ h' = put h f (.lst ((gB done).map encQ)) ∧ ρ = [some (.ref A.a), some (.int (p : Int)), some (.str z), some (encS p), some (.tup ((takesL b z).map .str)), none, some (.ref f), x7]) ?_ ?_ _ _ _ ⟨[], b.names, none, rfl, rfl, by rw [egB]; rfl, rfl⟩
    · rintro ρ h' ⟨done, R, x7, e, ev, rfl, rfl⟩
      have : R = [] := by cases R with
        | nil => rfl
        | cons _ _ => cases ev
      subst this
      rw [List.append_nil] at e
      subst e
      refine ⟨trivial, ?_⟩
      dsimp only
      refine s_ret (ev_var (v := .ref f)) (RT.frz (Lss.put nf (by simp)) put_same nf ?_)
      rw [← eb]
      exact q
    · rintro v vs ρ h' ⟨done, R, x7, e, ev, rfl, rfl⟩
      cases R with
      | nil => cases ev
      | cons y R =>
      rw [List.map_cons, List.cons.injEq] at ev
      obtain ⟨rfl, rfl⟩ := ev
      have hy : y ∈ b.names := by rw [e]; simp
      have dl : (gB done).length ≤ 4 := by
        rw [egB, List.length_map]
        have := List.length_filter_le (fun y => decide (mAt ms p y ≠ 0)) done
        have := congrArg List.length e
        rw [List.length_append] at this
        omega
      refine ⟨trivial, _, rfl, fun Nx hNx => ?_⟩
      subst hdd
      refine s_if (k := decide (mAt ms p y ≠ 0)) ((evt_truth (g_many (tf _) (hm y hy) (ev_var (v := .ref A.a)) (ev_var (v := .int (p : Int))) (ev_var (v := .str y))) rfl).cast (by
        rw [Bool.eq_iff_iff, decide_eq_true_eq]
        simp)) (fun k => ?_) fun k => ?_
      · refine m_app (vs := (gB done).map encQ) (w := encQ (if y ∈ takesL b z then wt hp p else 0, mAt ms p y)) (ev_var (v := .ref f)) put_same (by rw [List.length_map, sizeLine_eq]; omega) (ev_tup (eva2 (ev_if (k := decide (y ∈ takesL b z)) (evt_test (ev_bin (ev_var (v := .str y)) (ev_var (v := .tup ((takesL b z).map .str))) m_inT)) (fun k => ?_) fun k => ?_) (g_many (tf _) (hm y hy) (ev_var (v := .ref A.a)) (ev_var (v := .int (p : Int))) (ev_var (v := .str y)))) (by simp [sizeLine_eq])) ?_
        · rw [if_pos (of_decide_eq_true k)]; exact g_wt (tf _) hpp (ev_var (v := .ref A.a)) (ev_var (v := .int (p : Int)))
        · rw [if_neg (of_decide_eq_false k)]; exact ev_c
        rw [put_put]
        refine hNx _ _ ⟨done ++ [y], R, _, by rw [e]; simp, rfl, ?_, rfl⟩
        rw [egB]
        dsimp only
        rw [List.filter_append, List.map_append, List.map_append, List.filter_cons, if_pos k]
        rfl
      · refine m_next (hNx _ _ ⟨done ++ [y], R, _, by rw [e]; simp, rfl, ?_, rfl⟩)
        rw [egB]
        dsimp only
        rw [List.filter_append, List.map_append, List.map_append, List.filter_cons, if_neg (by rw [k]; exact Bool.false_ne_true)]
        simp
end DL
namespace DL
open PySem PySem.Spec PyProof.Rows L2
theorem m_neNN {h : Hv} {p n : Nat} : EvF h fNe (.int (p : Int)) (.int (n : Int)) (.bl (!decide (p = n))) := fun Q q => by
  by_cases e : p = n
  · subst e; exact Qv q (by simp)
  · have : ¬ ((p : Int) = (n : Int)) := by omega
    exact Qv q (by simp [e, this])
theorem m_eqNN {h : Hv} {p n : Nat} : EvF h fEq (.int (p : Int)) (.int (n : Int)) (.bl (decide (p = n))) := fun Q q => by
  by_cases e : p = n
  · subst e; exact Qv q (by simp)
  · have : ¬ ((p : Int) = (n : Int)) := by omega
    exact Qv q (by simp [e, this])
theorem m_xor {h : Hv} {m p : Nat} (hm : m < 256) (s : sub p m = true) : EvF h fBxor (.int (m : Int)) (.int (p : Int)) (.int ((m ^^^ p : Nat) : Int)) := fun Q q => by
  show Q (.int (Builtin.bitXor (m : Int) (p : Int))) h
  rw [bxor_sub s, minus_xor hm s]
  exact q
theorem m_mul {h : Hv} {i j : Int} (c : CMul i j) : EvF h fMulA (.int i) (.int j) (.int (i * j)) := fun Q q => ⟨c, q⟩
theorem xor_part {m p : Nat} (hm : m < 256) (hpm : p ∈ partsN m) (ne : p ≠ m) : m ^^^ p ∈ partsN m ∧ m ^^^ p ≠ m := by
  obtain ⟨p0, s⟩ := mem_parts.mp hpm
  have e := minus_xor hm s
  have le := sub_le s
  refine ⟨mem_parts.mpr ⟨by omega, ?_⟩, by omega⟩
  rw [← e, sub_iff]
  intro i hi
  rw [rest_bit hm s, Bool.and_eq_true] at hi
  exact hi.1
theorem blk_bd {b : Book} {hp : Heap'} {ms : MsL} {p : Nat} {z : Str} (bd : ∀ e ∈ ms, -(2 ^ 64) < e.2 ∧ e.2 < 2 ^ 64) : ∀ q ∈ blkA b hp ms p z, -(2 ^ 64) < q.2 ∧ q.2 < 2 ^ 64 := fun q hq => by
  unfold blkA at hq
  split at hq
  · rw [List.mem_singleton.mp hq]
    show -(2 ^ 64) < (1 : Int) ∧ (1 : Int) < 2 ^ 64
    exact ⟨by decide, by decide⟩
  · obtain ⟨y, _, rfl⟩ := List.mem_map.mp hq
    show -(2 ^ 64) < mAt ms p y ∧ mAt ms p y < 2 ^ 64
    unfold mAt
    cases e : ms.find? fun e => decide (e.1 = (p, y)) with
    | none => exact ⟨by decide, by decide⟩
    | some x => exact bd x (List.mem_of_find?_eq_some e)
theorem GOk.part {b : Book} {hp : Heap'} {ms : MsL} {ws : WsL} {m : Nat} (g : GOk b hp ms ws m) {p : Nat} (h : p ∈ partsN m) : p ≠ 0 ∧ inH hp p := by
  obtain ⟨p0, s⟩ := mem_parts.mp h
  have := sub_le s
  have := g.mh
  unfold inH at *
  exact ⟨p0, by omega⟩
set_option maxHeartbeats 1000000 in
theorem bo_Groupings_count (G : Gx) (N : List Str) (hN : N.length = 10) : ∀ as h Q E, as.length = 3 → S_Groupings_count G as h Q E → den_Groupings_count G (startA N as) h (endsR Q) (RX E) := by
  rintro as h Q E - ⟨A, b, hp, ms, ws, m, z, rfl, t, g, hz, q⟩
  unfold den_Groupings_count
  simp only [startA, hN]
  have wf := g.wf
  have hm := inH_lt g.n8 g.mh
  refine ss_par2 (v := .int ((lowN m : Nat) : Int)) (w := .int 0) (eva2 (ev_bin ev_var (ev_neg ev_var) fun Q q => ?_) ev_c) ?_
  · show Q (.int (Builtin.bitAnd (m : Int) (-(m : Int)))) h
    rw [low_eq hm]; exact q
  refine ss_for (evi_it (ev_call (eva1 ev_var) rfl fun Q q => ⟨m, rfl, hm, q⟩) rfl) fun dd hdd => ?_
  refine for_ind (fun vs ρ h' => ∃ (done L : List Nat) (x5 x6 x7 x8 x9 : Option Val), partsN m = done ++ L ∧ vs = L.map (fun (p : Nat) => Val.int (p : Int)) ∧ GrAt G h' A b hp ms ws ∧ OffG A ws h h' ∧ ρ = [some (.ref A.a), some (.int (m : Int)), some (.str z), some (.int ((lowN m : Nat) : Int)), some (.int (done.foldl (cnt2 b hp ms ws m z) 0)), x5, x6, x7, x8, x9]) ?_ ?_ _ _ _ ⟨[], partsN m, none, none, none, none, none, rfl, rfl, t, OffG.refl, rfl⟩
  · rintro ρ h' ⟨done, L, x5, x6, x7, x8, x9, e, el, t', o', rfl⟩
    have := map_nil_nat el
    subst this
    rw [List.append_nil] at e
    refine ⟨trivial, ?_⟩
    dsimp only
    refine s_ret ev_var (RT.same ?_)
    rw [← e]
    exact q h' t' o'
  · rintro v vs ρ h' ⟨done, L, x5, x6, x7, x8, x9, e, el, t', o', rfl⟩
    obtain ⟨p, L', rfl, rfl, rfl⟩ := map_cons_nat el
    have hpm : p ∈ partsN m := by rw [e]; simp
    obtain ⟨p0, hpp⟩ := g.part hpm
    have fin : ∀ (T : Int) (Nx : Sl → Hv → Prop) (hNx : ∀ ρ h, (∃ (done L : List Nat) (x5 x6 x7 x8 x9 : Option Val), partsN m = done ++ L ∧ L'.map (fun (p : Nat) => Val.int (p : Int)) = L.map (fun (p : Nat) => Val.int (p : Int)) ∧ GrAt G h A b hp ms ws ∧ OffG A ws _ h ∧ ρ = [some (.ref A.a), some (.int (m : Int)), some (.str z), some (.int ((lowN m : Nat) : Int)), some (.int (done.foldl (cnt2 b hp ms ws m z) 0)), x5, x6, x7, x8, x9]) → Nx ρ h) (h2 : Hv) (y5 y6 y7 y8 y9 : Option Val), GrAt G h2 A b hp ms ws → OffG A ws h h2 → T = cnt2 b hp ms ws m z (done.foldl (cnt2 b hp ms ws m z) 0) p → Nx [some (.ref A.a), some (.int (m : Int)), some (.str z), some (.int ((lowN m : Nat) : Int)), some (.int T), y5, y6, y7, y8, y9] h2 := fun T Nx hNx h2 y5 y6 y7 y8 y9 t2 o2 eT => hNx _ _ ⟨done ++ [p], L', y5, y6, y7, y8, y9, by rw [e]; simp, rfl, t2, o2, by rw [eT, List.foldl_append]; rfl⟩
    refine ⟨trivial, _, rfl, fun Nx hNx => ?_⟩
    subst hdd
    refine s_if (k := decide (p &&& lowN m ≠ 0) && !decide (p = m)) (evt_and (evt_truthN (ev_bin (ev_var (v := .int (p : Int))) (ev_var (v := .int ((lowN m : Nat) : Int))) (f_band p (lowN m)))) fun _ => evt_test (ev_bin (ev_var (v := .int (p : Int))) (ev_var (v := .int (m : Int))) m_neNN)) (fun k => ?_) fun k => ?_
    · rw [Bool.and_eq_true, decide_eq_true_eq, Bool.not_eq_true', decide_eq_false_iff_not] at k
      obtain ⟨xm, xne⟩ := xor_part hm hpm k.2
      obtain ⟨we, wm⟩ := val_ws (wa := A.w) (g.pw _ xm xne z hz)
      have bl : ∀ h2, GrAt G h2 A b hp ms ws → ∀ {ρ : Sl} {E : PX} {d1 d2 d3 : ED}, EvE ρ h2 E d1 (.ref A.a) → EvE ρ h2 E d2 (.int (p : Int)) → EvE ρ h2 E d3 (.str z) → EvE ρ h2 E (dMeth (G.C "Groupings") "blocks" 3 (S_Groupings_blocks G) d1 (aCons d2 (aCons d3 aNil))) (.lst ((blkA b hp ms p z).map encQ)) := fun h2 t2 {ρ E d1 d2 d3} e1 e2 e3 Q q => e_meth e1 t2.ins rfl (eva2 e2 e3) rfl ⟨A, b, hp, ms, ws, p, z, rfl, t2, wf, g.n8, p0, hpp, .inr (g.pm p hpm k.2), q⟩
      refine so_for (it := ⟨(blkA b hp ms p z).map encQ, fun _ => True⟩) (evi_it (bl h' t' ev_var ev_var ev_var) rfl) fun d2 hd2 => ?_
      refine for_ind (fun vs ρ h2 => ∃ (dq R : List (Int × Int)) (x6 x7 x8 x9 : Option Val), blkA b hp ms p z = dq ++ R ∧ vs = R.map encQ ∧ GrAt G h2 A b hp ms ws ∧ OffG A ws h h2 ∧ ρ = [some (.ref A.a), some (.int (m : Int)), some (.str z), some (.int ((lowN m : Nat) : Int)), some (.int (dq.foldl (fun t q => cnt1 b z (wt hp m) t q (wAt ws (m ^^^ p) z)) (done.foldl (cnt2 b hp ms ws m z) 0))), some (.int (p : Int)), x6, x7, x8, x9]) ?_ ?_ _ _ _ ⟨[], blkA b hp ms p z, _, _, _, _, rfl, rfl, t', o', rfl⟩
      · rintro ρ h2 ⟨dq, R, x6', x7', x8', x9', eq, ev, t2, o2, rfl⟩
        have : R = [] := by cases R with
          | nil => rfl
          | cons _ _ => cases ev
        subst this
        rw [List.append_nil] at eq
        refine ⟨trivial, ?_⟩
        refine fin _ Nx hNx h2 _ _ _ _ _ t2 o2 ?_
        unfold cnt2
        rw [if_pos k, eq]
      · rintro v vs ρ h2 ⟨dq, R, x6', x7', x8', x9', eq, ev, t2, o2, rfl⟩
        cases R with
        | nil => cases ev
        | cons r R =>
        rw [List.map_cons, List.cons.injEq] at ev
        obtain ⟨rfl, rfl⟩ := ev
        refine ⟨trivial, _, rfl, fun Nx2 hNx2 => ?_⟩
        subst hd2
        refine so_items (d := A.w (m ^^^ p, z)) (kvs := encI (wAt ws (m ^^^ p) z)) (g_ways t2 (g.pw _ xm xne z hz) (ev_var (v := .ref A.a)) (ev_bin (ev_var (v := .int (m : Int))) (ev_var (v := .int (p : Int))) (m_xor hm (mem_parts.mp hpm).2)) (ev_var (v := .str z))) (t2.w _ wm) fun o xs h3 d3 hd3 hd h3o => ?_
        have t3 := t2.frz wm hd h3o g.nw
        have o3 : OffG A ws h h3 := o2.trans fun c hc => h3o c (hc _ wm)
        obtain ⟨tot, etot⟩ : ∃ tot, tot = dq.foldl (fun t q => cnt1 b z (wt hp m) t q (wAt ws (m ^^^ p) z)) (done.foldl (cnt2 b hp ms ws m z) 0) := ⟨_, rfl⟩
        rw [← etot]
        refine for_ind (fun vs ρ h4 => ∃ (dr R3 : List (Int × Int)) (x8 x9 : Option Val), wAt ws (m ^^^ p) z = dr ++ R3 ∧ vs = R3.map encQ ∧ h4 = h3 ∧ ρ = [some (.ref A.a), some (.int (m : Int)), some (.str z), some (.int ((lowN m : Nat) : Int)), some (.int (cnt1 b z (wt hp m) tot r dr)), some (.int (p : Int)), some (.int r.1), some (.int r.2), x8, x9]) ?_ ?_ _ _ _ ⟨[], wAt ws (m ^^^ p) z, _, _, rfl, by unfold encI; rw [List.map_map]; rfl, rfl, rfl⟩
        · rintro ρ h4 ⟨dr, R3, x8'', x9'', er, ev3, rfl, rfl⟩
          have : R3 = [] := by cases R3 with
            | nil => rfl
            | cons _ _ => cases ev3
          subst this
          rw [List.append_nil] at er
          refine ⟨hd, ?_⟩
          refine hNx2 _ _ ⟨dq ++ [r], R, some (.int r.1), some (.int r.2), x8'', x9'', by rw [eq]; simp, rfl, t3, o3, ?_⟩
          rw [List.foldl_append, ← etot, ← er]
          rfl
        · rintro v vs ρ h4 ⟨dr, R3, x8'', x9'', er, ev3, rfl, rfl⟩
          cases R3 with
          | nil => cases ev3
          | cons s R3 =>
          rw [List.map_cons, List.cons.injEq] at ev3
          obtain ⟨rfl, rfl⟩ := ev3
          refine ⟨hd, _, rfl, fun Nx3 hNx3 => ?_⟩
          subst hd3
          have stp : cnt1 b z (wt hp m) tot r (dr ++ [s]) = if enough b z (r.1 + s.1) (wt hp m) = true then cnt1 b z (wt hp m) tot r dr + r.2 * s.2 else cnt1 b z (wt hp m) tot r dr := by
            unfold cnt1
            rw [List.foldl_append]
            rfl
          refine s_if (k := enough b z (r.1 + s.1) (wt hp m)) (evt_truthB (ev_call (eva_cons (g_fld t3 (ev_var (v := .ref A.a)) rfl) (eva_cons (ev_var (v := .str z)) (eva2 (ev_bin (ev_var (v := .int r.1)) (ev_var (v := .int s.1)) (f_add _ _)) (g_wt t3 g.mh (ev_var (v := .ref A.a)) (ev_var (v := .int (m : Int))))))) rfl fun Q q => ⟨b, z, _, _, rfl, wf, hz, q⟩)) (fun k => ?_) fun k => ?_
          · refine m_augL rfl (ev_bin (ev_var (v := .int r.2)) (ev_var (v := .int s.2)) (m_mul (.inl (blk_bd g.bd r (by rw [eq]; simp))))) ?_
            refine hNx3 _ _ ⟨dr ++ [s], R3, some (.int s.1), some (.int s.2), by rw [er]; simp, rfl, rfl, ?_⟩
            rw [stp, if_pos k]
            rfl
          · refine m_next (hNx3 _ _ ⟨dr ++ [s], R3, some (.int s.1), some (.int s.2), by rw [er]; simp, rfl, rfl, ?_⟩)
            rw [stp, if_neg (by rw [k]; exact Bool.false_ne_true)]
            rfl
    · refine m_next (fin _ Nx hNx h' _ _ _ _ _ t' o' ?_)
      unfold cnt2
      rw [if_neg]
      intro kk
      rw [decide_eq_true kk.1, decide_eq_false kk.2] at k
      cases k
end DL
namespace DL
open PySem PySem.Spec PyProof.Rows L2
theorem DV.sub' {h h' : Hv} {d : Addr} {kvs : List (Key × Val)} (x : DV h d kvs) (e : h' d = h d) : DV h' d kvs := by
  rcases x with z | ⟨o, xs, z⟩
  · exact .inl (e.trans z)
  · exact .inr ⟨o, xs, e.trans z⟩
def keepH (h h' : Hv) (p : Addr) : Hv := fun c => if (h c).isSome = true ∨ c = p then h' c else none
theorem keepH_lss {h h' : Hv} {p : Addr} (nb : ∀ c, h c = none → c ≠ p → h' c ≠ some .busy) : Lss h' (keepH h h' p) := by
  refine ⟨fun c => ?_, fun c hc => ?_⟩
  · unfold keepH
    split
    · exact .inr rfl
    · exact .inl rfl
  · unfold keepH
    rw [if_pos]
    · exact hc
    · cases e : h c with
      | some o => exact .inl rfl
      | none =>
        by_cases z : c = p
        · exact .inr z
        · exact absurd hc (nb c e z)
theorem prt_len {b : Book} {hp : Heap'} {ms : MsL} {ws : WsL} {m : Nat} {z : Str} : ∀ (L : List Nat) (t : List (Int × Int)), t.length ≤ (L.foldl (prt2 b hp ms ws m z) t).length := by
  have put_len : ∀ (d : List (Int × Int)) (k v : Int), d.length ≤ (putI d k v).length := fun d k v => by
    unfold putI
    split
    · rw [List.length_map]; exact Nat.le_refl _
    · rw [List.length_append]; omega
  have l1 : ∀ (rest : List (Int × Int)) (q : Int × Int) (t : List (Int × Int)), t.length ≤ (prt1 t q rest).length := fun rest q => by
    induction rest with
    | nil => exact fun t => Nat.le_refl _
    | cons r rest ih => exact fun t => Nat.le_trans (put_len _ _ _) (ih (addI t (q.1 + r.1) (q.2 * r.2)))
  have l2 : ∀ (qs : List (Int × Int)) (rest t : List (Int × Int)), t.length ≤ (qs.foldl (fun t q => prt1 t q rest) t).length := fun qs rest => by
    induction qs with
    | nil => exact fun t => Nat.le_refl _
    | cons q qs ih => exact fun t => Nat.le_trans (l1 rest q t) (ih _)
  intro L
  induction L with
  | nil => exact fun t => Nat.le_refl _
  | cons p L ih =>
    intro t
    refine Nat.le_trans ?_ (ih (prt2 b hp ms ws m z t p))
    unfold prt2
    split
    · exact l2 _ _ _
    · exact Nat.le_refl _
theorem m_dget2 {ρ : Sl} {h : Hv} {E : PX} {dd dk dx : ED} {d : Addr} {k x : Val} {o : Option Val} (hd : EvE ρ h E dd (.ref d)) (hk : EvE ρ h E dk k) (hx : EvE ρ h E dx x) (e0 : (dgetA (.ref d) (.int 0) h).isSome = true) (e : dgetA (.ref d) k h = some o) : EvE ρ h E (dDGet2 dd dk dx) (o.getD x) := fun Q q => hd _ ⟨e0, hk _ (hx _ (by
  simp only [e]
  cases o <;> exact q))⟩
theorem m_disp01 {ρ : Sl} {h : Hv} {E : PX} {Q : PV} (q : ∀ d, h d = none → Q (.ref d) (put h d (.dK [(.inl 0, .int 1)]))) : dDisp [((dC (.int 0)), (dC (.int 1)))] ρ h Q E := fun p hp => by
  show 1 ≤ 15 ∧ Q (.ref p) (put (put h p .busy) p (.dK [(.inl 0, .int 1)]))
  rw [put_put]
  exact ⟨by decide, q p hp⟩
theorem m_parK {ρ : Sl} {h : Hv} {E : PX} {D : AE} {s2 : SD} {da : ED} {v : Val} {i j : Nat} (ha : EvE ρ h E da v) (q : ∀ d, h d = none → s2 ((ρ.set i (some v)).set j (some (.ref d))) (put h d (.dK [])) D E) : sSeq (sPar [i, j] (aCons da (aCons dNewK aNil))) s2 ρ h D E := s_seq (ha _ fun d nd => q d nd)
set_option maxHeartbeats 2000000 in
theorem bo_Groupings_parted (G : Gx) (N : List Str) (hN : N.length = 11) : ∀ as h Q E, as.length = 3 → S_Groupings_parted G as h Q E → den_Groupings_parted G (startA N as) h (endsR Q) (RX E) := by
  rintro as h Q E - ⟨A, b, hp, ms, ws, m, z, rfl, t, g, hz, mown, pl, q⟩
  unfold den_Groupings_parted
  simp only [startA, hN]
  have wf := g.wf
  have hm := inH_lt g.n8 g.mh
  refine m_parK (v := .int ((lowN m : Nat) : Int)) (ev_bin ev_var (ev_neg ev_var) fun Q q => ?_) fun td ntd => ?_
  · show Q (.int (Builtin.bitAnd (m : Int) (-(m : Int)))) h
    rw [low_eq hm]; exact q
  have nf' : ∀ c, c = A.a ∨ c = A.ma ∨ c = A.wa ∨ (∃ e ∈ ws, c = A.w e.1) → (h c).isSome = true := fun c hc => by
    rcases hc with e | e | e | ⟨e, he, e2⟩
    · rw [e, t.ins]; rfl
    · rw [e, t.ma]; rfl
    · rw [e, t.wa]; rfl
    · rw [e2]
      rcases t.w e he with x | ⟨_, _, x⟩ <;> rw [x] <;> rfl
  have ntd' : ∀ c, (h c).isSome = true → c ≠ td := fun c hc z => by rw [z, ntd] at hc; cases hc
  -- what holds in the loops
  obtain ⟨Inv, eInv⟩ : ∃ Inv : List (Int × Int) → Hv → Prop, Inv = fun told h' => GrAt G h' A b hp ms ws ∧ h' td = some (.dK (encI told)) ∧ (∀ c, (h c).isSome = true → (∀ e ∈ ws, c ≠ A.w e.1) → h' c = h c) ∧ (∀ c, h c = none → c ≠ td → h' c ≠ some .busy) ∧ ∀ c, (h c).isSome = true → (h' c).isSome = true := ⟨_, rfl⟩
  have inv0 : Inv [] (put h td (.dK [])) := by
    rw [eInv]
    refine ⟨t.off fun c hc => put_ne (ntd' c (nf' c hc)), put_same, fun c hc _ => put_ne (ntd' c hc), fun c hc ne => ?_, fun c hc => ?_⟩
    · rw [put_ne ne, hc]; exact fun z => nomatch z
    · rw [put_ne (ntd' c hc)]; exact hc
  -- told changes
  have invT : ∀ {told h'} (told'), Inv told h' → Inv told' (put h' td (.dK (encI told'))) := fun {told h'} told' iv => by
    rw [eInv] at iv ⊢
    obtain ⟨i1, i2, i3, i4, i5⟩ := iv
    refine ⟨i1.off fun c hc => put_ne (ntd' c (nf' c hc)), put_same, fun c hc hw => (put_ne (ntd' c hc)).trans (i3 c hc hw), fun c hc ne => ?_, fun c hc => ?_⟩
    · rw [put_ne ne]; exact i4 c hc ne
    · rw [put_ne (ntd' c hc)]; exact i5 c hc
  -- a fresh dict
  have invN : ∀ {told h' d kvs}, Inv told h' → h' d = none → Inv told (put h' d (.dK kvs)) := fun {told h' d kvs} iv nd => by
    rw [eInv] at iv ⊢
    obtain ⟨i1, i2, i3, i4, i5⟩ := iv
    have nd' : ∀ c, (h c).isSome = true → c ≠ d := fun c hc z => by
      have := i5 c hc
      rw [z, nd] at this
      cases this
    have ntd2 : td ≠ d := fun z => by rw [z, nd] at i2; cases i2
    refine ⟨i1.off fun c hc => put_ne (nd' c (nf' c hc)), by rw [put_ne ntd2]; exact i2, fun c hc hw => (put_ne (nd' c hc)).trans (i3 c hc hw), fun c hc ne => ?_, fun c hc => ?_⟩
    · by_cases z : c = d
      · rw [z, put_same]; exact fun y => nomatch y
      · rw [put_ne z]; exact i4 c hc ne
    · rw [put_ne (nd' c hc)]; exact i5 c hc
  -- a dict is known
  have invF : ∀ {told h' h2 d o xs kvs}, Inv told h' → DV h' d kvs → (h2 d = some (.dF o xs kvs)) → (∀ c, c ≠ d → h2 c = h' c) → d ≠ td → ((h d).isSome = true → ∃ e ∈ ws, d = A.w e.1 ∧ kvs = encI e.2) → Inv told h2 := fun {told h' h2 d o xs kvs} iv dv hd ho ntd2 hw => by
    rw [eInv] at iv ⊢
    obtain ⟨i1, i2, i3, i4, i5⟩ := iv
    refine ⟨?_, (ho _ ntd2.symm).trans i2, fun c hc hcw => (ho c fun z => ?_).trans (i3 c hc hcw), fun c hc ne => ?_, fun c hc => ?_⟩
    · cases e : (h d).isSome with
      | true =>
        obtain ⟨e, he, e1, e2⟩ := hw e
        subst e1 e2
        exact i1.frz he hd ho g.nw
      | false => exact i1.off fun c hc => ho c fun z => by rw [← z, nf' c hc] at e; cases e
    · obtain ⟨e, he, e1, _⟩ := hw (by rw [← z]; exact hc)
      exact hcw e he (z.trans e1)
    · by_cases z : c = d
      · rw [z, hd]; exact fun y => nomatch y
      · rw [ho c z]; exact i4 c hc ne
    · by_cases z : c = d
      · rw [z, hd]; rfl
      · rw [ho c z]; exact i5 c hc
  refine ss_for (evi_it (ev_call (eva1 ev_var) rfl fun Q q => ⟨m, rfl, hm, q⟩) rfl) fun dd hdd => ?_
  refine for_ind (fun vs ρ h' => ∃ (done L : List Nat) (x5 x6 x7 x8 x9 x10 : Option Val), partsN m = done ++ L ∧ vs = L.map (fun (p : Nat) => Val.int (p : Int)) ∧ Inv (done.foldl (prt2 b hp ms ws m z) []) h' ∧ ρ = [some (.ref A.a), some (.int (m : Int)), some (.str z), some (.int ((lowN m : Nat) : Int)), some (.ref td), x5, x6, x7, x8, x9, x10]) ?_ ?_ _ _ _ ⟨[], partsN m, none, none, none, none, none, none, rfl, rfl, inv0, rfl⟩
  · rintro ρ h' ⟨done, L, x5, x6, x7, x8, x9, x10, e, el, iv, rfl⟩
    have := map_nil_nat el
    subst this
    rw [List.append_nil] at e
    refine ⟨trivial, ?_⟩
    dsimp only
    rw [← e] at iv
    rw [eInv] at iv
    obtain ⟨i1, i2, i3, i4, i5⟩ := iv
    refine s_ret (ev_var (v := .ref td)) (RT.less (keepH_lss (p := td) i4) ?_)
    have kk : ∀ c, (h c).isSome = true ∨ c = td → keepH h h' td c = h' c := fun c hc => by unfold keepH; rw [if_pos hc]
    refine q _ td ntd (i1.off fun c hc => kk c (.inl (nf' c hc))) (fun c hc => ?_) (by rw [kk td (.inr rfl)]; exact i2)
    by_cases z : c = td
    · rw [z, kk td (.inr rfl), i2, put_same]; rfl
    · rw [put_ne z]
      cases e2 : h c with
      | none => unfold keepH; rw [if_neg]; rw [e2]; simp [z]
      | some o => rw [kk c (.inl (by rw [e2]; rfl)), i3 c (by rw [e2]; rfl) hc, e2]
  · rintro v vs ρ h' ⟨done, L, x5, x6, x7, x8, x9, x10, e, el, iv, rfl⟩
    obtain ⟨p, L', rfl, rfl, rfl⟩ := map_cons_nat el
    have hpm : p ∈ partsN m := by rw [e]; simp
    obtain ⟨p0, hpp⟩ := g.part hpm
    obtain ⟨told0, et0⟩ : ∃ told0, told0 = done.foldl (prt2 b hp ms ws m z) [] := ⟨_, rfl⟩
    rw [← et0] at iv
    have plast : (prt2 b hp ms ws m z told0 p).length ≤ 256 := by
      refine Nat.le_trans (prt_len (b := b) (hp := hp) (ms := ms) (ws := ws) (m := m) (z := z) L' _) ?_
      rw [et0]
      have : partsN m = (done ++ [p]) ++ L' := by rw [e]; simp
      unfold prtA at pl
      rw [this, List.foldl_append, List.foldl_append] at pl
      exact pl
    refine ⟨trivial, _, rfl, fun Nx hNx => ?_⟩
    have fin : ∀ (told : List (Int × Int)) (h2 : Hv) (y5 y6 y7 y8 y9 y10 : Option Val), Inv told h2 → told = prt2 b hp ms ws m z told0 p → Nx [some (.ref A.a), some (.int (m : Int)), some (.str z), some (.int ((lowN m : Nat) : Int)), some (.ref td), y5, y6, y7, y8, y9, y10] h2 := fun told h2 y5 y6 y7 y8 y9 y10 i2 eT => hNx _ _ ⟨done ++ [p], L', y5, y6, y7, y8, y9, y10, by rw [e]; simp, rfl, by rw [List.foldl_append, ← et0, List.foldl_cons, List.foldl_nil, ← eT]; exact i2, rfl⟩
    subst hdd
    refine s_if (k := decide (p &&& lowN m ≠ 0)) (evt_truthN (ev_bin (ev_var (v := .int (p : Int))) (ev_var (v := .int ((lowN m : Nat) : Int))) (f_band p (lowN m)))) (fun k => ?_) fun k => ?_
    rotate_left 1
    · refine m_next (fin _ h' _ _ _ _ _ _ iv ?_)
      unfold prt2
      rw [if_neg (of_decide_eq_false k)]
    rw [decide_eq_true_eq] at k
    -- behind the choice of rest
    have go : ∀ (D : AE) (d : Addr) (rest : List (Int × Int)) (h2 : Hv), D.nx = Nx → rest = rstA ws m p z → Inv told0 h2 → DV h2 d (encI rest) → d ≠ td → ((h d).isSome = true → ∃ e ∈ ws, d = A.w e.1 ∧ encI rest = encI e.2) →
        sFor (dIt (dMeth (G.C "Groupings") "blocks" 3 (S_Groupings_blocks G) (dVar 0) (aCons (dVar 5) (aCons (dVar 2) aNil)))) (.tp [(.nm 7), (.nm 8)]) (sFor (dItems (dVar 6)) (.tp [(.nm 9), (.nm 10)]) (sDPut (dVar 4) (dBin fAdd (dVar 7) (dVar 9)) (dBin fAdd (dDGet2 (dVar 4) (dBin fAdd (dVar 7) (dVar 9)) (dC (.int 0))) (dBin fMulA (dVar 8) (dVar 10))))) [some (.ref A.a), some (.int (m : Int)), some (.str z), some (.int ((lowN m : Nat) : Int)), some (.ref td), some (.int (p : Int)), some (.ref d), x7, x8, x9, x10] h2 D (RX E) := fun D d rest h2 eD er iv2 dv2 ntd2 hw2 => by
      have bl : ∀ h2, GrAt G h2 A b hp ms ws → ∀ {ρ : Sl} {E : PX} {d1 d2 d3 : ED}, EvE ρ h2 E d1 (.ref A.a) → EvE ρ h2 E d2 (.int (p : Int)) → EvE ρ h2 E d3 (.str z) → EvE ρ h2 E (dMeth (G.C "Groupings") "blocks" 3 (S_Groupings_blocks G) d1 (aCons d2 (aCons d3 aNil))) (.lst ((blkA b hp ms p z).map encQ)) := fun h2 t2 {ρ E d1 d2 d3} e1 e2 e3 Q q => e_meth e1 t2.ins rfl (eva2 e2 e3) rfl ⟨A, b, hp, ms, ws, p, z, rfl, t2, wf, g.n8, p0, hpp, .inr (by
        by_cases pe : p = m
        · rw [pe]; exact mown
        · exact g.pm p hpm pe), q⟩
      have gr : ∀ {told h3}, Inv told h3 → GrAt G h3 A b hp ms ws := fun iv => by rw [eInv] at iv; exact iv.1
      have tdv : ∀ {told h3}, Inv told h3 → h3 td = some (.dK (encI told)) := fun iv => by rw [eInv] at iv; exact iv.2.1
      have bound : ∀ (dq R : List (Int × Int)) (dr R3 : List (Int × Int)) (r : Int × Int), blkA b hp ms p z = dq ++ r :: R → rest = dr ++ R3 → (prt1 (dq.foldl (fun t q => prt1 t q rest) told0) r dr).length ≤ 256 := fun dq R dr R3 r e1 e2 => by
        have put_len : ∀ (d : List (Int × Int)) (k v : Int), d.length ≤ (putI d k v).length := fun d k v => by
          unfold putI
          split
          · rw [List.length_map]; exact Nat.le_refl _
          · rw [List.length_append]; omega
        have l1 : ∀ (rs : List (Int × Int)) (q : Int × Int) (t : List (Int × Int)), t.length ≤ (prt1 t q rs).length := fun rs q => by
          induction rs with
          | nil => exact fun t => Nat.le_refl _
          | cons r rs ih => exact fun t => Nat.le_trans (put_len _ _ _) (ih (addI t (q.1 + r.1) (q.2 * r.2)))
        have l2 : ∀ (qs t : List (Int × Int)), t.length ≤ (qs.foldl (fun t q => prt1 t q rest) t).length := fun qs => by
          induction qs with
          | nil => exact fun t => Nat.le_refl _
          | cons q qs ih => exact fun t => Nat.le_trans (l1 rest q t) (ih _)
        have h0 : ∀ X : List (Int × Int), (prt1 X r dr).length ≤ (prt1 X r rest).length := fun X => by
          have : prt1 X r rest = prt1 (prt1 X r dr) r R3 := by
            rw [e2]
            unfold prt1
            rw [List.foldl_append]
          rw [this]
          exact l1 R3 r _
        have h1 := h0 (dq.foldl (fun t q => prt1 t q rest) told0)
        refine Nat.le_trans h1 (Nat.le_trans (l2 R _) ?_)
        have : prt2 b hp ms ws m z told0 p = R.foldl (fun t q => prt1 t q rest) (prt1 (dq.foldl (fun t q => prt1 t q rest) told0) r rest) := by
          unfold prt2
          rw [if_pos k, e1, List.foldl_append, List.foldl_cons, ← er]
        rw [← this]
        exact plast
      refine so_for (it := ⟨(blkA b hp ms p z).map encQ, fun _ => True⟩) (evi_it (bl h2 (gr iv2) ev_var ev_var ev_var) rfl) fun d2 hd2 => ?_
      refine for_ind (fun vs ρ h3 => ∃ (dq R : List (Int × Int)) (x7 x8 x9 x10 : Option Val), blkA b hp ms p z = dq ++ R ∧ vs = R.map encQ ∧ Inv (dq.foldl (fun t q => prt1 t q rest) told0) h3 ∧ DV h3 d (encI rest) ∧ ρ = [some (.ref A.a), some (.int (m : Int)), some (.str z), some (.int ((lowN m : Nat) : Int)), some (.ref td), some (.int (p : Int)), some (.ref d), x7, x8, x9, x10]) ?_ ?_ _ _ _ ⟨[], blkA b hp ms p z, _, _, _, _, rfl, rfl, iv2, dv2, rfl⟩
      · rintro ρ h3 ⟨dq, R, x7', x8', x9', x10', eq, ev, iv3, dv3, rfl⟩
        have : R = [] := by cases R with
          | nil => rfl
          | cons _ _ => cases ev
        subst this
        rw [List.append_nil] at eq
        refine ⟨trivial, ?_⟩
        rw [eD]
        refine fin _ h3 _ _ _ _ _ _ iv3 ?_
        unfold prt2
        rw [if_pos k, eq, er]
      · rintro v vs ρ h3 ⟨dq, R, x7', x8', x9', x10', eq, ev, iv3, dv3, rfl⟩
        cases R with
        | nil => cases ev
        | cons r R =>
        rw [List.map_cons, List.cons.injEq] at ev
        obtain ⟨rfl, rfl⟩ := ev
        refine ⟨trivial, _, rfl, fun Nx2 hNx2 => ?_⟩
        subst hd2
        refine so_items (d := d) (kvs := encI rest) (ev_var (v := .ref d)) dv3 fun o xs h4 d3 hd3 hd h4o => ?_
        have iv4 := invF iv3 dv3 hd h4o ntd2 hw2
        obtain ⟨t0, et⟩ : ∃ t0, t0 = dq.foldl (fun t q => prt1 t q rest) told0 := ⟨_, rfl⟩
        rw [← et] at iv4
        refine for_ind (fun vs ρ h5 => ∃ (dr R3 : List (Int × Int)) (x9 x10 : Option Val), rest = dr ++ R3 ∧ vs = R3.map encQ ∧ Inv (prt1 t0 r dr) h5 ∧ h5 d = some (.dF o xs (encI rest)) ∧ ρ = [some (.ref A.a), some (.int (m : Int)), some (.str z), some (.int ((lowN m : Nat) : Int)), some (.ref td), some (.int (p : Int)), some (.ref d), some (.int r.1), some (.int r.2), x9, x10]) ?_ ?_ _ _ _ ⟨[], rest, _, _, rfl, by unfold encI; rw [List.map_map]; rfl, iv4, hd, rfl⟩
        · rintro ρ h5 ⟨dr, R3, x9'', x10'', er3, ev3, iv5, hd5, rfl⟩
          have : R3 = [] := by cases R3 with
            | nil => rfl
            | cons _ _ => cases ev3
          subst this
          rw [List.append_nil] at er3
          refine ⟨hd5, hNx2 _ _ ⟨dq ++ [r], R, some (.int r.1), some (.int r.2), x9'', x10'', by rw [eq]; simp, rfl, ?_, .inr ⟨o, xs, hd5⟩, rfl⟩⟩
          rw [List.foldl_append, ← et]
          rw [← er3] at iv5
          exact iv5
        · rintro v vs ρ h5 ⟨dr, R3, x9'', x10'', er3, ev3, iv5, hd5, rfl⟩
          cases R3 with
          | nil => cases ev3
          | cons s R3 =>
          rw [List.map_cons, List.cons.injEq] at ev3
          obtain ⟨rfl, rfl⟩ := ev3
          refine ⟨hd5, _, rfl, fun Nx3 hNx3 => ?_⟩
          subst hd3
          have ht5 := tdv iv5
          have bnd : (prt1 t0 r dr).length ≤ 256 := by rw [et]; exact bound dq R dr (s :: R3) r eq er3
          have cm : CMul r.2 s.2 := .inl (blk_bd g.bd r (by rw [eq]; simp))
          refine s_dput (v := .int (getI (prt1 t0 r dr) (r.1 + s.1) + r.2 * s.2)) (w := .ref td) (u := .int (r.1 + s.1)) (h' := put h5 td (.dK (encI (addI (prt1 t0 r dr) (r.1 + s.1) (r.2 * s.2))))) (ev_bin (v := .int (getI (prt1 t0 r dr) (r.1 + s.1))) (w := .int (r.2 * s.2)) (fun Q q => ?_) (ev_bin (ev_var (v := .int r.2)) (ev_var (v := .int s.2)) (m_mul cm)) (f_add _ _)) (ev_var (v := .ref td)) (ev_bin (ev_var (v := .int r.1)) (ev_var (v := .int s.1)) (f_add _ _)) ?_ ?_
          · have e0 : dgetA (.ref td) (.int (r.1 + s.1)) h5 = some (valA (encI (prt1 t0 r dr)) (.inl (r.1 + s.1))) := by unfold dgetA; simp only [ht5, keyOf]
            refine m_dget2 (ev_var (v := .ref td)) (ev_bin (ev_var (v := .int r.1)) (ev_var (v := .int s.1)) (f_add _ _)) ev_c (by simp [dgetA, ht5, keyOf]) e0 Q ?_
            rw [get_encI]
            exact q
          · have e1 : (encI (prt1 t0 r dr)).length < sizeLine := by unfold encI; rw [List.length_map, sizeLine_eq]; omega
            unfold dputA
            simp only [ht5, keyOf]
            rw [if_pos e1, put_encI]
            rfl
          · refine hNx3 _ _ ⟨dr ++ [s], R3, some (.int s.1), some (.int s.2), by rw [er3]; simp, rfl, ?_, by rw [put_ne ntd2]; exact hd5, rfl⟩
            have : prt1 t0 r (dr ++ [s]) = addI (prt1 t0 r dr) (r.1 + s.1) (r.2 * s.2) := by
              unfold prt1
              rw [List.foldl_append]
              rfl
            rw [this]
            exact invT _ iv5
    have ivg := iv
    rw [eInv] at ivg
    by_cases pe : p = m
    · -- the whole
      have er : [(0, 1)] = rstA ws m p z := by unfold rstA; rw [if_pos pe]
      refine x_set ?_
      show (dTest (dBin fEq (dVar 5) (dVar 1))) _ _ _ _
      refine (evt_test (ev_bin (ev_var (v := .int (p : Int))) (ev_var (v := .int (m : Int))) m_eqNN)) _ ?_
      rw [decide_eq_true pe, if_pos rfl]
      refine m_disp01 fun d nd => ?_
      have ntd2 : d ≠ td := fun z => by rw [z, ivg.2.1] at nd; cases nd
      show sFor _ _ _ _ _ _ _
      exact go _ d [(0, 1)] _ (by rfl) er (invN iv nd) (.inl put_same) ntd2 fun hc => by
        have := ivg.2.2.2.2 d hc
        rw [nd] at this
        cases this
    · obtain ⟨xm, xne⟩ := xor_part hm hpm pe
      obtain ⟨we, wm⟩ := val_ws (wa := A.w) (g.pw _ xm xne z hz)
      refine ss_set (v := .ref (A.w (m ^^^ p, z))) (ev_if (k := decide (p = m)) (evt_test (ev_bin (ev_var (v := .int (p : Int))) (ev_var (v := .int (m : Int))) m_eqNN)) (fun z => absurd (of_decide_eq_true z) pe) fun _ => g_ways ivg.1 (g.pw _ xm xne z hz) (ev_var (v := .ref A.a)) (ev_bin (ev_var (v := .int (m : Int))) (ev_var (v := .int (p : Int))) (m_xor hm (mem_parts.mp hpm).2)) (ev_var (v := .str z))) ?_
      refine go _ _ (wAt ws (m ^^^ p) z) h' (by rfl) (by unfold rstA; rw [if_neg pe]) iv (ivg.1.w _ wm) (ntd' _ (nf' _ (.inr (.inr (.inr ⟨_, wm, rfl⟩))))) fun _ => ⟨_, wm, rfl, rfl⟩
end DL
namespace DL
open PySem PySem.Spec PyProof.Rows L2
def rngI (n : Nat) : List Int := (List.range n).map fun (i : Nat) => (i : Int)
end DL
namespace DL
open PySem PySem.Spec PyProof.Rows L2
end DL
namespace DL
open PySem PySem.Spec PyProof.Rows L2
end DL
namespace DL
open PySem PySem.Spec PyProof.Rows L2
end DL
namespace DL
open PySem PySem.Spec PyProof.Rows L2
theorem fNe_encO2 {o : Option Str} {z : Str} {h : Hv} {Q : PV} (q : Q (.bl (!decide (o = some z))) h) : fNe (encO o) (.str z) h Q := by
  cases o with
  | none => exact q
  | some y =>
    show Q (.bl (!(y == z))) h
    have : (y == z) = decide (some y = some z) := by
      by_cases e : y = z
      · subst e; simp
      · rw [decide_eq_false (by simpa using e)]; simpa using e
    rw [this]; exact q
end DL
namespace DL
open PySem PySem.Spec PyProof.Rows L2
end DL
namespace DL
open PySem PySem.Spec PyProof.Rows L2
end DL
namespace DL
open PySem PySem.Spec PyProof.Rows L2
end DL
namespace DL
open PySem PySem.Spec PyProof.Rows L2
structure Emb (hp hp' : Heap') (f : Int → Int) : Prop where
  rg : ∀ i, 0 ≤ i → i < (hp.length : Int) → 0 ≤ f i ∧ f i < (hp'.length : Int)
  inj : ∀ i j, 0 ≤ i → i < (hp.length : Int) → 0 ≤ j → j < (hp.length : Int) → f i = f j → i = j
  w : ∀ i, 0 ≤ i → i < (hp.length : Int) → rawW hp' (f i) = rawW hp i
  l : ∀ i, 0 ≤ i → i < (hp.length : Int) → rawL hp' (f i) = rawL hp i
def img (f : Int → Int) (n : Nat) : Nat := bitsL ((setI n).map f)
section
variable {hp hp' : Heap'} {f : Int → Int} {n p : Nat}
theorem Emb.nd (e : Emb hp hp' f) (hn : inH hp n) : ((setI n).map f).Nodup := by
  refine List.pairwise_map.mpr (List.Pairwise.imp_of_mem ?_ (setI_nodup n))
  intro x y hx hy ne he
  have h1 := inH_rg hn x hx
  have h2 := inH_rg hn y hy
  exact ne (e.inj x y h1.1 h1.2 h2.1 h2.2 he)
theorem Emb.mem (e : Emb hp hp' f) (hn : inH hp n) : ∀ i ∈ (setI n).map f, 0 ≤ i ∧ i < (hp'.length : Int) := fun i hi => by
  obtain ⟨j, hj, rfl⟩ := List.mem_map.mp hi
  have := inH_rg hn j hj
  exact e.rg j this.1 this.2
theorem Emb.in8 (e : Emb hp hp' f) (h8 : hp'.length ≤ 8) (hn : inH hp n) : In8 ((setI n).map f) := fun i hi => by
  have := e.mem hn i hi
  omega
theorem Emb.wt (e : Emb hp hp' f) (h8 : hp'.length ≤ 8) (hn : inH hp n) : wt hp' (img f n) = wt hp n := by
  unfold img
  rw [wt_list (e.nd hn) (e.in8 h8 hn), List.map_map]
  unfold DL.wt
  congr 1
  refine List.map_congr_left fun i hi => ?_
  have := inH_rg hn i hi
  exact e.w i this.1 this.2
theorem Emb.sub (e : Emb hp hp' f) (h8 : hp.length ≤ 8) (h8' : hp'.length ≤ 8) (hn : inH hp n) (s : sub p n = true) : sub (img f p) (img f n) = true := by
  refine bits_sub (e.nd (inH_sub hn s)) (e.nd hn) (e.in8 h8' hn) fun i hi => ?_
  obtain ⟨j, hj, rfl⟩ := List.mem_map.mp hi
  have hlt := inH_lt h8 hn
  exact List.mem_map_of_mem ((sub_mem hlt (lt_of_sub hlt s)).mp s j hj)
end
end DL
namespace DL
open PySem PySem.Spec PyProof.Rows L2
section
variable {b : Book} {hp : Heap'} {z : Str}
end
end DL
namespace DL
open PySem PySem.Spec PyProof.Rows L2
end DL
namespace DL
open PySem PySem.Spec PyProof.Rows L2
structure EmbM (hp hp' : Heap') (M : Nat) (f : Int → Int) : Prop where
  rg : ∀ i ∈ setI M, 0 ≤ f i ∧ f i < (hp'.length : Int)
  inj : ∀ i ∈ setI M, ∀ j ∈ setI M, f i = f j → i = j
  w : ∀ i ∈ setI M, rawW hp' (f i) = rawW hp i
  l : ∀ i ∈ setI M, rawL hp' (f i) = rawL hp i
section
variable {hp hp' : Heap'} {f : Int → Int} {n p M : Nat}
theorem EmbM.nd (e : EmbM hp hp' M f) (hs : ∀ i ∈ setI n, i ∈ setI M) : ((setI n).map f).Nodup := by
  refine List.pairwise_map.mpr (List.Pairwise.imp_of_mem ?_ (setI_nodup n))
  intro x y hx hy ne he
  exact ne (e.inj x (hs x hx) y (hs y hy) he)
theorem EmbM.mem (e : EmbM hp hp' M f) (hs : ∀ i ∈ setI n, i ∈ setI M) : ∀ i ∈ (setI n).map f, 0 ≤ i ∧ i < (hp'.length : Int) := fun i hi => by
  obtain ⟨j, hj, rfl⟩ := List.mem_map.mp hi
  exact e.rg j (hs j hj)
theorem EmbM.in8 (e : EmbM hp hp' M f) (h8 : hp'.length ≤ 8) (hs : ∀ i ∈ setI n, i ∈ setI M) : In8 ((setI n).map f) := fun i hi => by
  have := e.mem hs i hi
  omega
theorem EmbM.wt (e : EmbM hp hp' M f) (h8 : hp'.length ≤ 8) (hs : ∀ i ∈ setI n, i ∈ setI M) : wt hp' (img f n) = wt hp n := by
  unfold img
  rw [wt_list (e.nd hs) (e.in8 h8 hs), List.map_map]
  unfold DL.wt
  congr 1
  exact List.map_congr_left fun i hi => e.w i (hs i hi)
end
section
variable {hp : Heap'} {n : Nat}
end
section
variable {b : Book}
end
end DL
namespace DL
open PySem PySem.Spec PyProof.Rows L2
section
variable {M : Nat} (hM : M < 256)
end
end DL
namespace DL
open PySem PySem.Spec PyProof.Rows L2
end DL
namespace DL
open PySem PySem.Spec PyProof.Rows L2
end DL
namespace DL
open PySem PySem.Spec PyProof.Rows L2
end DL
namespace DL
open PySem PySem.Spec PyProof.Rows L2
end DL
namespace DL
open PySem PySem.Spec PyProof.Rows L2
theorem s_next {ρ : Sl} {h : Hv} {D : AE} {E : PX} (q : D.nx ρ h) : sNext ρ h D E := q
structure PartX (b : Book) (B : Bst) (S : Spt) (z : Str) (m : Nat) (X : Nat → Str → Prop) (r : Option (Int × List Tree)) : Prop where
  so : ∀ k ts, r = some (k, ts) → ∃ p y k1 t k2 ts2, Cand b B S z m p y k1 t k2 ts2 ∧ k = k1 + k2 ∧ ts = t :: ts2
  co : ∀ p y k1 t k2 ts2, X p y → Cand b B S z m p y k1 t k2 ts2 → ∃ k ts, r = some (k, ts) ∧ k ≤ k1 + k2
theorem Cand.uniq {b : Book} {B : Bst} {S : Spt} {z : Str} {m p : Nat} {y : Str} {k1 k1' : Int} {t t' : Tree} {k2 k2' : Int} {ts ts' : List Tree} (c : Cand b B S z m p y k1 t k2 ts) (c' : Cand b B S z m p y k1' t' k2' ts') : k1 = k1' ∧ k2 = k2' := by
  have h1 := c.cb
  rw [c'.cb] at h1
  cases h1
  refine ⟨rfl, ?_⟩
  rcases c.cs with ⟨r0, rfl, _⟩ | ⟨r0, hs⟩
  · rcases c'.cs with ⟨_, rfl, _⟩ | ⟨r1, _⟩
    · rfl
    · exact absurd r0 r1
  · rcases c'.cs with ⟨r1, _⟩ | ⟨_, hs'⟩
    · exact absurd r1 r0
    · rw [hs] at hs'; cases hs'; rfl
theorem PartX.new {b : Book} {B : Bst} {S : Spt} {z : Str} {m : Nat} {X : Nat → Str → Prop} {r : Option (Int × List Tree)} (x : PartX b B S z m X r) {p : Nat} {y : Str} {k1 : Int} {t : Tree} {k2 : Int} {ts : List Tree} (c : Cand b B S z m p y k1 t k2 ts) (h : ∀ k us, r = some (k, us) → k1 + k2 < k) : PartX b B S z m (fun q w => X q w ∨ (q = p ∧ w = y)) (some (k1 + k2, t :: ts)) := by
  refine ⟨fun k us e => ?_, fun q w k3 t3 k4 ts4 hx c3 => ?_⟩
  · cases e
    exact ⟨p, y, k1, t, k2, ts, c, rfl, rfl⟩
  · refine ⟨_, _, rfl, ?_⟩
    rcases hx with hx | ⟨rfl, rfl⟩
    · obtain ⟨k, us, e, hk⟩ := x.co q w k3 t3 k4 ts4 hx c3
      have := h k us e
      omega
    · obtain ⟨e1, e2⟩ := c.uniq c3
      omega
theorem PartX.old {b : Book} {B : Bst} {S : Spt} {z : Str} {m : Nat} {X : Nat → Str → Prop} {o : Int × List Tree} (x : PartX b B S z m X (some o)) {p : Nat} {y : Str} {k1 : Int} {t : Tree} {k2 : Int} {ts : List Tree} (c : Cand b B S z m p y k1 t k2 ts) (h : ¬ k1 + k2 < o.1) : PartX b B S z m (fun q w => X q w ∨ (q = p ∧ w = y)) (some o) := by
  refine ⟨x.so, fun q w k3 t3 k4 ts4 hx c3 => ?_⟩
  rcases hx with hx | ⟨rfl, rfl⟩
  · exact x.co q w k3 t3 k4 ts4 hx c3
  · obtain ⟨e1, e2⟩ := c.uniq c3
    exact ⟨o.1, o.2, rfl, by omega⟩
end DL
namespace DL
open PySem PySem.Spec PyProof.Rows L2
end DL
namespace DL
open PySem PySem.Spec PyProof.Rows L2
theorem okTs_len {names : List Str} : ∀ ts : List Tree, okTs names ts → ts.length ≤ (thingsTs ts).length
  | [], _ => by simp
  | t :: ts, h => by
    rw [okTs] at h
    have h1 := okTs_len ts h.2
    have h2 := List.length_pos_iff.mpr (things_ne t h.1)
    rw [thingsTs, List.length_append, List.length_cons]
    omega
theorem GS.len {b : Book} {hp : Heap'} {z : Str} {n : Nat} {ts : List Tree} (g : GS b hp z n ts) : ts.length ≤ 8 := by
  have := okTs_len ts g.ok
  rw [g.th.length_eq] at this
  have := setI_len n
  omega
theorem BMid.small {b : Book} {hp : Heap'} {c : Str → Int} {D : Nat → Prop} {m : Nat} {B : Bst} {S : Spt} (i : BMid b hp c D m B S) : SmS b S := by
  intro z hz n k ts h
  by_cases d : D n
  · exact ((i.lo z hz n d).2.1 k ts h).1.len
  · by_cases e : n = m
    · subst e; exact (i.sm z hz k ts h).1.len
    · rw [(i.nx z hz n d e).2] at h; cases h
section
variable {G : Gx} {a : Addr} {b : Book} {hp : Heap'} {c : Str → Int} {D : Nat → Prop} {B : Bst} {S : Spt} {A : Ab} {m : Nat}
end
end DL
namespace DL
open PySem PySem.Spec PyProof.Rows L2
end DL
namespace DL
open PySem PySem.Spec PyProof.Rows L2
section
variable {ρ : Sl} {h : Hv} {E : PX} {Q : PV} {aa : AD} {vs : List Val} {da : ED} {v : Val}
end
theorem BPre.whole {G : Gx} {h : Hv} {b : Book} {hp : Heap'} (p : BPre G h b hp) : 2 ^ hp.length - 1 ≠ 0 ∧ inH hp (2 ^ hp.length - 1) := by
  have : 2 ≤ 2 ^ hp.length := by
    have := Nat.pow_le_pow_right (n := 2) (by decide) p.n1
    simpa using this
  unfold inH
  omega
theorem BPre.new {G : Gx} {h : Hv} {b : Book} {hp : Heap'} (p : BPre G h b hp) {D : Addr} {kvs : List (Key × Val)} (n : h D = none) : BPre G (put h D (.dK kvs)) b hp :=
  ⟨p.wf, p.ho, p.w1, p.n1, p.tb.put n (fun _ z => nomatch z), p.ns, p.nz⟩
end DL
namespace DL
open PySem PySem.Spec PyProof.Rows L2
theorem isSh_ok {b : Book} {many : Int} : ∀ {d : Nat} {t : Tree}, t.okT b.names → (∀ n ∈ t.things, 0 ≤ n ∧ n < many) → t.ht < d → isSh b many d t.enc = some true
  | 0, t, _, _, h => absurd h (Nat.not_lt_zero _)
  | d + 1, .leaf n, _, hn, _ => by
    have := hn n (by simp [Tree.things])
    have h1 : n ≤ many - 1 := by omega
    simp [Tree.enc, isSh, isNum, this.1, h1]
  | d + 1, .node z ts, hk, hn, hd => by
    rw [Tree.okT, okTs_iff] at hk
    have hts := ht_node hd
    rw [things_node] at hn
    rw [enc_node, isSh]
    have hne : ts.map Tree.enc ≠ [] := by simpa using hk.2.1
    rw [if_pos ⟨hk.1, hne⟩]
    have : ∀ us : List Tree, (∀ u ∈ us, u ∈ ts) → allO ((us.map Tree.enc).map (isSh b many d)) = some true := fun us hu => by
      induction us with
      | nil => rfl
      | cons u us ih =>
        have i := isSh_ok (d := d) (t := u) (hk.2.2 u (hu u List.mem_cons_self)) (fun n hnn => hn n (List.mem_flatMap.mpr ⟨u, hu u List.mem_cons_self, hnn⟩)) (hts u (hu u List.mem_cons_self))
        rw [List.map_cons, List.map_cons]
        unfold allO
        rw [i, ih fun w hw => hu w (List.mem_cons_of_mem _ hw)]
        rfl
    exact this ts fun _ h => h

section
variable {ρ : Sl} {h : Hv} {E : PX} {D : AE} {s1 s2 : SD} {ta tb : TD} {da : ED} {aa : AD} {QT : Bool → Hv → Prop} {Q : PV}
end
structure TO (b : Book) (hp : Heap') (z : Str) (r : Option (Int × Tree)) : Prop where
  n : r.isNone = !dec (Can b hp z (2 ^ hp.length - 1))
  s : ∀ k t, r = some (k, t) → GT b hp z (2 ^ hp.length - 1) t ∧ t.ht < 24 ∧ okN 60 t.enc = true ∧ t.things.length ≤ 8
end DL
namespace DL
open PySem PySem.Spec PyProof.Rows L2
def inNm (b : Book) : Option Str → Bool
  | none => true
  | some z => decide (z ∈ b.names)
end DL
namespace DL
open PySem PySem.Spec PyProof.Rows L2
inductive Th where
  | raw (w : Int) (l : Option Str)
  | made (z : Str) (xs : List Int)
def encTh : Th → Val
  | .raw w l => .tup [.int w, encO l]
  | .made z xs => .tup [.str z, .lst (xs.map .int)]
structure St where
  things : List Th
  lying : List Int
  gone : List (Int × Str)
def trY (ts : List Th) : Nat → Int → Tree
  | 0, n => .leaf n
  | k + 1, n => match ts[n.toNat]? with
    | some (.made z xs) => .node z (xs.map (trY ts k))
    | _ => .leaf n
def treeY (ts : List Th) (n : Int) : Tree := trY ts (n.toNat + 1) n
def hpY (ts : List Th) : Heap' := ts.map fun t => match t with
  | .raw w l => (w, l)
  | .made _ _ => (0, none)
structure WFT (b : Book) (ts : List Th) : Prop where
  n : ts.length ≤ 200
  raw : ∀ (i : Nat) w l, ts[i]? = some (.raw w l) → 1 ≤ w ∧ w ≤ 9999 ∧ ∀ z, l = some z → z ∈ b.names
  made : ∀ (i : Nat) z xs, ts[i]? = some (.made z xs) → z ∈ b.names ∧ xs ≠ [] ∧ xs.length ≤ 200 ∧ ∀ x ∈ xs, 0 ≤ x ∧ x < (i : Int)
structure WFY (b : Book) (s : St) : Prop where
  t : WFT b s.things
  ln : s.lying.Nodup
  lr : ∀ x ∈ s.lying, 0 ≤ x ∧ x < (s.things.length : Int)
  ll : s.lying.length ≤ 200
  gl : s.gone.length ≤ 200
  gr : ∀ p ∈ s.gone, 0 ≤ p.1 ∧ p.1 < (s.things.length : Int)
def encG (p : Int × Str) : Val := .tup [.int p.1, .str p.2]
def stF (s : St) : List (Str × Val) := [("things", .lst (s.things.map encTh)), ("lying", .lst (s.lying.map .int)), ("gone", .lst (s.gone.map encG))]
def StAt (G : Gx) (h : Hv) (a : Addr) (s : St) : Prop := h a = some (.ins (G.C "State") (stF s))
structure Ay where
  st : Addr
  dn : Addr
  un : Addr
def encDd (p : Val × Addr) : Val := .tup [p.1, .ref p.2]
def ydF (b : Book) (A : Ay) : List (Str × Val) := [("book", encB b), ("state", .ref A.st), ("done", .ref A.dn), ("undone", .ref A.un)]
structure YdAt (G : Gx) (h : Hv) (a : Addr) (b : Book) (s : St) (A : Ay) (ds us : List (Val × Addr)) : Prop where
  ins : h a = some (.ins (G.C "Yard") (ydF b A))
  st : StAt G h A.st s
  dn : h A.dn = some (.lst (ds.map encDd))
  un : h A.un = some (.lst (us.map encDd))
  ne : A.dn ≠ A.un
structure YFr (a : Addr) (A : Ay) (h h' : Hv) : Prop where
  o : ∀ c, c ≠ a → c ≠ A.dn → h c = none ∨ h' c = h c
  b : ∀ c o, (∀ C fs, o ≠ .ins C fs) → (∀ vs, o ≠ .lst vs) → h' c = some o → h c = some o
structure Nw (h' h : Hv) : Prop where
  o : ∀ c, h c = none ∨ h' c = h c
  b : ∀ c o, (∀ C fs, o ≠ .ins C fs) → (∀ vs, o ≠ .lst vs) → h' c = some o → h c = some o
section
variable (G : Gx)
def wRef (b : Book) (w : Int) (l : Option Str) : Option Str := if ¬(1 ≤ w ∧ w ≤ 9999) then some "NoWorth" else if inNm b l = true then none else some "NoLand"
def St.take (s : St) (w : Int) (l : Option Str) : St := ⟨s.things ++ [.raw w l], s.lying ++ [(s.things.length : Int)], s.gone⟩
def St.mk' (s : St) (z : Str) (xs : List Int) : St := ⟨s.things ++ [.made z xs], (s.lying.filter fun x => decide (x ∉ xs)) ++ [(s.things.length : Int)], s.gone⟩
def St.snd (s : St) (n : Int) (z : Str) : St := ⟨s.things, s.lying.filter fun x => decide (x ≠ n), s.gone ++ [(n, z)]⟩
def St.fnd (s : St) (n : Int) (w : Int) (l : Option Str) : St := ⟨s.things.set n.toNat (.raw w l), s.lying, s.gone⟩
def mRef (b : Book) (s : St) (z : Str) (xs : List Int) : Option Str := if z ∉ b.names then some "NoLand" else if xs = [] ∨ (∃ x ∈ xs, x ∉ s.lying) ∨ ¬xs.Nodup then some "NoThing" else none
end
end DL
namespace DL
open PySem PySem.Spec PyProof.Rows L2
def isMade (ts : List Th) (n : Int) : Bool := match ts[n.toNat]? with
  | some (.made _ _) => true
  | _ => false
def fRef (b : Book) (s : St) (n w : Int) (l : Option Str) : Option Str := if ¬(0 ≤ n ∧ n < (s.things.length : Int)) ∨ isMade s.things n = true then some "NoThing" else wRef b w l
section
variable (G : Gx)
def isNew (v : Val) : Bool := match v with
  | .tup [.str w, _] => decide (w = "take_in") || decide (w = "make")
  | _ => false
end
end DL
namespace DL
open PySem PySem.Spec PyProof.Rows L2
inductive Deed where
  | take (w : Int) (l : Option Str)
  | make (z : Str) (xs : List Int)
  | send (n : Int) (z : Str)
  | find (n w : Int) (l : Option Str)
def Deed.word : Deed → Str
  | .take _ _ => "take_in"
  | .make _ _ => "make"
  | .send _ _ => "send"
  | .find _ _ _ => "find"
def Deed.args : Deed → Val
  | .take w l => .tup [.int w, encO l]
  | .make z xs => .tup [.str z, .tup (xs.map .int)]
  | .send n z => .tup [.int n, .str z]
  | .find n w l => .tup [.int n, .int w, encO l]
def Deed.enc (d : Deed) : Val := .tup [.str d.word, d.args]
def sRef (b : Book) (s : St) (n : Int) (z : Str) : Option (Str × Option Val) :=
  if n ∉ s.lying then some ("NoThing", none) else if z ∉ b.names then some ("NoLand", none) else if (treeY s.things n).land b (hpY s.things) = some z then none else some ("NotOf", some (encO ((treeY s.things n).land b (hpY s.things))))
def Deed.ref (b : Book) (s : St) : Deed → Option (Str × Option Val)
  | .take w l => (wRef b w l).map fun e => (e, none)
  | .make z xs => (mRef b s z xs).map fun e => (e, none)
  | .send n z => sRef b s n z
  | .find n w l => (fRef b s n w l).map fun e => (e, none)
def Deed.does (s : St) : Deed → St
  | .take w l => s.take w l
  | .make z xs => s.mk' z xs
  | .send n z => s.snd n z
  | .find n w l => s.fnd n w l
def Deed.ret (s : St) : Deed → Val
  | .take _ _ => .int (s.things.length : Int)
  | .make _ _ => .int (s.things.length : Int)
  | .send _ _ => .non
  | .find _ _ _ => .non
def Deed.ok : Deed → Prop
  | .take w _ => 0 ≤ w ∧ w ≤ 10000
  | .make _ xs => xs.length ≤ 8 ∧ ∀ x ∈ xs, 0 ≤ x
  | .send n _ => 0 ≤ n
  | .find n w _ => 0 ≤ n ∧ 0 ≤ w ∧ w ≤ 10000
def Deed.lands : Deed → List Str
  | .take _ l => l.toList
  | .make z _ => [z]
  | .send _ z => [z]
  | .find _ _ l => l.toList
end DL
namespace DL
open PySem PySem.Spec PyProof.Rows L2
@[simp] def sRaiseV (x : Str) (d : ED) : SD := fun ρ h _ E => d ρ h (fun v h1 => E x (some v) ρ h1) E
end DL
namespace DL
open PySem PySem.Spec PyProof.Rows L2
section
variable {X : Cx} {sg : Scope} {g : Addr} {cdg : Value} {q : Str} {cs : Str → Addr} {rs : List Str} {den : SD} {s1 : Stmt} {rest : List Stmt} {p1 p2 p3 p4 p5 p6 p7 p8 p9 p10 p11 : Pos}
end
end DL
namespace DL
open PySem PySem.Spec PyProof.Rows L2
end DL
namespace DL
open PySem PySem.Spec PyProof.Rows L2
end DL
namespace DL
open PySem PySem.Spec PyProof.Rows L2
section
variable {b : Book} {ts : List Th}
theorem trY_fuel (w : WFT b ts) : ∀ (k : Nat) (n : Int), n.toNat < k → trY ts k n = trY ts (n.toNat + 1) n := by
  intro k
  induction k using Nat.strongRecOn with
  | ind k ih =>
    intro n hn
    cases k with
    | zero => exact absurd hn (Nat.not_lt_zero _)
    | succ k =>
      unfold trY
      cases e : ts[n.toNat]? with
      | none => rfl
      | some th =>
        cases th with
        | raw v l => rfl
        | made z xs =>
          obtain ⟨-, -, -, hx⟩ := w.made _ z xs e
          have : xs.map (trY ts k) = xs.map (trY ts n.toNat) := List.map_congr_left fun x hxm => by
            obtain ⟨h0, h1⟩ := hx x hxm
            rw [ih k (Nat.lt_succ_self _) x (by omega)]
            by_cases hk : n.toNat < k + 1
            · by_cases hk2 : n.toNat = k
              · rw [hk2, ih k (Nat.lt_succ_self _) x (by omega)]
              · rw [ih n.toNat (by omega) x (by omega)]
            · omega
          simp only [this]
theorem treeY_made (w : WFT b ts) {n : Int} {z : Str} {xs : List Int} (e : ts[n.toNat]? = some (.made z xs)) : treeY ts n = .node z (xs.map (treeY ts)) := by
  unfold treeY trY
  rw [e]
  obtain ⟨-, -, -, hx⟩ := w.made _ z xs e
  have : xs.map (trY ts n.toNat) = xs.map (treeY ts) := List.map_congr_left fun x hxm => by
    obtain ⟨h0, h1⟩ := hx x hxm
    exact trY_fuel w n.toNat x (by omega)
  simp only [this]
  rfl
theorem treeY_raw {n : Int} {v : Int} {l : Option Str} (e : ts[n.toNat]? = some (.raw v l)) : treeY ts n = .leaf n := by
  unfold treeY trY
  rw [e]
theorem th_get {n : Int} (h0 : 0 ≤ n) (h1 : n < (ts.length : Int)) : ∃ th, ts[n.toNat]? = some th := ⟨ts[n.toNat]'(by omega), List.getElem?_eq_getElem (by omega)⟩
end
section
variable {G : Gx} {ρ : Sl} {h : Hv} {E : PX} {da db : ED} {a : Addr} {b : Book} {s : St} {n : Int}
theorem f_ixI {v : Val} {vs : List Val} {i : Int} {u : Val} (e : seqOf v h = some vs) (h0 : 0 ≤ i) (hu : vs[i.toNat]? = some u) : EvF h fIx v (.int i) u := by
  have := f_ixL (h := h) (n := i.toNat) e hu
  rwa [show ((i.toNat : Nat) : Int) = i by omega] at this
theorem c_isi {v : Val} {T : String} {t : String} (e : tyN v h = some t) (m : T ∈ ["int", "bool", "str", "tuple", "list"]) : EvC h fIsi [v, .ty T] (.bl (isT t T)) := fun Q q => by
  show match tyN v h with | some t => T ∈ ["int", "bool", "str", "tuple", "list"] ∧ Q (.bl (isT t T)) h | none => False
  rw [e]; exact ⟨m, q⟩
end
end DL
namespace DL
open PySem PySem.Spec PyProof.Rows L2
theorem ss_no {ρ : Sl} {h : Hv} {E : PX} {D : AE} {t : TD} {s1 s3 : SD} (ht : EvT ρ h E t false) (q : s3 ρ h D E) : sSeq (sIf t s1 sNext) s3 ρ h D E := ss_if ht (fun z => nomatch z) fun _ => q
theorem so_no {ρ : Sl} {h : Hv} {E : PX} {D : AE} {t : TD} {s1 : SD} (ht : EvT ρ h E t false) (q : D.nx ρ h) : sIf t s1 sNext ρ h D E := s_if ht (fun z => nomatch z) fun _ => q
theorem ss_yes {ρ : Sl} {h : Hv} {E : PX} {D : AE} {t : TD} {s1 s2 s3 : SD} (ht : EvT ρ h E t true) (q : s1 ρ h { D with nx := fun ρ h => s3 ρ h D E } E) : sSeq (sIf t s1 s2) s3 ρ h D E := ss_if ht (fun _ => q) fun z => nomatch z
end DL
namespace DL
open PySem PySem.Spec PyProof.Rows L2
end DL
namespace DL
open PySem PySem.Spec PyProof.Rows L2
theorem f_neOO {h : Hv} {a b : Option Str} : EvF h fNe (encO a) (encO b) (.bl (!decide (a = b))) := fun Q q => by
  cases b with
  | some z => exact fNe_encO2 q
  | none =>
    cases a with
    | none => exact Qv q (by simp)
    | some z => exact Qv q (by simp)
end DL
namespace DL
open PySem PySem.Spec PyProof.Rows L2
end DL
namespace DL
open PySem PySem.Spec PyProof.Rows L2
section
variable {b : Book} {hp : Heap'} {z : Str}
theorem wt_rest {p n : Nat} (hn : n < 256) (s : sub p n = true) : wt hp n = wt hp p + wt hp (n - p) := by
  unfold wt
  rw [← sum_perm (set_rest hn s), List.map_append, List.sum_append]
end
end DL
namespace DL
open PySem PySem.Spec PyProof.Rows L2
section
variable {prog : Program} {w : World} {A : Around} {E : Value → Shared → Prop} {s : Shared}
end
end DL
namespace DL
open PySem PySem.Spec PyProof.Rows L2
section
variable {ρ : Sl} {h : Hv} {E : PX} {Q : PV} {da db : ED} {aa : AD} {f : F2}
end
end DL
namespace DL
open PySem PySem.Spec PyProof.Rows L2
end DL
namespace DL
open PySem PySem.Spec PyProof.Rows L2
end DL
namespace DL
open PySem PySem.Spec PyProof.Rows L2
section
variable {ρ : Sl} {h : Hv} {E : PX} {D : AE} {dl dx : ED} {s2 : SD}
theorem s_app {a : Addr} {vs : List Val} {w : Val} (ho : EvE ρ h E dl (.ref a)) (e : h a = some (.lst vs)) (hl : vs.length < sizeLine) (hx : EvE ρ h E dx w) (q : D.nx ρ (put h a (.lst (vs ++ [w])))) : sExpr (dBM "list" fAppend dl (aCons dx aNil)) ρ h D E := ho _ ⟨by simp only [tyA, e], eva1 hx _ (by simp only [fAppend, e]; exact ⟨hl, q⟩)⟩
end
end DL
namespace DL
open PySem PySem.Spec PyProof.Rows L2
section
variable {G : Gx} {ρ : Sl} {h : Hv} {E : PX} {da db dv : ED} {a : Addr} {b : Book} {s : St} {A : Ay} {n : Int}
end
end DL
namespace DL
open PySem PySem.Spec PyProof.Rows L2
section
variable {G : Gx} {ρ : Sl} {h : Hv} {E : PX} {da db d1 d2 d3 : ED} {a : Addr} {b : Book} {s : St} {A : Ay} {n : Int}
theorem c_lenL {xs : List Val} : EvC h fLen [.lst xs] (.int (xs.length : Int)) := c_len (n := xs.length) (by simp [lenA])
theorem f_neOZ {o : Option Str} {z : Str} : EvF h fNe (encO o) (.str z) (.bl (!decide (o = some z))) := f_neOO (b := some z)
theorem c_sortY {xs : List Int} : EvC h fSorted [.lst (xs.map .int)] (.lst ((sortI xs).map .int)) := fun Q q => by
  unfold fSorted
  simp only [listOf, Option.bind_some, intsOf_map']
  exact q
theorem ev_tupleL {xs : List Val} {d : ED} (hd : EvE ρ h E d (.lst xs)) : EvE ρ h E (dCB fTuple (aCons d aNil)) (.tup xs) := ev_cb (eva1 hd) fun Q q => q
end
end DL
namespace DL
open PySem PySem.Spec PyProof.Rows L2
end DL
namespace DL
open PySem PySem.Spec PyProof.Rows L2
section
variable {b : Book} {ts : List Th} {t n : Int}
end
end DL
namespace DL
open PySem PySem.Spec PyProof.Rows L2
end DL
namespace DL
open PySem PySem.Spec PyProof.Rows L2
section
variable {ρ : Sl} {h : Hv} {E : PX} {d : ED}
theorem c_lenT {xs : List Val} : EvC h fLen [.tup xs] (.int (xs.length : Int)) := c_len (n := xs.length) (by simp [lenA])
end
end DL
namespace DL
open PySem PySem.Spec PyProof.Rows L2
end DL
namespace DL
open PySem PySem.Spec PyProof.Rows L2
end DL
namespace DL
open PySem PySem.Spec PyProof.Rows L2
section
variable {P : Program} {w : World} {A : Around} {E : Value → Shared → Prop} {s : Shared}
end
end DL
namespace DL
open PySem PySem.Spec PyProof.Rows L2
end DL
namespace DL
open PySem PySem.Spec PyProof.Rows L2
end DL
namespace DL
open PySem PySem.Spec PyProof.Rows L2
end DL
namespace DL
open PySem PySem.Spec PyProof.Rows L2
section
variable {b : Book} {ts ex : List Th} {s s1 s2 : St}
theorem trY_app (w : WFT b ts) : ∀ (k : Nat) (n : Int), 0 ≤ n → n < (ts.length : Int) → trY (ts ++ ex) k n = trY ts k n := by
  intro k
  induction k with
  | zero => intro n _ _; rfl
  | succ k ih =>
    intro n h0 h1
    unfold trY
    rw [List.getElem?_append_left (by omega)]
    cases e : ts[n.toNat]? with
    | none => rfl
    | some th =>
      cases th with
      | raw v l => rfl
      | made z xs =>
        obtain ⟨-, -, -, hx⟩ := w.made _ z xs e
        have : xs.map (trY (ts ++ ex) k) = xs.map (trY ts k) := List.map_congr_left fun x hxm => by
          obtain ⟨x0, x1⟩ := hx x hxm
          exact ih x x0 (by omega)
        simp only [this]
theorem treeY_app (w : WFT b ts) {n : Int} (h0 : 0 ≤ n) (h1 : n < (ts.length : Int)) : treeY (ts ++ ex) n = treeY ts n := trY_app w _ n h0 h1
theorem len_rng : ∀ (m : Nat) (l : List Int), l.Nodup → (∀ x ∈ l, 0 ≤ x ∧ x < (m : Int)) → l.length ≤ m
  | 0, l, _, h => by
    cases l with
    | nil => exact Nat.le_refl _
    | cons x _ => have := h x List.mem_cons_self; omega
  | m + 1, l, nd, h => by
    by_cases hm : (m : Int) ∈ l
    · have := len_rng m (l.erase (m : Int)) (nd.erase _) fun x hx => by
        rw [nd.mem_erase_iff] at hx
        obtain ⟨x0, x1⟩ := h x hx.2
        exact ⟨x0, by have := hx.1; omega⟩
      rw [List.length_erase_of_mem hm] at this
      omega
    · have := len_rng m l nd fun x hx => by
        obtain ⟨x0, x1⟩ := h x hx
        exact ⟨x0, by
          have : x ≠ (m : Int) := fun e => hm (e ▸ hx)
          omega⟩
      omega
theorem WFT.snoc (w : WFT b ts) {th : Th} (l : ts.length < 200) (hr : ∀ v o, th = .raw v o → 1 ≤ v ∧ v ≤ 9999 ∧ ∀ z, o = some z → z ∈ b.names) (hm : ∀ z xs, th = .made z xs → z ∈ b.names ∧ xs ≠ [] ∧ xs.length ≤ 200 ∧ ∀ x ∈ xs, 0 ≤ x ∧ x < (ts.length : Int)) : WFT b (ts ++ [th]) := by
  have get : ∀ (i : Nat) u, (ts ++ [th])[i]? = some u → ts[i]? = some u ∨ (i = ts.length ∧ u = th) := fun i u e => by
    by_cases hi : i < ts.length
    · rw [List.getElem?_append_left hi] at e; exact .inl e
    · rw [List.getElem?_append_right (by omega)] at e
      by_cases h0 : i - ts.length = 0
      · rw [h0] at e
        exact .inr ⟨by omega, (Option.some.inj e).symm⟩
      · have : i - ts.length = (i - ts.length - 1) + 1 := by omega
        rw [this] at e
        cases e
  refine ⟨by simp; omega, fun i v o e => ?_, fun i z xs e => ?_⟩
  · rcases get i _ e with e | ⟨_, e⟩
    · exact w.raw i v o e
    · exact hr v o e.symm
  · rcases get i _ e with e | ⟨hi, e⟩
    · exact w.made i z xs e
    · rw [hi]; exact hm z xs e.symm
theorem WFY.mk' (w : WFY b s) {z : Str} {xs : List Int} (zn : z ∈ b.names) (ne : xs ≠ []) (hx : ∀ x ∈ xs, x ∈ s.lying) (nd : xs.Nodup) (l : s.things.length < 200) : WFY b (s.mk' z xs) := by
  have xl : xs.length ≤ 200 := Nat.le_trans (len_rng s.things.length xs nd fun x h => w.lr x (hx x h)) w.t.n
  have lr : ∀ x ∈ (s.lying.filter fun x => decide (x ∉ xs)) ++ [(s.things.length : Int)], 0 ≤ x ∧ x < ((s.things ++ [Th.made z xs]).length : Int) := fun x h => by
    rw [List.length_append]
    rcases List.mem_append.mp h with h | h
    · obtain ⟨x0, x1⟩ := w.lr x (List.mem_filter.mp h).1
      exact ⟨x0, by simp; omega⟩
    · rw [List.mem_singleton.mp h]; exact ⟨by omega, by simp; omega⟩
  have ln : ((s.lying.filter fun x => decide (x ∉ xs)) ++ [(s.things.length : Int)]).Nodup := by
    rw [List.nodup_append]
    refine ⟨w.ln.filter _, by simp, fun x h y hy e => ?_⟩
    rw [List.mem_singleton.mp hy] at e
    have := (w.lr x (List.mem_filter.mp h).1).2
    omega
  refine ⟨w.t.snoc l (fun v o e => nomatch e) fun z' xs' e => ?_, ln, lr, ?_, w.gl, fun p hp => ?_⟩
  · cases e; exact ⟨zn, ne, xl, fun x h => w.lr x (hx x h)⟩
  · have := len_rng _ _ ln lr
    have e : ((s.things ++ [Th.made z xs]).length) = s.things.length + 1 := by simp
    show ((s.lying.filter fun x => decide (x ∉ xs)) ++ [(s.things.length : Int)]).length ≤ 200
    omega
  · obtain ⟨p0, p1⟩ := w.gr p hp
    refine ⟨p0, ?_⟩
    show p.1 < ((s.things ++ [Th.made z xs]).length : Int)
    rw [List.length_append]
    simp; omega
theorem WFY.take (w : WFY b s) {v : Int} {o : Option Str} (hv : 1 ≤ v ∧ v ≤ 9999) (ho : ∀ z, o = some z → z ∈ b.names) (l : s.things.length < 200) : WFY b (s.take v o) := by
  have lr : ∀ x ∈ s.lying ++ [(s.things.length : Int)], 0 ≤ x ∧ x < ((s.things ++ [Th.raw v o]).length : Int) := fun x h => by
    rw [List.length_append]
    rcases List.mem_append.mp h with h | h
    · obtain ⟨x0, x1⟩ := w.lr x h
      exact ⟨x0, by simp; omega⟩
    · rw [List.mem_singleton.mp h]; exact ⟨by omega, by simp; omega⟩
  have ln : (s.lying ++ [(s.things.length : Int)]).Nodup := by
    rw [List.nodup_append]
    refine ⟨w.ln, by simp, fun x h y hy e => ?_⟩
    rw [List.mem_singleton.mp hy] at e
    have := (w.lr x h).2
    omega
  refine ⟨w.t.snoc l (fun v' o' e => ?_) fun z' xs' e => (nomatch e), ln, lr, ?_, w.gl, fun p hp => ?_⟩
  · cases e; exact ⟨hv.1, hv.2, ho⟩
  · have := len_rng _ _ ln lr
    have e : ((s.things ++ [Th.raw v o]).length) = s.things.length + 1 := by simp
    show (s.lying ++ [(s.things.length : Int)]).length ≤ 200
    omega
  · obtain ⟨p0, p1⟩ := w.gr p hp
    refine ⟨p0, ?_⟩
    show p.1 < ((s.things ++ [Th.raw v o]).length : Int)
    rw [List.length_append]
    simp; omega
end
def mkD (p : Str × List Int) : Val := .tup [.str "make", .tup [.str p.1, .tup (p.2.map .int)]]
structure MadeR (b : Book) (s s' : St) (ts : List Tree) (ms : List Int) (dd : List (Val × Addr)) : Prop where
  wy : WFY b s'
  th : ∃ ex, s'.things = s.things ++ ex ∧ ex.length = (landsTs ts).length
  gn : s'.gone = s.gone
  ly : ∀ x, x ∈ s'.lying ↔ (x ∈ s.lying ∧ x ∉ thingsTs ts) ∨ x ∈ ms
  tr : ms.map (treeY s'.things) = ts
  mr : ∀ x ∈ ms, x ∈ thingsTs ts ∨ (s.things.length : Int) ≤ x
  nd : ms.Nodup
  dd : ∃ zs : List (Str × List Int), dd.map (·.1) = zs.map mkD ∧ (zs.map (·.1)).Perm (landsTs ts)
def Raws (s : St) (xs : List Int) : Prop := ∀ x ∈ xs, x ∈ s.lying ∧ ∃ w l, s.things[x.toNat]? = some (.raw w l)
section
variable {b : Book} {s s1 s2 : St} {ts : List Tree} {ms : List Int} {dd dd2 : List (Val × Addr)} {t : Tree} {m n : Int}
theorem MadeR.nil (w : WFY b s) : MadeR b s s [] [] [] := ⟨w, ⟨[], by simp, rfl⟩, rfl, fun x => by simp [thingsTs], rfl, fun _ h => absurd h (by simp), List.nodup_nil, [], rfl, by simp [landsTs]⟩
theorem MadeR.leaf (w : WFY b s) (hn : n ∈ s.lying) {v : Int} {l : Option Str} (e : s.things[n.toNat]? = some (.raw v l)) : MadeR b s s [.leaf n] [n] [] := by
  refine ⟨w, ⟨[], by simp, rfl⟩, rfl, fun x => ?_, by simp [treeY_raw e], fun x h => .inl ?_, by simp, [], rfl, by simp [landsTs, Tree.lands]⟩
  · simp only [thingsTs, Tree.things, List.append_nil, List.mem_singleton]
    constructor
    · intro h
      by_cases c : x = n
      · exact .inr c
      · exact .inl ⟨h, c⟩
    · rintro (h | h)
      · exact h.1
      · rw [h]; exact hn
  · simpa [thingsTs, Tree.things] using h
theorem Raws.lt (w : WFY b s) {xs : List Int} (r : Raws s xs) : ∀ x ∈ xs, 0 ≤ x ∧ x < (s.things.length : Int) := fun x h => w.lr x (r x h).1
theorem MadeR.snoc (w : WFY b s) (r : MadeR b s s1 ts ms dd) (r2 : MadeR b s1 s2 [t] [m] dd2) (ht : Raws s t.things) (dj : ∀ x ∈ t.things, x ∉ thingsTs ts) : MadeR b s s2 (ts ++ [t]) (ms ++ [m]) (dd ++ dd2) := by
  obtain ⟨ex, et, el⟩ := r.th
  obtain ⟨ex2, et2, el2⟩ := r2.th
  have t1 : thingsTs [t] = t.things := by simp [thingsTs]
  have ta : thingsTs (ts ++ [t]) = thingsTs ts ++ t.things := by rw [thingsTs_map, thingsTs_map, List.flatMap_append]; simp
  have la : landsTs (ts ++ [t]) = landsTs ts ++ landsTs [t] := by rw [landsTs_map, landsTs_map, landsTs_map, List.flatMap_append]
  have mt : ∀ x ∈ ms, x ∉ t.things := fun x hx hxt => by
    rcases r.mr x hx with h | h
    · exact dj x hxt h
    · have := (ht.lt w x hxt).2; omega
  have ml : ∀ x ∈ ms, 0 ≤ x ∧ x < (s1.things.length : Int) := fun x hx => r.wy.lr x ((r.ly x).mpr (.inr hx))
  have sl : s.things.length ≤ s1.things.length := by rw [et]; simp
  refine ⟨r2.wy, ⟨ex ++ ex2, by rw [et2, et, List.append_assoc], by rw [List.length_append, la, List.length_append, el, el2]⟩, r2.gn.trans r.gn, fun x => ?_, ?_, fun x hx => ?_, ?_, ?_⟩
  · rw [r2.ly, r.ly, ta, t1, List.mem_append, List.mem_append, List.mem_singleton]
    constructor
    · rintro (⟨h1 | h1, h2⟩ | h)
      · exact .inl ⟨h1.1, fun z => z.elim h1.2 h2⟩
      · exact .inr (.inl h1)
      · exact .inr (.inr h)
    · rintro (⟨h1, h2⟩ | h | h)
      · exact .inl ⟨.inl ⟨h1, fun z => h2 (.inl z)⟩, fun z => h2 (.inr z)⟩
      · exact .inl ⟨.inr h, mt x h⟩
      · exact .inr h
  · rw [List.map_append, r2.tr]
    congr 1
    rw [← r.tr]
    refine List.map_congr_left fun x hx => ?_
    obtain ⟨x0, x1⟩ := ml x hx
    rw [et2]
    exact treeY_app r.wy.t x0 x1
  · rw [ta]
    rcases List.mem_append.mp hx with h | h
    · rcases r.mr x h with h | h
      · exact .inl (List.mem_append_left _ h)
      · exact .inr h
    · rcases r2.mr x h with h | h
      · rw [t1] at h; exact .inl (List.mem_append_right _ h)
      · exact .inr (by omega)
  · rw [List.nodup_append]
    refine ⟨r.nd, by simp, fun x hx y hy e => ?_⟩
    have hy := List.mem_singleton.mp hy
    rcases r2.mr m List.mem_cons_self with h | h
    · rw [t1] at h; exact mt x hx (by rw [e, hy]; exact h)
    · have := (ml x hx).2; omega
  · obtain ⟨zs, e1, p1⟩ := r.dd
    obtain ⟨zs2, e2, p2⟩ := r2.dd
    exact ⟨zs ++ zs2, by rw [List.map_append, List.map_append, e1, e2], by rw [List.map_append, la]; exact p1.append p2⟩
theorem MadeR.node (w : WFY b s) {z : Str} (r : MadeR b s s1 ts ms dd) (zn : z ∈ b.names) (ne : ms ≠ []) (l : s1.things.length < 200) (st : Addr) : MadeR b s (s1.mk' z ms) [.node z ts] [(s1.things.length : Int)] (dd ++ [(mkD (z, ms), st)]) := by
  obtain ⟨ex, et, el⟩ := r.th
  have t1 : thingsTs [Tree.node z ts] = thingsTs ts := by simp [thingsTs, Tree.things]
  have l1 : landsTs [Tree.node z ts] = z :: landsTs ts := by simp [landsTs, Tree.lands]
  have ml : ∀ x ∈ ms, x ∈ s1.lying := fun x hx => (r.ly x).mpr (.inr hx)
  have wy := r.wy.mk' zn ne ml r.nd l
  have sl : s.things.length ≤ s1.things.length := by rw [et]; simp
  refine ⟨wy, ⟨ex ++ [.made z ms], by show s1.things ++ _ = _; rw [et, List.append_assoc], by rw [List.length_append, l1, el]; rfl⟩, r.gn, fun x => ?_, ?_, fun x hx => .inr ?_, by simp, ?_⟩
  · show x ∈ (s1.lying.filter fun x => decide (x ∉ ms)) ++ [(s1.things.length : Int)] ↔ _
    rw [List.mem_append, List.mem_filter, r.ly, t1, decide_eq_true_eq, List.mem_singleton]
    constructor
    · rintro (⟨h1 | h1, h2⟩ | h)
      · exact .inl h1
      · exact absurd h1 h2
      · exact .inr h
    · rintro (⟨h1, h2⟩ | h)
      · refine .inl ⟨.inl ⟨h1, h2⟩, fun hm => ?_⟩
        rcases r.mr x hm with h | h
        · exact h2 h
        · have := (w.lr x h1).2; omega
      · exact .inr h
  · have e : (s1.mk' z ms).things[((s1.things.length : Int)).toNat]? = some (.made z ms) := by
      show (s1.things ++ [Th.made z ms])[_]? = _
      rw [Int.toNat_natCast, List.getElem?_append_right (Nat.le_refl _), Nat.sub_self]
      rfl
    rw [List.map_cons, List.map_nil, treeY_made wy.t e]
    congr 2
    rw [← r.tr]
    refine List.map_congr_left fun x hx => ?_
    obtain ⟨x0, x1⟩ := r.wy.lr x (ml x hx)
    exact treeY_app r.wy.t x0 x1
  · rw [List.mem_singleton.mp hx]; omega
  · obtain ⟨zs, e1, p1⟩ := r.dd
    refine ⟨zs ++ [(z, ms)], by rw [List.map_append, List.map_append, e1]; rfl, ?_⟩
    rw [List.map_append, l1]
    exact (List.perm_append_singleton z _).trans (p1.cons z)
end
end DL
namespace DL
open PySem PySem.Spec PyProof.Rows L2
end DL
namespace DL
open PySem PySem.Spec PyProof.Rows L2
end DL
namespace DL
open PySem PySem.Spec PyProof.Rows L2
section
variable {G : Gx} {ρ : Sl} {h h1 h2 : Hv} {E : PX} {da : ED} {a : Addr} {b : Book} {s s1 : St} {A A1 : Ay} {ds us : List (Val × Addr)}
theorem YFr.refl : YFr a A h h := ⟨fun _ _ _ => .inr rfl, fun _ _ _ _ h => h⟩
theorem YFr.trans (x : YFr a A h h1) (y : YFr a A1 h1 h2) (e : A1.dn = A.dn) : YFr a A h h2 := by
  refine ⟨fun c ca cd => ?_, fun c o n1 n2 hc => x.b c o n1 n2 (y.b c o n1 n2 hc)⟩
  rcases x.o c ca cd with h | h
  · exact .inl h
  · rcases y.o c ca (e ▸ cd) with h' | h'
    · rw [h] at h'; exact .inl h'
    · exact .inr (h'.trans h)
theorem YdAt.keep (t : YdAt G h a b s A ds us) {D : Addr} (nD : h D = none) {o : Ob} : YdAt G (put h D o) a b s A ds us := by
  have k : ∀ {c : Addr} {u : Ob}, h c = some u → put h D o c = some u := fun {c u} e => by
    rw [put_ne (fun z => by rw [z, nD] at e; cases e)]; exact e
  exact ⟨k t.ins, k t.st, k t.dn, k t.un, t.ne⟩
theorem YdAt.drop (t : YdAt G h a b s A ds us) {D : Addr} (bD : h D = some .busy) : YdAt G (DL.drop h D) a b s A ds us := by
  have k : ∀ {c : Addr} {u : Ob}, u ≠ .busy → h c = some u → DL.drop h D c = some u := fun {c u} n e => by
    rw [drop_ne (fun z => by rw [z, bD] at e; exact n (Option.some.inj e).symm)]; exact e
  exact ⟨k (fun z => nomatch z) t.ins, k (fun z => nomatch z) t.st, k (fun z => nomatch z) t.dn, k (fun z => nomatch z) t.un, t.ne⟩
theorem YFr.drop {D : Addr} (nD : h D = none) (f : YFr a A (put h D .busy) h1) : YFr a A h (DL.drop h1 D) := by
  refine ⟨fun c ca cd => ?_, fun c o n1 n2 hc => ?_⟩
  · by_cases e : c = D
    · rw [e]; exact .inl nD
    · rw [drop_ne e]
      have := f.o c ca cd
      rwa [put_ne e] at this
  · by_cases e : c = D
    · rw [e, drop_same] at hc; cases hc
    · rw [drop_ne e] at hc
      have := f.b c o n1 n2 hc
      rwa [put_ne e] at this
theorem YFr.busy {D : Addr} (t : YdAt G h a b s A ds us) (nD : h D = none) (f : YFr a A (put h D .busy) h1) : h1 D = some .busy := by
  rcases f.o D (fun z => by rw [z, t.ins] at nD; cases nD) (fun z => by rw [z, t.dn] at nD; cases nD) with e | e
  · rw [put_same] at e; cases e
  · rw [e, put_same]
end
end DL
namespace DL
open PySem PySem.Spec PyProof.Rows L2
end DL
namespace DL
open PySem PySem.Spec PyProof.Rows L2
theorem WFY.snd {b : Book} {s : St} (w : WFY b s) {n : Int} (z : Str) (h : n ∈ s.lying) (l : s.gone.length < 200) : WFY b (s.snd n z) := by
  refine ⟨w.t, w.ln.filter _, fun x hx => w.lr x (List.mem_filter.mp hx).1, Nat.le_trans (List.length_filter_le _ _) w.ll, ?_, fun p hp => ?_⟩
  · show (s.gone ++ [(n, z)]).length ≤ 200
    simp; omega
  · rcases List.mem_append.mp hp with hp | hp
    · exact w.gr p hp
    · rw [List.mem_singleton.mp hp]; exact w.lr n h
section
variable {b : Book} {k : Int}
end
end DL
namespace DL
open PySem PySem.Spec PyProof.Rows L2
inductive Run (b : Book) : St → List Deed → Prop
  | nil : Run b ⟨[], [], []⟩ []
  | step {s : St} {L : List Deed} {d : Deed} : Run b s L → d.ok → d.ref b s = none → Run b (d.does s) (L ++ [d])
section
variable {b : Book} {ts : List Th} {s : St} {L : List Deed}
theorem inNm_mem {b : Book} {l : Option Str} (h : inNm b l = true) : ∀ z, l = some z → z ∈ b.names := fun z e => by
  subst e
  exact of_decide_eq_true h
theorem wRef_ok {w : Int} {l : Option Str} (h : wRef b w l = none) : (1 ≤ w ∧ w ≤ 9999) ∧ ∀ z, l = some z → z ∈ b.names := by
  unfold wRef at h
  by_cases c : 1 ≤ w ∧ w ≤ 9999
  · rw [if_neg (fun z => z c)] at h
    by_cases c2 : inNm b l = true
    · exact ⟨c, inNm_mem c2⟩
    · rw [if_neg c2] at h; cases h
  · rw [if_pos c] at h; cases h
theorem WFY.fnd (w : WFY b s) {n v : Int} {o : Option Str} (h0 : 0 ≤ n) (hn : isMade s.things n = false) (hl : n < (s.things.length : Int)) (hv : 1 ≤ v ∧ v ≤ 9999) (ho : ∀ z, o = some z → z ∈ b.names) : WFY b (s.fnd n v o) := by
  have len : (s.things.set n.toNat (.raw v o)).length = s.things.length := List.length_set
  have get : ∀ (i : Nat) u, (s.things.set n.toNat (.raw v o))[i]? = some u → (i = n.toNat ∧ u = .raw v o) ∨ (i ≠ n.toNat ∧ s.things[i]? = some u) := fun i u e => by
    by_cases hi : i = n.toNat
    · subst hi
      rw [List.getElem?_set_self (by omega)] at e
      exact .inl ⟨rfl, (Option.some.inj e).symm⟩
    · rw [List.getElem?_set_ne (Ne.symm hi)] at e
      exact .inr ⟨hi, e⟩
  refine ⟨⟨by show (s.things.set _ _).length ≤ 200; rw [len]; exact w.t.n, fun i v' o' e => ?_, fun i z xs e => ?_⟩, w.ln, fun x hx => ?_, w.ll, w.gl, fun p hp => ?_⟩
  · rcases get i _ e with ⟨_, e⟩ | ⟨_, e⟩
    · cases e; exact ⟨hv.1, hv.2, ho⟩
    · exact w.t.raw i v' o' e
  · rcases get i _ e with ⟨_, e⟩ | ⟨_, e⟩
    · cases e
    · exact w.t.made i z xs e
  · show 0 ≤ x ∧ x < ((s.things.set _ _).length : Int)
    rw [len]; exact w.lr x hx
  · show 0 ≤ p.1 ∧ p.1 < ((s.things.set _ _).length : Int)
    rw [len]; exact w.gr p hp
theorem does_wf (w : WFY b s) {d : Deed} (hd : d.ref b s = none) (l : s.things.length < 200) (g : s.gone.length < 200) : WFY b (d.does s) := by
  cases d with
  | take v o =>
    obtain ⟨h1, h2⟩ := wRef_ok (Option.map_eq_none_iff.mp hd)
    exact w.take h1 h2 l
  | make z xs =>
    have h : mRef b s z xs = none := Option.map_eq_none_iff.mp hd
    unfold mRef at h
    by_cases c : z ∈ b.names
    · rw [if_neg (fun n => n c)] at h
      by_cases c2 : xs = [] ∨ (∃ x ∈ xs, x ∉ s.lying) ∨ ¬xs.Nodup
      · rw [if_pos c2] at h; cases h
      · exact w.mk' c (fun e => c2 (.inl e)) (fun x hx => Classical.byContradiction fun n => c2 (.inr (.inl ⟨x, hx, n⟩))) (Classical.byContradiction fun n => c2 (.inr (.inr n))) l
    · rw [if_pos c] at h; cases h
  | send n z =>
    have h : sRef b s n z = none := hd
    unfold sRef at h
    by_cases c : n ∈ s.lying
    · exact w.snd z c g
    · rw [if_pos c] at h; cases h
  | find n v o =>
    have h : fRef b s n v o = none := Option.map_eq_none_iff.mp hd
    unfold fRef at h
    by_cases c : ¬(0 ≤ n ∧ n < (s.things.length : Int)) ∨ isMade s.things n = true
    · rw [if_pos c] at h; cases h
    · rw [if_neg c] at h
      obtain ⟨h1, h2⟩ := wRef_ok h
      have c1 : 0 ≤ n ∧ n < (s.things.length : Int) := Classical.byContradiction fun x => c (.inl x)
      exact w.fnd c1.1 (by
        cases hm : isMade s.things n with
        | false => rfl
        | true => exact absurd (.inr hm) c) c1.2 h1 h2
theorem Run.len (r : Run b s L) : s.things.length ≤ L.length ∧ s.gone.length ≤ L.length := by
  induction r with
  | nil => exact ⟨Nat.le_refl _, Nat.le_refl _⟩
  | @step s L d _ _ _ ih =>
    rw [List.length_append]
    cases d with
    | take v o => exact ⟨by show (s.things ++ _).length ≤ _; simp; omega, by show s.gone.length ≤ _; simp; omega⟩
    | make z xs => exact ⟨by show (s.things ++ _).length ≤ _; simp; omega, by show s.gone.length ≤ _; simp; omega⟩
    | send n z => exact ⟨by show s.things.length ≤ _; simp; omega, by show (s.gone ++ _).length ≤ _; simp; omega⟩
    | find n v o => exact ⟨by show (s.things.set _ _).length ≤ _; simp; omega, by show s.gone.length ≤ _; simp; omega⟩
theorem Run.wf (r : Run b s L) (l : L.length < 200) : WFY b s := by
  induction r with
  | nil => exact ⟨⟨by simp, fun i _ _ e => (nomatch e), fun i _ _ e => (nomatch e)⟩, List.nodup_nil, fun _ h => absurd h (by simp), by simp, by simp, fun _ h => absurd h (by simp)⟩
  | @step s L d r _ hd ih =>
    rw [List.length_append] at l
    have := r.len
    exact does_wf (ih (by omega)) hd (by omega) (by omega)
theorem Run.count (r : Run b s L) : ((L.map Deed.enc).filter isNew).length = s.things.length := by
  induction r with
  | nil => rfl
  | @step s L d _ _ _ ih =>
    rw [List.map_append, List.filter_append, List.length_append, ih]
    cases d with
    | take v o =>
      show s.things.length + _ = (s.things ++ _).length
      rw [List.length_append]; congr 1
    | make z xs =>
      show s.things.length + _ = (s.things ++ _).length
      rw [List.length_append]; congr 1
    | send n z => show s.things.length + _ = s.things.length; rfl
    | find n v o =>
      show s.things.length + _ = (s.things.set _ _).length
      rw [List.length_set]; rfl
end
end DL
namespace DL
open PySem PySem.Spec PyProof.Rows L2
structure DwS (ns : List Int) (t r p : Addr) (kvs : List (Key × Val)) (h0 h : Hv) : Prop where
  T : Town t r h
  o : Only t r h0 h
  hp : h p = some (.dK kvs)
section
variable {ns : List Int} {t r p : Addr} {kvs : List (Key × Val)} {h0 h : Hv} {ρ : Sl} {E : PX}
theorem DwS.next (s : DwS ns t r p kvs h0 h) (pt : p ≠ t) (pr : p ≠ r) {h' : Hv} (T : Town t r h') (o : Only t r h h') : DwS ns t r p kvs h0 h' := ⟨T, s.o.trans o, by rw [o p pt pr]; exact s.hp⟩
theorem DwS.ne (s : DwS ns t r p kvs h0 h) {D : Addr} (nD : h D = none) : D ≠ t ∧ D ≠ r ∧ D ≠ p := by
  obtain ⟨_, _, e1⟩ := s.T.tc
  obtain ⟨_, e2, _⟩ := s.T.rc
  exact ⟨fun z => (by rw [z, e1] at nD; cases nD), fun z => (by rw [z, e2] at nD; cases nD), fun z => (by rw [z, s.hp] at nD; cases nD)⟩
theorem DwS.bz (s : DwS ns t r p kvs h0 h) {D : Addr} (nD : h D = none) : DwS ns t r p kvs (DL.put h0 D .busy) (DL.put h D .busy) := by
  obtain ⟨n1, n2, n3⟩ := s.ne nD
  obtain ⟨c, c0, e1⟩ := s.T.tc
  obtain ⟨rs, e2, k⟩ := s.T.rc
  refine ⟨⟨s.T.ne, ⟨c, c0, by rw [put_ne n1.symm]; exact e1⟩, rs, by rw [put_ne n2.symm]; exact e2, k⟩, fun a h1 h2 => ?_, by rw [put_ne n3.symm]; exact s.hp⟩
  by_cases e : a = D
  · rw [e, put_same, put_same]
  · rw [put_ne e, put_ne e]; exact s.o a h1 h2
theorem DwS.dr {D : Addr} (nD : h0 D = none) (n1 : D ≠ t) (n2 : D ≠ r) (n3 : D ≠ p) (s : DwS ns t r p kvs (DL.put h0 D .busy) h) : DwS ns t r p kvs h0 (DL.drop h D) := by
  obtain ⟨c, c0, e1⟩ := s.T.tc
  obtain ⟨rs, e2, k⟩ := s.T.rc
  refine ⟨⟨s.T.ne, ⟨c, c0, by rw [drop_ne n1.symm]; exact e1⟩, rs, by rw [drop_ne n2.symm]; exact e2, k⟩, fun a h1 h2 => ?_, by rw [drop_ne n3.symm]; exact s.hp⟩
  by_cases e : a = D
  · rw [e, drop_same, nD]
  · rw [drop_ne e, s.o a h1 h2, put_ne e]
end
end DL
namespace DL
open PySem PySem.Spec PyProof.Rows L2
def KeepSt (G : Gx) (h h' : Hv) : Prop := ∀ c s, StAt G h c s → StAt G h' c s
inductive Hs (G : Gx) (b : Book) (h : Hv) : List (Val × Addr) → List Deed → St → Prop
  | nil : Hs G b h [] [] ⟨[], [], []⟩
  | snoc {ds : List (Val × Addr)} {L : List Deed} {s : St} {d : Deed} {c : Addr} : Hs G b h ds L s → StAt G h c s → d.ok → d.ref b s = none → Hs G b h (ds ++ [(d.enc, c)]) (L ++ [d]) (d.does s)
theorem Hs.keep {G : Gx} {b : Book} {h h' : Hv} {ds : List (Val × Addr)} {L : List Deed} {s : St} (x : Hs G b h ds L s) (k : KeepSt G h h') : Hs G b h' ds L s := by
  induction x with
  | nil => exact .nil
  | snoc _ t ok hr ih => exact .snoc ih (k _ _ t) ok hr
theorem Hs.run {G : Gx} {b : Book} {h : Hv} {ds : List (Val × Addr)} {L : List Deed} {s : St} (x : Hs G b h ds L s) : Run b s L ∧ ds.map (·.1) = L.map Deed.enc ∧ ds.length = L.length := by
  induction x with
  | nil => exact ⟨.nil, rfl, rfl⟩
  | snoc _ t ok hr ih => exact ⟨ih.1.step ok hr, by rw [List.map_append, List.map_append, ih.2.1]; rfl, by rw [List.length_append, List.length_append, ih.2.2]; rfl⟩
end DL
namespace DL
open PySem PySem.Spec PyProof.Rows L2
end DL
namespace DL
open PySem PySem.Spec PyProof.Rows L2
section
variable {G : Gx} {Ts : List (Addr × Str)} {t r : Addr} {h h' : Hv} {a : Addr} {b : Book} {s : St} {A : Ay} {ds us : List (Val × Addr)} {ρ : Sl} {E : PX} {d : ED}
end
end DL
namespace DL
open PySem PySem.Spec PyProof.Rows L2
section
variable {b : Book} {ts : List Th} {s : St} {L : List Deed} {n v w : Int} {o l : Option Str}
theorem trY_set (r : ts[n.toNat]? = some (.raw v o)) : ∀ (k : Nat) (i : Int), trY (ts.set n.toNat (.raw w l)) k i = trY ts k i
  | 0, i => rfl
  | k + 1, i => by
    have ih : trY (ts.set n.toNat (.raw w l)) k = trY ts k := funext (trY_set r k)
    unfold trY
    rw [ih]
    by_cases c : i.toNat = n.toNat
    · rw [c, List.getElem?_set_self (List.getElem?_eq_some_iff.mp r).1, r]
    · rw [List.getElem?_set_ne (Ne.symm c)]
theorem treeY_set (r : ts[n.toNat]? = some (.raw v o)) (i : Int) : treeY (ts.set n.toNat (.raw w l)) i = treeY ts i := trY_set r _ i
theorem things_le (wf : WFT b ts) : ∀ (k : Nat) (i : Int), 0 ≤ i → i.toNat < k → i < (ts.length : Int) → ∀ y ∈ (treeY ts i).things, 0 ≤ y ∧ y ≤ i
  | 0, i, _, h, _ => absurd h (Nat.not_lt_zero _)
  | k + 1, i, i0, hk, il => by
    obtain ⟨th, e⟩ := th_get i0 il
    intro y hy
    cases th with
    | raw v' l' =>
      rw [treeY_raw e, Tree.things, List.mem_singleton] at hy
      omega
    | made z xs =>
      obtain ⟨-, -, -, hx⟩ := wf.made _ z xs e
      rw [treeY_made wf e, things_node, List.mem_flatMap] at hy
      obtain ⟨t, ht, hn⟩ := hy
      obtain ⟨x, hxm, rfl⟩ := List.mem_map.mp ht
      obtain ⟨x0, x1⟩ := hx x hxm
      have := things_le wf k x x0 (by omega) (by omega) y hn
      omega
theorem things_rng (wf : WFT b ts) {i : Int} (i0 : 0 ≤ i) (il : i < (ts.length : Int)) : ∀ y ∈ (treeY ts i).things, 0 ≤ y ∧ y < (ts.length : Int) := fun y hy => by
  have := things_le wf (i.toNat + 1) i i0 (by omega) il y hy
  omega
theorem nd1Y (x : Int) : [x].Nodup := List.nodup_cons.mpr ⟨by simp, List.nodup_nil⟩
def thY (ts : List Th) (x : Int) : List Int := (treeY ts x).things
def rootsY (s : St) : List Int := s.lying ++ s.gone.map (·.1)
structure Woods (s : St) : Prop where
  f : ((rootsY s).flatMap (thY s.things)).Nodup
  t : ∀ i : Int, 0 ≤ i → i < (s.things.length : Int) → (thY s.things i).Nodup
  lp : s.lying.Pairwise (· < ·)
  gn : (s.gone.map (·.1)).Nodup
  dj : ∀ x ∈ s.lying, x ∉ s.gone.map (·.1)
  al : ∀ i : Int, 0 ≤ i → i < (s.things.length : Int) → i ∈ s.lying ∨ i ∈ s.gone.map (·.1) ∨ ∃ (j : Nat) (z : Str) (xs : List Int), s.things[j]? = some (.made z xs) ∧ i ∈ xs
  nk : ∀ (j : Nat) (z : Str) (xs : List Int), s.things[j]? = some (.made z xs) → ∀ x ∈ xs, x ∉ s.lying
theorem flatMap_eq {α β : Type} {f g : α → List β} {l : List α} (h : ∀ x ∈ l, f x = g x) : l.flatMap f = l.flatMap g := by
  induction l with
  | nil => rfl
  | cons x l ih => rw [List.flatMap_cons, List.flatMap_cons, h x List.mem_cons_self, ih fun y hy => h y (List.mem_cons_of_mem _ hy)]
theorem roots_rng (w : WFY b s) : ∀ x ∈ rootsY s, 0 ≤ x ∧ x < (s.things.length : Int) := fun x hx => by
  rcases List.mem_append.mp hx with hx | hx
  · exact w.lr x hx
  · obtain ⟨p, hp, rfl⟩ := List.mem_map.mp hx
    exact w.gr p hp
theorem perm_take {xs ys : List Int} (h1 : xs.Nodup) (h2 : ys.Nodup) (h : ∀ y ∈ ys, y ∈ xs) : ((xs.filter fun x => decide (x ∉ ys)) ++ ys).Perm xs := by
  refine (List.perm_ext_iff_of_nodup (List.nodup_append.mpr ⟨h1.filter _, h2, fun a ha b hb e => ?_⟩) h1).mpr fun a => ?_
  · subst e
    exact absurd hb (of_decide_eq_true (List.mem_filter.mp ha).2)
  · rw [List.mem_append, List.mem_filter]
    constructor
    · rintro (c | c)
      · exact c.1
      · exact h a c
    · intro c
      by_cases d : a ∈ ys
      · exact .inr d
      · exact .inl ⟨c, decide_eq_true d⟩
theorem ends_lt {xs : List Int} {N : Int} (h : xs.Pairwise (· < ·)) (h2 : ∀ x ∈ xs, x < N) : (xs ++ [N]).Pairwise (· < ·) := by
  rw [List.pairwise_append]
  exact ⟨h, List.pairwise_singleton _ _, fun a ha c hc => by rw [List.mem_singleton.mp hc]; exact h2 a ha⟩
theorem Woods.take (W : Woods s) (wy : WFY b s) (v : Int) (o : Option Str) : Woods (s.take v o) := by
  have eo : ∀ x : Int, 0 ≤ x → x < (s.things.length : Int) → thY (s.things ++ [Th.raw v o]) x = thY s.things x := fun x x0 x1 => by unfold thY; rw [treeY_app wy.t x0 x1]
  have eN : thY (s.things ++ [Th.raw v o]) (s.things.length : Int) = [(s.things.length : Int)] := by
    unfold thY
    rw [treeY_raw (v := v) (l := o) (by simp), Tree.things]
  have getm : ∀ {j : Nat} {z xs}, (s.things ++ [Th.raw v o])[j]? = some (.made z xs) → s.things[j]? = some (.made z xs) := fun {j z xs} e => by
    by_cases c : j < s.things.length
    · rw [List.getElem?_append_left c] at e; exact e
    · rw [List.getElem?_append_right (by omega)] at e
      by_cases d : j - s.things.length = 0
      · rw [d] at e; cases e
      · rw [List.getElem?_eq_none (by simp; omega)] at e; cases e
  refine ⟨?_, fun i i0 i1 => ?_, ends_lt W.lp fun x hx => (wy.lr x hx).2, W.gn, fun x hx => ?_, fun i i0 i1 => ?_, fun j z xs e x hx => ?_⟩
  · have p : (rootsY (s.take v o)).Perm (rootsY s ++ [(s.things.length : Int)]) := by
      show ((s.lying ++ [(s.things.length : Int)]) ++ s.gone.map (·.1)).Perm ((s.lying ++ s.gone.map (·.1)) ++ [(s.things.length : Int)])
      rw [List.append_assoc, List.append_assoc]
      exact List.perm_append_comm.append_left _
    refine (p.flatMap_right (thY (s.take v o).things)).nodup_iff.mpr ?_
    rw [List.flatMap_append, List.flatMap_singleton]
    show (List.flatMap (thY (s.things ++ [Th.raw v o])) (rootsY s) ++ thY (s.things ++ [Th.raw v o]) (s.things.length : Int)).Nodup
    rw [flatMap_eq fun x hx => eo x (roots_rng wy x hx).1 (roots_rng wy x hx).2, eN]
    refine List.nodup_append.mpr ⟨W.f, nd1Y _, fun a ha c hc e => ?_⟩
    rw [List.mem_singleton.mp hc] at e
    obtain ⟨x, hx, hax⟩ := List.mem_flatMap.mp ha
    have := things_rng wy.t (roots_rng wy x hx).1 (roots_rng wy x hx).2 a hax
    omega
  · have i1 : i < ((s.things ++ [Th.raw v o]).length : Int) := i1
    rw [List.length_append, List.length_singleton] at i1
    show (thY (s.things ++ [Th.raw v o]) i).Nodup
    by_cases c : i < (s.things.length : Int)
    · rw [eo i i0 c]; exact W.t i i0 c
    · have : i = (s.things.length : Int) := by omega
      rw [this, eN]; exact nd1Y _
  · rcases List.mem_append.mp hx with hx | hx
    · exact W.dj x hx
    · rw [List.mem_singleton.mp hx]
      intro h
      obtain ⟨p, hp, e⟩ := List.mem_map.mp h
      have := (wy.gr p hp).2
      omega
  · have i1 : i < ((s.things ++ [Th.raw v o]).length : Int) := i1
    rw [List.length_append, List.length_singleton] at i1
    by_cases c : i < (s.things.length : Int)
    · rcases W.al i i0 c with h | h | ⟨j, z, xs, e, h⟩
      · exact .inl (List.mem_append_left _ h)
      · exact .inr (.inl h)
      · refine .inr (.inr ⟨j, z, xs, ?_, h⟩)
        show (s.things ++ _)[j]? = _
        rw [List.getElem?_append_left (List.getElem?_eq_some_iff.mp e).1]; exact e
    · exact .inl (List.mem_append_right _ (by rw [List.mem_singleton]; omega))
  · have e := getm e
    have x1 := ((wy.t.made j z xs e).2.2.2 x hx).2
    have hj := (List.getElem?_eq_some_iff.mp e).1
    intro h
    rcases List.mem_append.mp h with h | h
    · exact W.nk j z xs e x hx h
    · rw [List.mem_singleton] at h; omega
theorem Woods.mk' (W : Woods s) (wy : WFY b s) {z : Str} {xs : List Int} (wy' : WFY b (s.mk' z xs)) (h : ∀ x ∈ xs, x ∈ s.lying) (nd : xs.Nodup) : Woods (s.mk' z xs) := by
  have eo : ∀ x : Int, 0 ≤ x → x < (s.things.length : Int) → thY (s.things ++ [Th.made z xs]) x = thY s.things x := fun x x0 x1 => by unfold thY; rw [treeY_app wy.t x0 x1]
  have eN : thY (s.things ++ [Th.made z xs]) (s.things.length : Int) = xs.flatMap (thY s.things) := by
    have wt : WFT b (s.things ++ [Th.made z xs]) := wy'.t
    unfold thY
    rw [treeY_made wt (z := z) (xs := xs) (by simp), things_node, List.flatMap_map]
    exact flatMap_eq fun x hx => by
      show thY (s.things ++ [Th.made z xs]) x = _
      rw [eo x (wy.lr x (h x hx)).1 (wy.lr x (h x hx)).2]; rfl
  have getm : ∀ {j : Nat} {z' xs'}, (s.things ++ [Th.made z xs])[j]? = some (.made z' xs') → s.things[j]? = some (.made z' xs') ∨ (j = s.things.length ∧ xs' = xs) := fun {j z' xs'} e => by
    by_cases c : j < s.things.length
    · rw [List.getElem?_append_left c] at e; exact .inl e
    · rw [List.getElem?_append_right (by omega)] at e
      by_cases d : j - s.things.length = 0
      · rw [d] at e; cases e; exact .inr ⟨by omega, rfl⟩
      · rw [List.getElem?_eq_none (by simp; omega)] at e; cases e
  have px : (((s.lying.filter fun x => decide (x ∉ xs)) ++ s.gone.map (·.1)) ++ xs).Perm (rootsY s) := by
    have := (perm_take wy.ln nd h).append_right (s.gone.map (·.1))
    refine List.Perm.trans ?_ this
    rw [List.append_assoc, List.append_assoc]
    exact List.perm_append_comm.append_left _
  have ex : (((s.lying.filter fun x => decide (x ∉ xs)) ++ s.gone.map (·.1)) ++ xs).flatMap (thY s.things) |>.Nodup := (px.flatMap_right (thY s.things)).nodup_iff.mpr W.f
  refine ⟨?_, fun i i0 i1 => ?_, ends_lt (W.lp.filter _) fun x hx => (wy.lr x (List.mem_filter.mp hx).1).2, W.gn, fun x hx => ?_, fun i i0 i1 => ?_, fun j z' xs' e x hx => ?_⟩
  · have p : (rootsY (s.mk' z xs)).Perm (((s.lying.filter fun x => decide (x ∉ xs)) ++ s.gone.map (·.1)) ++ [(s.things.length : Int)]) := by
      show (((s.lying.filter fun x => decide (x ∉ xs)) ++ [(s.things.length : Int)]) ++ s.gone.map (·.1)).Perm _
      rw [List.append_assoc, List.append_assoc]
      exact List.perm_append_comm.append_left _
    refine (p.flatMap_right (thY (s.mk' z xs).things)).nodup_iff.mpr ?_
    rw [List.flatMap_append, List.flatMap_singleton]
    show (List.flatMap (thY (s.things ++ [Th.made z xs])) _ ++ thY (s.things ++ [Th.made z xs]) (s.things.length : Int)).Nodup
    have hr : ∀ x ∈ ((s.lying.filter fun x => decide (x ∉ xs)) ++ s.gone.map (·.1)), 0 ≤ x ∧ x < (s.things.length : Int) := fun x hx => by
      rcases List.mem_append.mp hx with hx | hx
      · exact wy.lr x (List.mem_filter.mp hx).1
      · exact roots_rng wy x (List.mem_append_right _ hx)
    rw [flatMap_eq fun x hx => eo x (hr x hx).1 (hr x hx).2, eN, ← List.flatMap_append]
    exact ex
  · have i1 : i < ((s.things ++ [Th.made z xs]).length : Int) := i1
    rw [List.length_append, List.length_singleton] at i1
    show (thY (s.things ++ [Th.made z xs]) i).Nodup
    by_cases c : i < (s.things.length : Int)
    · rw [eo i i0 c]; exact W.t i i0 c
    · have : i = (s.things.length : Int) := by omega
      rw [this, eN]
      rw [List.flatMap_append] at ex
      exact (List.nodup_append.mp ex).2.1
  · rcases List.mem_append.mp hx with hx | hx
    · exact W.dj x (List.mem_filter.mp hx).1
    · rw [List.mem_singleton.mp hx]
      intro h
      obtain ⟨p, hp, e⟩ := List.mem_map.mp h
      have := (wy.gr p hp).2
      omega
  · have i1 : i < ((s.things ++ [Th.made z xs]).length : Int) := i1
    rw [List.length_append, List.length_singleton] at i1
    by_cases c : i < (s.things.length : Int)
    · rcases W.al i i0 c with h | h | ⟨j, z', xs', e, h⟩
      · by_cases d : i ∈ xs
        · refine .inr (.inr ⟨s.things.length, z, xs, ?_, d⟩)
          show (s.things ++ _)[_]? = _
          simp
        · exact .inl (List.mem_append_left _ (List.mem_filter.mpr ⟨h, decide_eq_true d⟩))
      · exact .inr (.inl h)
      · refine .inr (.inr ⟨j, z', xs', ?_, h⟩)
        show (s.things ++ _)[j]? = _
        rw [List.getElem?_append_left (List.getElem?_eq_some_iff.mp e).1]; exact e
    · exact .inl (List.mem_append_right _ (by rw [List.mem_singleton]; omega))
  · intro hh
    rcases List.mem_append.mp hh with hh | hh
    · obtain ⟨h1, h2⟩ := List.mem_filter.mp hh
      rcases getm e with e | ⟨e, rfl⟩
      · exact W.nk j z' xs' e x hx h1
      · exact absurd hx (of_decide_eq_true h2)
    · rw [List.mem_singleton] at hh
      rcases getm e with e | ⟨e, rfl⟩
      · have x1 := ((wy.t.made j z' xs' e).2.2.2 x hx).2
        have hj := (List.getElem?_eq_some_iff.mp e).1
        omega
      · have := (wy.lr x (h x hx)).2
        omega
theorem Woods.snd (W : Woods s) (wy : WFY b s) {n : Int} {z : Str} (h : n ∈ s.lying) : Woods (s.snd n z) := by
  have pl : ((s.lying.filter fun x => decide (x ≠ n)) ++ [n]).Perm s.lying := by
    have := perm_take (ys := [n]) wy.ln (nd1Y n) (fun y hy => by rw [List.mem_singleton.mp hy]; exact h)
    have e : (s.lying.filter fun x => decide (x ∉ [n])) = s.lying.filter fun x => decide (x ≠ n) := List.filter_congr fun x _ => by
      rw [decide_eq_decide, List.mem_singleton]
    rwa [e] at this
  refine ⟨?_, W.t, W.lp.filter _, ?_, fun x hx => ?_, fun i i0 i1 => ?_, fun j z' xs' e x hx hh => W.nk j z' xs' e x hx (List.mem_filter.mp hh).1⟩
  · have p : (rootsY (s.snd n z)).Perm (rootsY s) := by
      show ((s.lying.filter fun x => decide (x ≠ n)) ++ (s.gone ++ [(n, z)]).map (·.1)).Perm (s.lying ++ s.gone.map (·.1))
      rw [List.map_append]
      refine List.Perm.trans ?_ (pl.append_right _)
      rw [List.append_assoc]
      exact List.perm_append_comm.append_left _
    exact (p.flatMap_right _).nodup_iff.mpr W.f
  · show ((s.gone ++ [(n, z)]).map (·.1)).Nodup
    rw [List.map_append]
    refine List.nodup_append.mpr ⟨W.gn, nd1Y _, fun a ha c hc e => ?_⟩
    rw [List.mem_singleton.mp hc] at e
    have e : a = n := e
    subst e
    exact W.dj a h ha
  · obtain ⟨h1, h2⟩ := List.mem_filter.mp hx
    show x ∉ (s.gone ++ [(n, z)]).map (·.1)
    rw [List.map_append]
    intro hh
    rcases List.mem_append.mp hh with hh | hh
    · exact W.dj x h1 hh
    · exact absurd (List.mem_singleton.mp hh) (of_decide_eq_true h2)
  · have e : ((s.gone ++ [(n, z)]).map (·.1)) = s.gone.map (·.1) ++ [n] := by rw [List.map_append]; rfl
    show _ ∨ i ∈ (s.gone ++ [(n, z)]).map (·.1) ∨ _
    rw [e]
    rcases W.al i i0 i1 with h | h | h
    · by_cases c : i = n
      · exact .inr (.inl (List.mem_append_right _ (List.mem_singleton.mpr c)))
      · exact .inl (List.mem_filter.mpr ⟨h, decide_eq_true c⟩)
    · exact .inr (.inl (List.mem_append_left _ h))
    · exact .inr (.inr h)
theorem made_set (r : ts[n.toNat]? = some (.raw v o)) {j : Nat} {z : Str} {xs : List Int} : (ts.set n.toNat (.raw w l))[j]? = some (.made z xs) ↔ ts[j]? = some (.made z xs) := by
  by_cases c : j = n.toNat
  · subst c
    rw [List.getElem?_set_self (List.getElem?_eq_some_iff.mp r).1, r]
    exact ⟨fun e => (by cases e), fun e => (by cases e)⟩
  · rw [List.getElem?_set_ne (Ne.symm c)]
theorem Woods.fnd (W : Woods s) (r : s.things[n.toNat]? = some (.raw v o)) : Woods (s.fnd n w l) := by
  have eo : thY (s.things.set n.toNat (.raw w l)) = thY s.things := funext fun i => by unfold thY; rw [treeY_set r]
  have ln : ((s.fnd n w l).things.length : Int) = (s.things.length : Int) := by
    show ((s.things.set _ _).length : Int) = _
    rw [List.length_set]
  refine ⟨?_, fun i i0 i1 => ?_, W.lp, W.gn, W.dj, fun i i0 i1 => ?_, fun j z xs e => W.nk j z xs ((made_set r).mp e)⟩
  · show ((rootsY s).flatMap (thY (s.things.set n.toNat (.raw w l)))).Nodup
    rw [eo]; exact W.f
  · show (thY (s.things.set n.toNat (.raw w l)) i).Nodup
    rw [eo]; exact W.t i i0 (by rw [← ln]; exact i1)
  · rcases W.al i i0 (by rw [← ln]; exact i1) with h | h | ⟨j, z, xs, e, h⟩
    · exact .inl h
    · exact .inr (.inl h)
    · exact .inr (.inr ⟨j, z, xs, (made_set r).mpr e, h⟩)
end
end DL
namespace DL
open PySem PySem.Spec PyProof.Rows L2
section
variable {b : Book} {ts : List Th} {s : St} {L : List Deed}
theorem Run.gone (r : Run b s L) : ∀ p ∈ s.gone, p.2 ∈ b.names := by
  induction r with
  | nil => exact fun _ h => absurd h (by simp)
  | @step s L d r ok hd ih =>
    cases d with
    | take v o => exact ih
    | make z xs => exact ih
    | send n z =>
      have h : sRef b s n z = none := hd
      unfold sRef at h
      by_cases c : n ∈ s.lying
      · rw [if_neg (fun x => x c)] at h
        by_cases c2 : z ∈ b.names
        · intro p hp
          rcases List.mem_append.mp hp with hp | hp
          · exact ih p hp
          · rw [List.mem_singleton.mp hp]; exact c2
        · rw [if_pos c2] at h; cases h
      · rw [if_pos c] at h; cases h
    | find n w l => exact ih
end
end DL
namespace DL
open PySem PySem.Spec PyProof.Rows L2
structure LSW (Ts : List (Addr × Str)) (t r : Addr) (h : Hv) : Prop where
  T : Town t r h
  tb : Tbs Ts h
section
variable {G : Gx} {Ts : List (Addr × Str)} {t r : Addr} {h h' : Hv} {a : Addr} {b : Book} {s : St} {A : Ay} {ds us : List (Val × Addr)} {ρ : Sl} {E : PX} {d : ED}
theorem LSW.by (x : LSW Ts t r h) (k : ∀ c o, h c = some o → (∀ C fs, o ≠ .ins C fs) → (∀ vs, o ≠ .lst vs) → h' c = some o) (b : ∀ c o, (∀ C fs, o ≠ .ins C fs) → (∀ vs, o ≠ .lst vs) → h' c = some o → h c = some o) : LSW Ts t r h' := by
  obtain ⟨c, c0, e1⟩ := x.T.tc
  obtain ⟨rs, e2, kk⟩ := x.T.rc
  exact ⟨⟨x.T.ne, ⟨c, c0, k _ _ e1 (fun _ _ z => nomatch z) (fun _ z => nomatch z)⟩, rs, k _ _ e2 (fun _ _ z => nomatch z) (fun _ z => nomatch z), kk⟩, fun p hp => k _ _ (x.tb.has p hp) (fun _ _ z => nomatch z) (fun _ z => nomatch z), fun p q hp => x.tb.all p q (b _ _ (fun _ _ z => nomatch z) (fun _ z => nomatch z) hp)⟩
theorem LSW.nw (x : LSW Ts t r h) (n : Nw h' h) : LSW Ts t r h' := x.by (fun c o e _ _ => by
  rcases n.o c with z | z
  · rw [z] at e; cases e
  · rw [z]; exact e) n.b
theorem LSW.only (x : LSW Ts t r h) (T : Town t r h') (o : Only t r h h') : LSW Ts t r h' := ⟨T, x.tb.town x.T T o⟩
theorem evi_rngW {n : Nat} {da : ED} (ha : EvE ρ h E da (.int (n : Int))) (hn : n ≤ 1000000) : EvI ρ h E (dRange1 (aCons da aNil)) ⟨(rngI n).map Val.int, fun _ => True⟩ := fun Q q => evi_range1 ha hn Q (by
  have : (rngI n).map Val.int = (List.range n).map fun (i : Nat) => Val.int (0 + (i : Nat)) := by
    unfold rngI
    rw [List.map_map]
    exact List.map_congr_left fun i _ => by show Val.int _ = Val.int _; rw [Int.zero_add]
  rw [← this]; exact q)
theorem mem_rngW {n : Nat} {i : Int} : i ∈ rngI n ↔ 0 ≤ i ∧ i < (n : Int) := by
  unfold rngI
  rw [List.mem_map]
  constructor
  · rintro ⟨k, hk, rfl⟩
    have := List.mem_range.mp hk
    omega
  · rintro ⟨h0, h1⟩
    exact ⟨i.toNat, List.mem_range.mpr (by omega), by omega⟩
theorem len_rngW (n : Nat) : (rngI n).length = n := by unfold rngI; simp
theorem x_evW {v : Val} {Q : PV} (a : EvE ρ h E d v) (q : Q v h) : d ρ h Q E := a _ q
theorem x_binW {f : F2} {da db : ED} {Q : PV} (q : da ρ h (fun v h1 => db ρ h1 (fun w h2 => f v w h2 Q) E) E) : dBin f da db ρ h Q E := q
theorem x_par2W {i j : Nat} {d1 d2 : ED} {s2 : SD} {D : AE} (q : d1 ρ h (fun v h1 => d2 ρ h1 (fun w h2 => s2 ((ρ.set i (some v)).set j (some w)) h2 D E) E) E) : sSeq (sPar [i, j] (aCons d1 (aCons d2 aNil))) s2 ρ h D E := q
theorem f_neIW {i j : Int} : EvF h fNe (.int i) (.int j) (.bl (!decide (i = j))) := fun Q q => q
theorem f_eqIW {i j : Int} : EvF h fEq (.int i) (.int j) (.bl (decide (i = j))) := fun Q q => q
end
section
variable {G : Gx} {h h' : Hv} {a : Addr} {b : Book} {s : St} {A : Ay} {ds us : List (Val × Addr)} {ρ : Sl} {E : PX} {i : Int}
end
end DL
namespace DL
open PySem PySem.Spec PyProof.Rows L2
theorem for_lstG {α : Type} {xs : List α} {f : α → Val} {t : Tg} {d : SD} {D : AE} {E : PX} (I : Nat → Sl → Hv → Prop) (h0 : ∀ ρ h, I xs.length ρ h → D.nx ρ h)
    (hs : ∀ j (hj : j < xs.length), ∀ ρ h, I j ρ h → ∃ ρ', bT t (f xs[j]) ρ = some ρ' ∧ ∀ N : Sl → Hv → Prop, (∀ ρ h, I (j + 1) ρ h → N ρ h) → d ρ' h { D with nx := N, ct := N, bk := D.nx } E) {ρ : Sl} {h : Hv} (i : I 0 ρ h) : forL (fun _ => True) t d (xs.map f) ρ h D E := by
  refine for_ind (fun vs ρ h => ∃ j, j ≤ xs.length ∧ vs = (xs.drop j).map f ∧ I j ρ h) ?_ ?_ _ _ _ ⟨0, Nat.zero_le _, rfl, i⟩
  · rintro ρ h ⟨j, jl, e, i⟩
    refine ⟨trivial, h0 _ _ ?_⟩
    have : j = xs.length := by
      by_cases c : j < xs.length
      · rw [List.drop_eq_getElem_cons c] at e; cases e
      · omega
    rw [← this]; exact i
  · rintro v vs ρ h ⟨j, jl, e, i⟩
    have c : j < xs.length := by
      by_cases c : j < xs.length
      · exact c
      · rw [List.drop_of_length_le (by omega)] at e; cases e
    rw [List.drop_eq_getElem_cons c] at e
    cases e
    obtain ⟨ρ', e, k⟩ := hs j c ρ h i
    exact ⟨trivial, ρ', e, fun N hN => k N fun ρ h i => hN ρ h ⟨j + 1, c, rfl, i⟩⟩
theorem s_appG {ρ : Sl} {h : Hv} {E : PX} {D : AE} {dl dx : ED} {vs : List Val} {w : Val} {r : Addr} (ho : EvE ρ h E dl (.ref r)) (e : h r = some (.lst vs)) (hl : vs.length < sizeLine) (hx : EvE ρ h E dx w) (q : D.nx ρ (put h r (.lst (vs ++ [w])))) : sExpr (dBM "list" fAppend dl (aCons dx aNil)) ρ h D E := s_app ho e hl hx q
section
variable {ρ : Sl} {h : Hv} {E : PX}
theorem lcL2_F {α β : Type} {t t1 : Tg} {tt : TD} {di1 : ID} {te : ED} {vs1 : List Nat} {ρw : Sl} (f : α → Val) (pv : α → Bool) (ys : α → List β) (f1 : α → β → Val) (g : α → β → Val) {n : Nat} : ∀ (xs : List α) (acc : List Val) (Q : List Val → Hv → Prop), acc.length + xs.length * n ≤ sizeLine →
    (∀ x ∈ xs, (ys x).length ≤ n ∧ ∃ ρ', bT t (f x) ρw = some ρ' ∧ EvT ρ' h EF tt (pv x) ∧ (pv x = true → EvI ρ' h EF di1 ⟨(ys x).map (f1 x), fun _ => True⟩ ∧ ∀ y ∈ ys x, ∃ ρ2, bT t1 (f1 x y) (wipeA ρ' vs1) = some ρ2 ∧ EvE ρ2 h EF te (g x y))) →
    Q (acc ++ (xs.filter pv).flatMap fun x => (ys x).map (g x)) h → lcL2 (fun _ => True) t tt di1 t1 tTrue te vs1 ρw (xs.map f) acc h Q
  | [], acc, Q, hl, he, q => ⟨trivial, by simpa using q⟩
  | x :: xs, acc, Q, hl, he, q => by
    obtain ⟨hn, ρ', e, ht, hy⟩ := he x List.mem_cons_self
    rw [List.length_cons, Nat.succ_mul] at hl
    rw [List.map_cons, lcL2]
    refine ⟨trivial, ?_⟩
    rw [e]
    refine ht _ ?_
    cases hp : pv x with
    | false =>
      rw [if_neg Bool.false_ne_true]
      refine lcL2_F f pv ys f1 g (n := n) xs _ Q (by omega) (fun x' hx' => he x' (List.mem_cons_of_mem _ hx')) ?_
      rwa [List.filter_cons_of_neg (by rw [hp]; exact Bool.false_ne_true)] at q
    | true =>
      rw [if_pos rfl]
      obtain ⟨hi, hy⟩ := hy hp
      refine hi _ ?_
      refine lcL_filtT (f1 x) (fun _ => true) (g x) trivial (ys x) acc _ (by omega) (fun y hy' => ?_) ?_
      · obtain ⟨ρ2, e2, ev⟩ := hy y hy'
        exact ⟨ρ2, e2, fun Q' q' => q', fun _ Q' q' => ev Q' q'⟩
      · refine lcL2_F f pv ys f1 g (n := n) xs _ Q ?_ (fun x' hx' => he x' (List.mem_cons_of_mem _ hx')) ?_
        · rw [List.length_append, List.length_map, List.filter_eq_self.mpr (fun _ _ => rfl)]; omega
        · rw [List.filter_eq_self.mpr (fun _ _ => rfl), List.append_assoc]
          rw [List.filter_cons_of_pos hp, List.flatMap_cons] at q
          exact q
theorem ev_lc2F {α β : Type} {t t1 : Tg} {tt : TD} {di di1 : ID} {te : ED} {vs vs1 : List Nat} (xs : List α) (f : α → Val) (pv : α → Bool) (ys : α → List β) (f1 : α → β → Val) (g : α → β → Val) (n : Nat) (hl : xs.length * n ≤ sizeLine) (hdi : EvI ρ h E di ⟨xs.map f, fun _ => True⟩)
    (he : ∀ x ∈ xs, (ys x).length ≤ n ∧ ∃ ρ', bT t (f x) (wipeA ρ vs) = some ρ' ∧ (∀ h', Sub h h' → EvT ρ' h' EF tt (pv x)) ∧ (pv x = true → (∀ h', Sub h h' → EvI ρ' h' EF di1 ⟨(ys x).map (f1 x), fun _ => True⟩) ∧ ∀ y ∈ ys x, ∃ ρ2, bT t1 (f1 x y) (wipeA ρ' vs1) = some ρ2 ∧ ∀ h', Sub h h' → EvE ρ2 h' EF te (g x y))) :
    EvE ρ h E (dLc2 di t tt di1 t1 tTrue te vs vs1) (.lst ((xs.filter pv).flatMap fun x => (ys x).map (g x))) := fun Q q => by
  refine hdi _ fun D nD => ?_
  have sb : Sub h (put h D .busy) := Sub.put nD
  refine lcL2_F f pv ys f1 g (n := n) xs [] _ (by simpa using hl) (fun x hx => ?_) ?_
  · obtain ⟨a, ρ', e, c, d⟩ := he x hx
    exact ⟨a, ρ', e, c _ sb, fun k => let ⟨d1, d2⟩ := d k; ⟨d1 _ sb, fun y hy => let ⟨ρ2, e2, ev⟩ := d2 y hy; ⟨ρ2, e2, ev _ sb⟩⟩⟩
  · rw [drop_put nD, List.nil_append]
    exact q
end
section
variable {G : Gx} {h h' : Hv} {A : Ag} {b : Book} {hp : Heap'} {ms : MsL} {ws : WsL} {m : Nat} {ρ : Sl} {E : PX} {d1 d2 d3 : ED} {k : Nat}
theorem GFull.sub (g : GFull G h A b hp ms ws) (sb : Sub h h') : GFull G h' A b hp ms ws :=
  ⟨⟨sb _ _ g.t.ins, sb _ _ g.t.ma, sb _ _ g.t.wa, fun e he => (g.t.w e he).sub sb, g.t.nw, g.t.inj⟩, g.wf, g.ho, g.n5, g.ms⟩
theorem GFull.m32 (g : GFull G h A b hp ms ws) (hm : inH hp m) : m < 32 := Nat.lt_of_lt_of_le hm (Nat.pow_le_pow_right (by decide) g.n5 : 2 ^ hp.length ≤ 2 ^ 5)
theorem e_rowsG (g : GFull G h A b hp ms ws) (hm : inH hp m) (hk : 3 * (setI m).length + 2 < k) (e1 : EvE ρ h E d1 (.ref A.a)) (e2 : EvE ρ h E d2 (.int (m : Int))) : EvE ρ h E (dMeth (G.C "Groupings") "rows" 2 (SR_Groupings_rows G k) d1 (aCons d2 aNil)) (.lst (((famG b hp ms k).rw m).map encRw)) :=
  fun Q q => e_meth e1 g.t.ins rfl (eva1 e2) rfl ⟨A, b, hp, ms, ws, m, rfl, g, hm, hk, q⟩
theorem e_blockG (g : GFull G h A b hp ms ws) (m0 : m ≠ 0) (hm : inH hp m) (hk : 3 * (setI m).length + 1 < k) (e1 : EvE ρ h E d1 (.ref A.a)) (e2 : EvE ρ h E d2 (.int (m : Int))) : EvE ρ h E (dMeth (G.C "Groupings") "block_trees" 2 (SR_Groupings_block_trees G k) d1 (aCons d2 aNil)) (.lst (((famG b hp ms k).bl m).map Tree.enc)) :=
  fun Q q => e_meth e1 g.t.ins rfl (eva1 e2) rfl ⟨A, b, hp, ms, ws, m, rfl, g, m0, hm, hk, q⟩
theorem e_treesG {z : Str} (g : GFull G h A b hp ms ws) (m0 : m ≠ 0) (hm : inH hp m) (hz : z ∈ b.names) (hk : 3 * (setI m).length < k) (e1 : EvE ρ h E d1 (.ref A.a)) (e2 : EvE ρ h E d2 (.int (m : Int))) (e3 : EvE ρ h E d3 (.str z)) : EvE ρ h E (dMeth (G.C "Groupings") "trees" 3 (SR_Groupings_trees G k) d1 (aCons d2 (aCons d3 aNil))) (.lst (((famG b hp ms k).tr m z).map Tree.enc)) :=
  fun Q q => e_meth e1 g.t.ins rfl (eva2 e2 e3) rfl ⟨A, b, hp, ms, ws, m, z, rfl, g, m0, hm, hz, hk, q⟩
end
theorem bo_Groupings_block_trees (G : Gx) (N : List Str) (hN : N.length = 5) (d : Nat) : ∀ as h Q E, as.length = 2 → SR_Groupings_block_trees G (d + 1) as h Q E → den_Groupings_block_trees G (SR_Groupings_trees G d) (SR_Groupings_block_trees G d) (SR_Groupings_rows G d) (startA N as) h (endsR Q) (RX E) := by
  rintro as h Q E - ⟨A, b, hp, ms, ws, m, rfl, g, m0, hm, hk, q⟩
  unfold den_Groupings_block_trees
  simp only [startA, hN]
  have m3 := g.m32 hm
  have n4 := names_len g.wf
  refine ss_set (v := encS m) (ev_call (eva1 (ev_var (v := .int (m : Int)))) rfl fun Q q => ⟨m, rfl, q⟩) ?_
  have tlen : EvT [some (.ref A.a), some (.int (m : Int)), some (encS m), none, none] h (RX E) (dTest (dBin fEq (dCB fLen (aCons (dVar 2) aNil)) (dC (.int 1)))) (decide ((setI m).length = 1)) := (evt_test (ev_bin (ev_cb (eva1 (ev_var (v := encS m))) (c_len (n := (setI m).length) (by unfold encS; simp))) ev_c f_eqIW)).cast (by
    rw [Bool.eq_iff_iff, decide_eq_true_eq, decide_eq_true_eq]
    omega)
  by_cases c : (setI m).length = 1
  · obtain ⟨i, ei⟩ := List.length_eq_one_iff.mp c
    refine ss_yes (tlen.cast (decide_eq_true c)) ?_
    refine s_ret (v := .lst (((famG b hp ms (d + 1)).bl m).map Tree.enc)) (EvE.cast (ev_lst (vs := [.int i]) (eva1 (ev_bin (ev_var (v := encS m)) ev_c (f_ix0 (u := .int i) rfl (by rw [ei]; rfl)))) (by rw [sizeLine_eq]; simp)) ?_) (RT.same q)
    show Val.lst [.int i] = .lst ((if (setI m).length = 1 then (setI m).map Tree.leaf else _).map Tree.enc)
    rw [if_pos c, ei]
    rfl
  · refine ss_no (tlen.cast (decide_eq_false c)) ?_
    have len := (fam_len (b := b) (hp := hp) (ms := ms) n4 d).1
    refine s_ret (v := .lst (((famG b hp ms (d + 1)).bl m).map Tree.enc)) (EvE.cast (ev_lc2F b.names Val.str (fun y => decide (mAt ms m y ≠ 0)) (fun y => (famG b hp ms d).tr m y) (fun _ => Tree.enc) (fun _ => Tree.enc) 50000 (by rw [sizeLine_eq]; have : b.names.length * 50000 ≤ 4 * 50000 := Nat.mul_le_mul n4 (Nat.le_refl _); omega) (evi_it (g_fld g.t (ev_var (v := .ref A.a)) rfl) rfl) fun y hy => ⟨Nat.le_trans (len m y m3) (tab_le m m3).2.2, _, rfl, fun h' sb => ?_, fun _ => ⟨fun h' sb => evi_it (e_treesG (g.sub sb) m0 hm hy (by omega) (ev_var (v := .ref A.a)) (ev_var (v := .int (m : Int))) (ev_var (v := .str y))) rfl, fun t ht => ⟨_, rfl, fun h' sb => ev_var⟩⟩⟩) ?_) (RT.same q)
    · refine evt_truth (g_many (g.sub sb).t (g.ms m m0 hm y hy) (ev_var (v := .ref A.a)) (ev_var (v := .int (m : Int))) (ev_var (v := .str y))) ?_
      show some (mAt ms m y != 0) = _
      congr 1
      rw [Bool.eq_iff_iff]
      simp
    · show _ = Val.lst ((if (setI m).length = 1 then (setI m).map Tree.leaf else (b.names.filter fun y => decide (mAt ms m y ≠ 0)).flatMap fun y => (famG b hp ms d).tr m y).map Tree.enc)
      rw [if_neg c, List.map_flatMap]
end DL
namespace DL
open PySem PySem.Spec PyProof.Rows L2
theorem nd_sub {α : Type} [DecidableEq α] : ∀ (l L : List α), l.Nodup → (∀ x ∈ l, x ∈ L) → l.length ≤ L.length
  | [], L, _, _ => Nat.zero_le _
  | x :: l, L, nd, h => by
    rw [List.nodup_cons] at nd
    have hx := h x List.mem_cons_self
    have := nd_sub l (L.erase x) nd.2 fun y hy => (List.mem_erase_of_ne (fun z : y = x => nd.1 (by rw [← z]; exact hy))).mpr (h y (List.mem_cons_of_mem _ hy))
    rw [List.length_erase_of_mem hx] at this
    have := List.length_pos_of_mem hx
    rw [List.length_cons]
    omega
abbrev keysI (d : List (Int × Int)) : List Int := d.map (·.1)
def sumV (d : List (Int × Int)) : Int := (d.map (·.2)).sum
theorem put_keysI {d : List (Int × Int)} {k v : Int} (nd : (keysI d).Nodup) : (keysI (putI d k v)).Nodup ∧ ∀ x ∈ keysI (putI d k v), x ∈ keysI d ∨ x = k := by
  unfold putI
  split
  · have : keysI (d.map fun p => if p.1 = k then (p.1, v) else p) = keysI d := by
      unfold keysI
      rw [List.map_map]
      refine List.map_congr_left fun p _ => ?_
      simp only [Function.comp]
      split <;> rfl
    rw [this]
    exact ⟨nd, fun x hx => .inl hx⟩
  · rename_i hn
    unfold keysI
    rw [List.map_append]
    refine ⟨List.nodup_append.mpr ⟨nd, by simp, fun a ha b hb e => ?_⟩, fun x hx => ?_⟩
    · rw [List.map_singleton, List.mem_singleton] at hb
      obtain ⟨p, hp, rfl⟩ := List.mem_map.mp ha
      exact hn (List.any_eq_true.mpr ⟨p, hp, decide_eq_true (e.trans hb)⟩)
    · rcases List.mem_append.mp hx with h | h
      · exact .inl h
      · rw [List.map_singleton, List.mem_singleton] at h; exact .inr h
theorem sum_add {d : List (Int × Int)} {k v : Int} (nd : (keysI d).Nodup) : sumV (addI d k v) = sumV d + v := by
  unfold addI putI
  induction d with
  | nil => simp [sumV, getI]
  | cons p d ih =>
    unfold keysI at nd
    rw [List.map_cons, List.nodup_cons] at nd
    by_cases c : p.1 = k
    · have hd : ∀ q ∈ d, q.1 ≠ k := fun q hq z => nd.1 (by rw [c, ← z]; exact List.mem_map_of_mem hq)
      have e1 : (d.map fun p => if p.1 = k then (p.1, getI (p :: d) k + v) else p) = d := by
        conv => rhs; rw [← List.map_id d]
        refine List.map_congr_left fun q hq => ?_
        rw [if_neg (hd q hq)]; rfl
      have e2 : getI (p :: d) k = p.2 := by
        unfold getI
        rw [List.find?_cons, decide_eq_true c]; rfl
      rw [if_pos (by rw [List.any_cons, decide_eq_true c]; rfl), List.map_cons, if_pos c]
      have e3 : (d.map fun q => if q.1 = k then (q.1, getI (p :: d) k + v) else q) = d := by
        conv => rhs; rw [← List.map_id d]
        refine List.map_congr_left fun q hq => ?_
        rw [if_neg (hd q hq)]; rfl
      rw [e3, e2]
      unfold sumV
      rw [List.map_cons, List.map_cons, List.sum_cons, List.sum_cons]
      show p.2 + v + _ = p.2 + _ + v
      omega
    · have e2 : getI (p :: d) k = getI d k := by
        unfold getI
        rw [List.find?_cons, decide_eq_false c]
      have ih := ih nd.2
      rw [List.any_cons, decide_eq_false c, Bool.false_or, e2]
      split
      · rename_i ha
        rw [if_pos ha] at ih
        rw [List.map_cons, if_neg c]
        unfold sumV at ih ⊢
        rw [List.map_cons, List.map_cons, List.sum_cons, List.sum_cons, ih]
        omega
      · rename_i ha
        rw [if_neg ha] at ih
        rw [List.cons_append]
        unfold sumV at ih ⊢
        rw [List.map_cons, List.map_cons, List.sum_cons, List.sum_cons, ih]
        omega
theorem nn_add {d : List (Int × Int)} {k v : Int} (hd : ∀ p ∈ d, 0 ≤ p.2) (hv : 0 ≤ v) : ∀ p ∈ addI d k v, 0 ≤ p.2 := fun p hp => by
  have g0 : 0 ≤ getI d k := by
    unfold getI
    cases e : d.find? fun p => decide (p.1 = k) with
    | none => exact Int.le_refl _
    | some x => exact hd x (List.mem_of_find?_eq_some e)
  unfold addI putI at hp
  split at hp
  · obtain ⟨q, hq, rfl⟩ := List.mem_map.mp hp
    split
    · show 0 ≤ getI d k + v; omega
    · exact hd q hq
  · rcases List.mem_append.mp hp with h | h
    · exact hd p h
    · rw [List.mem_singleton.mp h]; show 0 ≤ getI d k + v; omega
structure NI (K : Int → Prop) (d : List (Int × Int)) : Prop where
  nd : (keysI d).Nodup
  nn : ∀ p ∈ d, 0 ≤ p.2
  ks : ∀ k ∈ keysI d, K k
theorem ni_nil {K : Int → Prop} : NI K [] := ⟨List.nodup_nil, (fun _ h => nomatch h), (fun _ h => nomatch h)⟩
theorem NI.add {K : Int → Prop} {d : List (Int × Int)} (n : NI K d) {k v : Int} (hk : K k) (hv : 0 ≤ v) : NI K (addI d k v) ∧ sumV (addI d k v) = sumV d + v :=
  ⟨⟨(put_keysI n.nd).1, nn_add n.nn hv, fun x hx => by
    rcases (put_keysI n.nd).2 x hx with h | h
    · exact n.ks x h
    · rw [h]; exact hk⟩, sum_add n.nd⟩
theorem ni_prt1 {K : Int → Prop} : ∀ (rest : List (Int × Int)) (q : Int × Int) (t : List (Int × Int)), NI K t → 0 ≤ q.2 → (∀ r ∈ rest, 0 ≤ r.2 ∧ K (q.1 + r.1)) → NI K (prt1 t q rest) ∧ sumV (prt1 t q rest) = sumV t + q.2 * sumV rest
  | [], q, t, n, _, _ => ⟨n, by show sumV t = _; unfold sumV; simp⟩
  | r :: rest, q, t, n, hq, h => by
    obtain ⟨h1, h2⟩ := h r List.mem_cons_self
    obtain ⟨n1, s1⟩ := n.add (k := q.1 + r.1) (v := q.2 * r.2) h2 (Int.mul_nonneg hq h1)
    obtain ⟨n2, s2⟩ := ni_prt1 rest q _ n1 hq fun x hx => h x (List.mem_cons_of_mem _ hx)
    refine ⟨n2, ?_⟩
    show sumV (prt1 (addI t (q.1 + r.1) (q.2 * r.2)) q rest) = _
    rw [s2, s1]
    have : sumV (r :: rest) = r.2 + sumV rest := by unfold sumV; rw [List.map_cons, List.sum_cons]
    rw [this, Int.mul_add]
    omega
theorem ni_fold {K : Int → Prop} {rest : List (Int × Int)} : ∀ (qs t : List (Int × Int)), NI K t → (∀ q ∈ qs, 0 ≤ q.2 ∧ ∀ r ∈ rest, 0 ≤ r.2 ∧ K (q.1 + r.1)) → NI K (qs.foldl (fun t q => prt1 t q rest) t) ∧ sumV (qs.foldl (fun t q => prt1 t q rest) t) = sumV t + sumV qs * sumV rest
  | [], t, n, _ => ⟨n, by show sumV t = _; unfold sumV; simp⟩
  | q :: qs, t, n, h => by
    obtain ⟨h1, h2⟩ := h q List.mem_cons_self
    obtain ⟨n1, s1⟩ := ni_prt1 rest q t n h1 h2
    obtain ⟨n2, s2⟩ := ni_fold qs _ n1 fun x hx => h x (List.mem_cons_of_mem _ hx)
    refine ⟨n2, ?_⟩
    rw [List.foldl_cons, s2, s1]
    have : sumV (q :: qs) = q.2 + sumV qs := by unfold sumV; rw [List.map_cons, List.sum_cons]
    rw [this, Int.add_mul]
    omega
def bB (k : Nat) : Int := [1, 1, 4, 240, 2016000, 304819200000000].getD k 0
def bS (k : Nat) : Int := [1, 1, 5, 300, 2520000, 381024000000000].getD k 0
abbrev pop (n : Nat) : Nat := (setI n).length
theorem parts_all : ((List.range 32).all fun m => decide (m = 0) || (decide (((partsN m).filter fun p => decide (p &&& lowN m ≠ 0) && !decide (p = m)).length = 2 ^ (pop m - 1) - 1) && decide (pop m ≤ 5) && decide (1 ≤ pop m) && (partsN m).all fun p => decide (p = m) || (decide (pop p ≤ pop m - 1) && decide (1 ≤ pop p) && decide (pop (m ^^^ p) ≤ pop m - 1) && decide (1 ≤ pop (m ^^^ p))))) = true := by decide +kernel
theorem bb_mono : ∀ {i j : Nat}, i ≤ j → j ≤ 5 → 1 ≤ bB i ∧ bB i ≤ bB j ∧ 1 ≤ bS i ∧ bS i ≤ bS j := by
  have : ((List.range 6).all fun j => (List.range (j + 1)).all fun i => decide (1 ≤ bB i) && decide (bB i ≤ bB j) && decide (1 ≤ bS i) && decide (bS i ≤ bS j)) = true := by decide +kernel
  intro i j hi hj
  have := List.all_eq_true.mp (List.all_eq_true.mp this j (List.mem_range.mpr (by omega))) i (List.mem_range.mpr (by omega))
  simp only [Bool.and_eq_true, decide_eq_true_eq] at this
  exact ⟨this.1.1.1, this.1.1.2, this.1.2, this.2⟩
theorem bb_step : ∀ {k : Nat}, 1 ≤ k → k ≤ 5 → 4 * (((2 ^ (k - 1) - 1 : Nat) : Int) * (bB (k - 1) * bS (k - 1))) ≤ bB k ∧ ((2 ^ (k - 1) - 1 : Nat) : Int) * (bB (k - 1) * bS (k - 1)) + bB k ≤ bS k := by
  have : ((List.range 6).all fun k => decide (k = 0) || (decide (4 * (((2 ^ (k - 1) - 1 : Nat) : Int) * (bB (k - 1) * bS (k - 1))) ≤ bB k) && decide (((2 ^ (k - 1) - 1 : Nat) : Int) * (bB (k - 1) * bS (k - 1)) + bB k ≤ bS k))) = true := by decide +kernel
  intro k h1 h5
  have := List.all_eq_true.mp this k (List.mem_range.mpr (by omega))
  rw [Bool.or_eq_true, decide_eq_true_eq, Bool.and_eq_true, decide_eq_true_eq, decide_eq_true_eq] at this
  exact this.resolve_left (by omega)
def KeyOf (hp : Heap') (m : Nat) (k : Int) : Prop := ∃ s, sub s m = true ∧ k = wt hp s
structure GInv (b : Book) (hp : Heap') (D : List Nat) (S : MsL × WsL) : Prop where
  mks : S.1.map (·.1) = D.flatMap fun n => b.names.map fun z => (n, z)
  wks : S.2.map (·.1) = D.flatMap fun n => b.names.map fun z => (n, z)
  mb : ∀ e ∈ S.1, 0 ≤ e.2 ∧ 4 * e.2 ≤ bB (pop e.1.1)
  wb : ∀ e ∈ S.2, NI (KeyOf hp e.1.1) e.2 ∧ sumV e.2 ≤ bS (pop e.1.1)
section
variable {b : Book} {hp : Heap'} {D : List Nat} {S : MsL × WsL} {m : Nat}
theorem gk_nd (nb : b.names.Nodup) (nd : D.Nodup) : (D.flatMap fun n => b.names.map fun z => ((n, z) : GK)).Nodup := by
  induction D with
  | nil => exact List.nodup_nil
  | cons n D ih =>
    rw [List.nodup_cons] at nd
    rw [List.flatMap_cons, List.nodup_append]
    refine ⟨nd_map (fun a b e => (Prod.mk.inj e).2) nb, ih nd.2, fun x hx y hy e => ?_⟩
    obtain ⟨z, _, rfl⟩ := List.mem_map.mp hx
    obtain ⟨n', hn', hy⟩ := List.mem_flatMap.mp hy
    obtain ⟨z', _, rfl⟩ := List.mem_map.mp hy
    exact nd.1 (by rw [(Prod.mk.inj e).1]; exact hn')
theorem GInv.m_has (g : GInv b hp D S) {n : Nat} {z : Str} (hn : n ∈ D) (hz : z ∈ b.names) : ∃ v, (((n, z), v) : GK × Int) ∈ S.1 := by
  have : ((n, z) : GK) ∈ S.1.map (·.1) := by rw [g.mks]; exact List.mem_flatMap.mpr ⟨n, hn, List.mem_map.mpr ⟨z, hz, rfl⟩⟩
  obtain ⟨e, he, e1⟩ := List.mem_map.mp this
  exact ⟨e.2, by rw [← e1]; exact he⟩
theorem GInv.w_has (g : GInv b hp D S) {n : Nat} {z : Str} (hn : n ∈ D) (hz : z ∈ b.names) : ∃ v, (((n, z), v) : GK × List (Int × Int)) ∈ S.2 := by
  have : ((n, z) : GK) ∈ S.2.map (·.1) := by rw [g.wks]; exact List.mem_flatMap.mpr ⟨n, hn, List.mem_map.mpr ⟨z, hz, rfl⟩⟩
  obtain ⟨e, he, e1⟩ := List.mem_map.mp this
  exact ⟨e.2, by rw [← e1]; exact he⟩
theorem GInv.wat (g : GInv b hp D S) (n : Nat) (z : Str) : NI (KeyOf hp n) (wAt S.2 n z) ∧ (sumV (wAt S.2 n z) ≤ bS (pop n) ∨ wAt S.2 n z = []) := by
  unfold wAt
  cases e : S.2.find? fun e => decide (e.1 = (n, z)) with
  | none => exact ⟨ni_nil, .inr rfl⟩
  | some x =>
    have hx := g.wb x (List.mem_of_find?_eq_some e)
    have ht := List.find?_some (p := fun e : GK × List (Int × Int) => decide (e.1 = (n, z))) e
    rw [decide_eq_true_eq] at ht
    rw [ht] at hx
    exact ⟨hx.1, .inl hx.2⟩
theorem mat_bd {ms : MsL} (h : ∀ e ∈ ms, 0 ≤ e.2 ∧ 4 * e.2 ≤ bB (pop e.1.1)) (n : Nat) (z : Str) (b0 : 0 ≤ bB (pop n)) : 0 ≤ mAt ms n z ∧ 4 * mAt ms n z ≤ bB (pop n) := by
  unfold mAt
  cases e : ms.find? fun e => decide (e.1 = (n, z)) with
  | none => exact ⟨Int.le_refl _, b0⟩
  | some x =>
    have hx := h x (List.mem_of_find?_eq_some e)
    have ht := List.find?_some (p := fun e : GK × Int => decide (e.1 = (n, z))) e
    rw [decide_eq_true_eq] at ht
    rw [ht] at hx
    exact hx
theorem blk_ok {ms : MsL} (wf : WFB b) (h : ∀ e ∈ ms, 0 ≤ e.2 ∧ 4 * e.2 ≤ bB (pop e.1.1)) {p : Nat} {z : Str} (p1 : 1 ≤ bB (pop p)) : (∀ q ∈ blkA b hp ms p z, 0 ≤ q.2 ∧ (q.1 = wt hp p ∨ q.1 = 0)) ∧ sumV (blkA b hp ms p z) ≤ bB (pop p) := by
  unfold blkA
  split
  · refine ⟨fun q hq => ?_, by unfold sumV; simpa using p1⟩
    rw [List.mem_singleton.mp hq]
    refine ⟨by show (0 : Int) ≤ 1; decide, ?_⟩
    dsimp only
    split
    · exact .inl rfl
    · exact .inr rfl
  · refine ⟨fun q hq => ?_, ?_⟩
    · obtain ⟨y, _, rfl⟩ := List.mem_map.mp hq
      refine ⟨(mat_bd h p y (by omega)).1, ?_⟩
      dsimp only
      split
      · exact .inl rfl
      · exact .inr rfl
    · unfold sumV
      rw [List.map_map]
      have : ∀ l : List Str, 4 * (l.map fun y => mAt ms p y).sum ≤ (l.length : Int) * bB (pop p) := fun l => by
        induction l with
        | nil => simp
        | cons y l ih =>
          rw [List.map_cons, List.sum_cons, List.length_cons]
          have := (mat_bd h p y (by omega)).2
          have e : ((l.length + 1 : Nat) : Int) * bB (pop p) = (l.length : Int) * bB (pop p) + bB (pop p) := by push_cast; rw [Int.add_mul, Int.one_mul]
          rw [e]
          omega
      have h4 := this (b.names.filter fun y => decide (mAt ms p y ≠ 0))
      have hl : ((b.names.filter fun y => decide (mAt ms p y ≠ 0)).length : Int) ≤ 4 := by
        have := List.length_filter_le (fun y => decide (mAt ms p y ≠ 0)) b.names
        have := names_len wf
        omega
      have h5 := Int.mul_le_mul_of_nonneg_right hl (show 0 ≤ bB (pop p) by omega)
      show ((b.names.filter fun y => decide (mAt ms p y ≠ 0)).map fun y => mAt ms p y).sum ≤ _
      omega
theorem fold_cnt {b : Book} {hp : Heap'} {ms : MsL} {ws : WsL} {m : Nat} {z : Str} {B : Int} (B0 : 0 ≤ B) : ∀ (L : List Nat) (t : Int), (∀ p ∈ L, p &&& lowN m ≠ 0 ∧ p ≠ m → (∀ q ∈ blkA b hp ms p z, 0 ≤ q.2) ∧ (∀ r ∈ wAt ws (m ^^^ p) z, 0 ≤ r.2) ∧ sumV (blkA b hp ms p z) * sumV (wAt ws (m ^^^ p) z) ≤ B) →
    t ≤ L.foldl (cnt2 b hp ms ws m z) t ∧ L.foldl (cnt2 b hp ms ws m z) t ≤ t + ((L.filter fun p => decide (p &&& lowN m ≠ 0) && !decide (p = m)).length : Int) * B
  | [], t, _ => ⟨Int.le_refl _, by simp⟩
  | p :: L, t, h => by
    have c1 : ∀ (rest : List (Int × Int)) (q : Int × Int) (t : Int), 0 ≤ q.2 → (∀ r ∈ rest, 0 ≤ r.2) → t ≤ cnt1 b z (wt hp m) t q rest ∧ cnt1 b z (wt hp m) t q rest ≤ t + q.2 * sumV rest := fun rest q => by
      induction rest with
      | nil => intro t _ _; exact ⟨Int.le_refl _, by unfold sumV cnt1; simp⟩
      | cons r rest ih =>
        intro t hq hr
        have r0 := hr r List.mem_cons_self
        have m0 := Int.mul_nonneg hq r0
        have e : sumV (r :: rest) = r.2 + sumV rest := by unfold sumV; rw [List.map_cons, List.sum_cons]
        have e2 : cnt1 b z (wt hp m) t q (r :: rest) = cnt1 b z (wt hp m) (if enough b z (q.1 + r.1) (wt hp m) = true then t + q.2 * r.2 else t) q rest := rfl
        rw [e, Int.mul_add, e2]
        split
        · obtain ⟨i1, i2⟩ := ih (t + q.2 * r.2) hq fun x hx => hr x (List.mem_cons_of_mem _ hx)
          exact ⟨by omega, by omega⟩
        · obtain ⟨i1, i2⟩ := ih t hq fun x hx => hr x (List.mem_cons_of_mem _ hx)
          exact ⟨by omega, by omega⟩
    have c2 : ∀ (rest qs : List (Int × Int)) (t : Int), (∀ q ∈ qs, 0 ≤ q.2) → (∀ r ∈ rest, 0 ≤ r.2) → t ≤ qs.foldl (fun t q => cnt1 b z (wt hp m) t q rest) t ∧ qs.foldl (fun t q => cnt1 b z (wt hp m) t q rest) t ≤ t + sumV qs * sumV rest := fun rest qs => by
      induction qs with
      | nil => intro t _ _; exact ⟨Int.le_refl _, by unfold sumV; simp⟩
      | cons q qs ih =>
        intro t hq hr
        obtain ⟨a1, a2⟩ := c1 rest q t (hq q List.mem_cons_self) hr
        obtain ⟨i1, i2⟩ := ih (cnt1 b z (wt hp m) t q rest) (fun x hx => hq x (List.mem_cons_of_mem _ hx)) hr
        have e : sumV (q :: qs) = q.2 + sumV qs := by unfold sumV; rw [List.map_cons, List.sum_cons]
        rw [e, Int.add_mul, List.foldl_cons]
        exact ⟨by omega, by omega⟩
    rw [List.foldl_cons, List.filter_cons]
    have hL := fun t => fold_cnt B0 L t fun x hx => h x (List.mem_cons_of_mem _ hx)
    by_cases k : p &&& lowN m ≠ 0 ∧ p ≠ m
    · obtain ⟨h1, h2, h3⟩ := h p List.mem_cons_self k
      obtain ⟨a1, a2⟩ := c2 (wAt ws (m ^^^ p) z) (blkA b hp ms p z) t h1 h2
      have e : cnt2 b hp ms ws m z t p = (blkA b hp ms p z).foldl (fun t q => cnt1 b z (wt hp m) t q (wAt ws (m ^^^ p) z)) t := by unfold cnt2; rw [if_pos k]
      rw [if_pos (by rw [decide_eq_true k.1, decide_eq_false k.2]; rfl), List.length_cons, e]
      obtain ⟨i1, i2⟩ := hL ((blkA b hp ms p z).foldl (fun t q => cnt1 b z (wt hp m) t q (wAt ws (m ^^^ p) z)) t)
      refine ⟨by omega, ?_⟩
      push_cast
      rw [Int.add_mul, Int.one_mul]
      omega
    · have e : cnt2 b hp ms ws m z t p = t := by unfold cnt2; rw [if_neg k]
      rw [if_neg (by
        intro kk
        rw [Bool.and_eq_true, decide_eq_true_eq, Bool.not_eq_true', decide_eq_false_iff_not] at kk
        exact k kk), e]
      exact hL t
theorem wt_disj {hp : Heap'} {p s m : Nat} (hm : m < 256) (hp' : sub p m = true) (hs : sub s (m ^^^ p) = true) : KeyOf hp m (wt hp p + wt hp s) := by
  have e := minus_xor hm hp'
  rw [← e] at hs
  have le := sub_le hp'
  have bits : ∀ i, (p ||| s).testBit i = true → m.testBit i = true := fun i hi => by
    rw [Nat.testBit_or, Bool.or_eq_true] at hi
    rcases hi with h | h
    · exact sub_iff.mp hp' i h
    · have := sub_iff.mp hs i h
      rw [rest_bit hm hp', Bool.and_eq_true] at this
      exact this.1
  have sm : sub (p ||| s) m = true := sub_iff.mpr bits
  have lt : p ||| s < 256 := lt_of_sub hm sm
  have sp : sub p (p ||| s) = true := sub_iff.mpr fun i hi => by rw [Nat.testBit_or, hi]; rfl
  refine ⟨p ||| s, sm, ?_⟩
  rw [wt_rest lt sp]
  congr 1
  have : (p ||| s) - p = s := by
    refine Nat.eq_of_testBit_eq fun i => ?_
    rw [rest_bit lt sp, Nat.testBit_or]
    cases h1 : p.testBit i with
    | false => simp
    | true =>
      cases h2 : s.testBit i with
      | false => rfl
      | true =>
        have := sub_iff.mp hs i h2
        rw [rest_bit hm hp', h1] at this
        simp at this
  rw [this]
theorem wt_zero {hp : Heap'} : wt hp 0 = 0 := by
  have : setI 0 = [] := by decide
  unfold wt
  rw [this]; rfl
theorem key_self {hp : Heap'} {m : Nat} : KeyOf hp m (wt hp m) ∧ KeyOf hp m 0 := ⟨⟨m, sub_refl m, rfl⟩, ⟨0, sub_iff.mpr fun i hi => by simp at hi, wt_zero.symm⟩⟩
theorem key_blk {hp : Heap'} {m p : Nat} (hm : m < 256) (hs : sub p m = true) {x r : Int} (hx : x = wt hp p ∨ x = 0) (hr : KeyOf hp (m ^^^ p) r) : KeyOf hp m (x + r) := by
  obtain ⟨s, ss, rfl⟩ := hr
  rcases hx with rfl | rfl
  · exact wt_disj hm hs ss
  · rw [Int.zero_add]
    refine ⟨s, sub_trans ss ?_, rfl⟩
    rw [← minus_xor hm hs]
    exact sub_iff.mpr fun i hi => by rw [rest_bit hm hs, Bool.and_eq_true] at hi; exact hi.1
theorem parts_ndW (n : Nat) : (partsN n).Nodup := by
  unfold partsN
  exact (List.reverse_perm _).nodup_iff.mpr (List.nodup_range.filter _)
structure GNew (b : Book) (hp : Heap') (D : List Nat) (m : Nat) : Prop where
  wf : WFB b
  m0 : m ≠ 0
  m5 : m < 32
  nD : m ∉ D
  pD : ∀ p ∈ partsN m, p ≠ m → p ∈ D
theorem GNew.sizes (n : GNew b hp D m) : ((partsN m).filter fun p => decide (p &&& lowN m ≠ 0) && !decide (p = m)).length = 2 ^ (pop m - 1) - 1 ∧ pop m ≤ 5 ∧ 1 ≤ pop m ∧ ∀ p ∈ partsN m, p ≠ m → (pop p ≤ pop m - 1 ∧ 1 ≤ pop p ∧ pop (m ^^^ p) ≤ pop m - 1 ∧ 1 ≤ pop (m ^^^ p)) := by
  have := List.all_eq_true.mp parts_all m (List.mem_range.mpr n.m5)
  rw [Bool.or_eq_true, decide_eq_true_eq] at this
  have := this.resolve_left n.m0
  simp only [Bool.and_eq_true, decide_eq_true_eq] at this
  refine ⟨this.1.1.1, this.1.1.2, this.1.2, fun p hp' ne => ?_⟩
  have := List.all_eq_true.mp this.2 p hp'
  simp only [Bool.or_eq_true, Bool.and_eq_true, decide_eq_true_eq] at this
  have := this.resolve_left ne
  exact ⟨this.1.1.1, this.1.1.2, this.1.2, this.2⟩
theorem term_bd {x y B C : Int} (x0 : 0 ≤ x) (y0 : 0 ≤ y) (hx : x ≤ B) (hy : y ≤ C) : x * y ≤ B * C := Int.le_trans (Int.mul_le_mul_of_nonneg_right hx y0) (Int.mul_le_mul_of_nonneg_left hy (by omega))
theorem sum_nn {d : List (Int × Int)} (h : ∀ p ∈ d, 0 ≤ p.2) : 0 ≤ sumV d := by
  induction d with
  | nil => exact Int.le_refl _
  | cons p d ih =>
    unfold sumV at *
    rw [List.map_cons, List.sum_cons]
    have := h p List.mem_cons_self
    have := ih fun q hq => h q (List.mem_cons_of_mem _ hq)
    omega
theorem cnt_bd (g : GInv b hp D S) (n : GNew b hp D m) (z : Str) : 0 ≤ cntA b hp S.1 S.2 m z ∧ 4 * cntA b hp S.1 S.2 m z ≤ bB (pop m) ∧ cntA b hp S.1 S.2 m z ≤ ((2 ^ (pop m - 1) - 1 : Nat) : Int) * (bB (pop m - 1) * bS (pop m - 1)) := by
  obtain ⟨z1, z2, z3, z4⟩ := n.sizes
  have mono := bb_mono (Nat.le_refl (pop m - 1)) (by omega)
  have B0 : 0 ≤ bB (pop m - 1) * bS (pop m - 1) := Int.mul_nonneg (by omega) (by omega)
  obtain ⟨h1, h2⟩ := fold_cnt (b := b) (hp := hp) (ms := S.1) (ws := S.2) (m := m) (z := z) B0 (partsN m) 0 fun p hp' k => by
    obtain ⟨s1, s2, s3, s4⟩ := z4 p hp' k.2
    have m1 := bb_mono s1 (by omega)
    have m2 := bb_mono s3 (by omega)
    obtain ⟨b1, b2⟩ := blk_ok (hp := hp) (z := z) n.wf g.mb (p := p) m1.1
    obtain ⟨w1, w2⟩ := g.wat (m ^^^ p) z
    refine ⟨fun q hq => (b1 q hq).1, w1.nn, ?_⟩
    have w3 : sumV (wAt S.2 (m ^^^ p) z) ≤ bS (pop m - 1) := by
      rcases w2 with w2 | w2
      · omega
      · rw [w2]
        show (0 : Int) ≤ _
        omega
    exact term_bd (sum_nn fun q hq => (b1 q hq).1) (sum_nn w1.nn) (by omega) w3
  rw [z1, Int.zero_add] at h2
  have st := (bb_step z3 z2).1
  unfold cntA
  exact ⟨h1, by omega, h2⟩
theorem GInv.stM (g : GInv b hp D S) (n : GNew b hp D m) : ∀ e ∈ stM b hp S m, 0 ≤ e.2 ∧ 4 * e.2 ≤ bB (pop e.1.1) := fun e he => by
  unfold DL.stM at he
  rcases List.mem_append.mp he with h | h
  · exact g.mb e h
  · obtain ⟨z, _, rfl⟩ := List.mem_map.mp h
    exact ⟨(cnt_bd g n z).1, (cnt_bd g n z).2.1⟩
theorem prt_bd (g : GInv b hp D S) (n : GNew b hp D m) (z : Str) : NI (KeyOf hp m) (prtA b hp (stM b hp S m) S.2 m z) ∧ sumV (prtA b hp (stM b hp S m) S.2 m z) ≤ bS (pop m) := by
  obtain ⟨z1, z2, z3, z4⟩ := n.sizes
  have hm : m < 256 := by have := n.m5; omega
  have mono := bb_mono (Nat.le_refl (pop m - 1)) (by omega)
  have monm := bb_mono (Nat.le_refl (pop m)) z2
  have B0 : 0 ≤ bB (pop m - 1) * bS (pop m - 1) := Int.mul_nonneg (by omega) (by omega)
  have mb := g.stM n
  have key : ∀ (L : List Nat) (t : List (Int × Int)), (∀ p ∈ L, p ∈ partsN m) → L.Nodup → NI (KeyOf hp m) t → NI (KeyOf hp m) (L.foldl (prt2 b hp (stM b hp S m) S.2 m z) t) ∧ sumV (L.foldl (prt2 b hp (stM b hp S m) S.2 m z) t) ≤ sumV t + ((L.filter fun p => decide (p &&& lowN m ≠ 0) && !decide (p = m)).length : Int) * (bB (pop m - 1) * bS (pop m - 1)) + (if m ∈ L then bB (pop m) else 0) := fun L => by
    induction L with
    | nil => intro t _ _ nt; exact ⟨nt, by simp⟩
    | cons p L ih =>
      intro t hL nd nt
      rw [List.nodup_cons] at nd
      have hpm := hL p List.mem_cons_self
      have sp := (mem_parts.mp hpm).2
      have hL' : ∀ p ∈ L, p ∈ partsN m := fun q hq => hL q (List.mem_cons_of_mem _ hq)
      rw [List.foldl_cons, List.filter_cons]
      have pb : 1 ≤ bB (pop p) := by
        by_cases pe : p = m
        · rw [pe]; exact monm.1
        · exact (bb_mono (z4 p hpm pe).1 (by omega)).1
      obtain ⟨b1, b2⟩ := blk_ok (hp := hp) (z := z) n.wf mb (p := p) pb
      by_cases k : p &&& lowN m ≠ 0
      · have e : prt2 b hp (stM b hp S m) S.2 m z t p = (blkA b hp (stM b hp S m) p z).foldl (fun t q => prt1 t q (rstA S.2 m p z)) t := by unfold prt2; rw [if_pos k]
        have rok : (∀ r ∈ rstA S.2 m p z, 0 ≤ r.2 ∧ KeyOf hp (m ^^^ p) r.1) := fun r hr => by
          unfold rstA at hr
          split at hr
          · rename_i pe
            rw [List.mem_singleton.mp hr]
            exact ⟨by show (0 : Int) ≤ 1; decide, key_self.2⟩
          · have w1 := (g.wat (m ^^^ p) z).1
            exact ⟨w1.nn r hr, w1.ks r.1 (List.mem_map_of_mem hr)⟩
        obtain ⟨n1, s1⟩ := ni_fold (K := KeyOf hp m) (rest := rstA S.2 m p z) (blkA b hp (stM b hp S m) p z) t nt fun q hq => ⟨(b1 q hq).1, fun r hr => ⟨(rok r hr).1, key_blk hm sp (b1 q hq).2 (rok r hr).2⟩⟩
        obtain ⟨n2, s2⟩ := ih _ hL' nd.2 (e ▸ n1)
        refine ⟨n2, ?_⟩
        rw [e] at s2
        rw [s1] at s2
        rw [e]
        have bs0 := sum_nn fun q hq => (b1 q hq).1
        by_cases pe : p = m
        · rw [if_neg (by rw [decide_eq_true pe]; simp)]
          have hr : rstA S.2 m p z = [(0, 1)] := by unfold rstA; rw [if_pos pe]
          have hs : sumV (rstA S.2 m p z) = 1 := by rw [hr]; rfl
          have : m ∉ L := by rw [← pe]; exact nd.1
          rw [if_neg this] at s2
          rw [if_pos (by rw [pe]; exact List.mem_cons_self)]
          rw [hs, Int.mul_one] at s2
          rw [pe] at b2
          rw [pe] at s2
          rw [pe]
          omega
        · rw [if_pos (by rw [decide_eq_true k, decide_eq_false pe]; rfl)]
          obtain ⟨s1', s2', s3', s4'⟩ := z4 p hpm pe
          have m1 := bb_mono s1' (by omega)
          have m2 := bb_mono s3' (by omega)
          have hr : rstA S.2 m p z = wAt S.2 (m ^^^ p) z := by unfold rstA; rw [if_neg pe]
          obtain ⟨w1, w2⟩ := g.wat (m ^^^ p) z
          have w3 : sumV (wAt S.2 (m ^^^ p) z) ≤ bS (pop m - 1) := by
            rcases w2 with w2 | w2
            · omega
            · rw [w2]
              show (0 : Int) ≤ _
              omega
          have tb := term_bd bs0 (sum_nn w1.nn) (show sumV (blkA b hp (stM b hp S m) p z) ≤ bB (pop m - 1) by omega) w3
          rw [hr] at s2 ⊢
          have mm : (m ∈ p :: L) ↔ (m ∈ L) := ⟨fun h => (List.mem_cons.mp h).resolve_left fun z => pe z.symm, fun h => List.mem_cons_of_mem _ h⟩
          have ei : (if m ∈ p :: L then bB (pop m) else 0) = if m ∈ L then bB (pop m) else 0 := by
            by_cases c : m ∈ L
            · rw [if_pos c, if_pos (mm.mpr c)]
            · rw [if_neg c, if_neg fun z => c (mm.mp z)]
          rw [ei, List.length_cons]
          push_cast
          rw [Int.add_mul, Int.one_mul]
          omega
      · have e : prt2 b hp (stM b hp S m) S.2 m z t p = t := by unfold prt2; rw [if_neg k]
        obtain ⟨n2, s2⟩ := ih t hL' nd.2 nt
        rw [e]
        refine ⟨n2, ?_⟩
        rw [if_neg (by rw [decide_eq_false k]; simp)]
        have : (if m ∈ L then bB (pop m) else 0) ≤ if m ∈ p :: L then bB (pop m) else 0 := by
          by_cases c : m ∈ L
          · rw [if_pos c, if_pos (List.mem_cons_of_mem _ c)]; exact Int.le_refl _
          · rw [if_neg c]
            split <;> omega
        omega
  obtain ⟨k1, k2⟩ := key (partsN m) [] (fun _ h => h) (parts_ndW m) ni_nil
  refine ⟨k1, ?_⟩
  rw [z1, if_pos (mem_parts.mpr ⟨n.m0, sub_refl m⟩)] at k2
  have st := (bb_step z3 z2).2
  unfold prtA
  have : sumV [] = 0 := rfl
  omega
theorem GInv.step (g : GInv b hp D S) (n : GNew b hp D m) : GInv b hp (D ++ [m]) (stG b hp S m) := by
  refine ⟨?_, ?_, g.stM n, fun e he => ?_⟩
  · show (DL.stM b hp S m).map (·.1) = _
    unfold DL.stM
    rw [List.map_append, g.mks, List.flatMap_append, List.map_map]
    simp [Function.comp]
  · show (S.2 ++ _).map (·.1) = _
    rw [List.map_append, g.wks, List.flatMap_append, List.map_map]
    simp [Function.comp]
  · rcases List.mem_append.mp (show e ∈ S.2 ++ _ from he) with h | h
    · exact g.wb e h
    · obtain ⟨z, _, rfl⟩ := List.mem_map.mp h
      exact prt_bd g n z
end
end DL
namespace DL
open PySem PySem.Spec PyProof.Rows L2
theorem mAt_app {ms ex : MsL} {p : Nat} {y : Str} (h : ∀ e ∈ ex, e.1.1 ≠ p) : mAt (ms ++ ex) p y = mAt ms p y := by
  unfold mAt
  rw [List.find?_append]
  cases e : ms.find? fun e => decide (e.1 = (p, y)) with
  | some x => rfl
  | none =>
    have : ex.find? (fun e => decide (e.1 = (p, y))) = none := List.find?_eq_none.mpr fun x hx z => h x hx (by rw [of_decide_eq_true z])
    rw [this]; rfl
theorem wAt_app {ws ex : WsL} {p : Nat} {y : Str} (h : ∀ e ∈ ex, e.1.1 ≠ p) : wAt (ws ++ ex) p y = wAt ws p y := by
  unfold wAt
  rw [List.find?_append]
  cases e : ws.find? fun e => decide (e.1 = (p, y)) with
  | some x => rfl
  | none =>
    have : ex.find? (fun e => decide (e.1 = (p, y))) = none := List.find?_eq_none.mpr fun x hx z => h x hx (by rw [of_decide_eq_true z])
    rw [this]; rfl
theorem blk_cong {b : Book} {hp : Heap'} {ms ms' : MsL} {p : Nat} {z : Str} (h : ∀ y, mAt ms p y = mAt ms' p y) : blkA b hp ms p z = blkA b hp ms' p z := by
  unfold blkA
  split
  · rfl
  · have : (fun y => decide (mAt ms p y ≠ 0)) = fun y => decide (mAt ms' p y ≠ 0) := by funext y; rw [h y]
    rw [this]
    congr 1
    funext y
    rw [h y]
theorem foldl_cong {α β : Type} {f g : β → α → β} : ∀ (l : List α) (t : β), (∀ x ∈ l, ∀ t, f t x = g t x) → l.foldl f t = l.foldl g t
  | [], t, _ => rfl
  | x :: l, t, h => by
    rw [List.foldl_cons, List.foldl_cons, h x List.mem_cons_self t]
    exact foldl_cong l _ fun y hy => h y (List.mem_cons_of_mem _ hy)
theorem cnt_cong {b : Book} {hp : Heap'} {ms ms' : MsL} {ws : WsL} {m : Nat} {z : Str} (h : ∀ p, p ≠ m → ∀ y, mAt ms p y = mAt ms' p y) : cntA b hp ms ws m z = cntA b hp ms' ws m z := by
  unfold cntA
  refine foldl_cong _ _ fun p _ t => ?_
  unfold cnt2
  by_cases k : p &&& lowN m ≠ 0 ∧ p ≠ m
  · rw [if_pos k, if_pos k, blk_cong (h p k.2)]
  · rw [if_neg k, if_neg k]
theorem prt_cong {b : Book} {hp : Heap'} {ms : MsL} {ws ws' : WsL} {m : Nat} {z : Str} (hm : m < 256) (h : ∀ p, p ≠ m → ∀ y, wAt ws p y = wAt ws' p y) : prtA b hp ms ws m z = prtA b hp ms ws' m z := by
  unfold prtA
  refine foldl_cong _ _ fun p hp' t => ?_
  unfold prt2 rstA
  by_cases pe : p = m
  · rw [if_pos pe, if_pos pe]
  · rw [if_neg pe, if_neg pe, h _ (xor_part hm hp' pe).2]
section
variable {b : Book} {hp : Heap'} {D : List Nat} {S : MsL × WsL} {m : Nat}
theorem names_nd (wf : WFB b) : b.names.Nodup := wf.up.imp fun h e => by rw [e] at h; exact absurd h (List.lt_irrefl _)
theorem ni_len {m : Nat} (hm : m < 256) {d : List (Int × Int)} (n : NI (KeyOf hp m) d) : d.length ≤ 256 := by
  have := nd_sub (keysI d) ((List.range 256).map fun n => wt hp n) n.nd fun k hk => by
    obtain ⟨s, hs, rfl⟩ := n.ks k hk
    exact List.mem_map.mpr ⟨s, List.mem_range.mpr (lt_of_sub hm hs), rfl⟩
  rwa [List.length_map, List.length_map, List.length_range] at this
theorem bb_top {k : Nat} (h : k ≤ 5) : bB k ≤ 304819200000000 := (bb_mono h (Nat.le_refl 5)).2.1
theorem GInv.ok (g : GInv b hp D S) (n : GNew b hp D m) (ndD : D.Nodup) (d5 : D.length ≤ 31) (dlt : ∀ p ∈ D, p < 32) (n5 : hp.length ≤ 5) (mh : inH hp m) {L K : List Str} (hL : ∃ R, b.names = L ++ R) (hK : ∃ R, b.names = K ++ R) :
    GOk b hp (S.1 ++ L.map fun z => ((m, z), cntA b hp S.1 S.2 m z)) (S.2 ++ K.map fun z => ((m, z), prtA b hp (DL.stM b hp S m) S.2 m z)) m := by
  have nn := names_nd n.wf
  obtain ⟨R, eR⟩ := hL
  obtain ⟨R', eR'⟩ := hK
  have ll : L.length ≤ 4 ∧ K.length ≤ 4 := by
    have h1 := congrArg List.length eR
    have h2 := congrArg List.length eR'
    rw [List.length_append] at h1 h2
    have := names_len n.wf
    omega
  have ndL : L.Nodup := by rw [eR] at nn; exact (List.nodup_append.mp nn).1
  have ndK : K.Nodup := by rw [eR'] at nn; exact (List.nodup_append.mp nn).1
  have gkD := gk_nd nn ndD
  have key : ∀ {L : List Str}, L.Nodup → ((D.flatMap fun n => b.names.map fun z => ((n, z) : GK)) ++ L.map fun z => ((m, z) : GK)).Nodup := fun {L} nd => by
    refine List.nodup_append.mpr ⟨gkD, nd_map (fun a b e => (Prod.mk.inj e).2) nd, fun x hx y hy e => ?_⟩
    obtain ⟨p, hp', hx⟩ := List.mem_flatMap.mp hx
    obtain ⟨z, _, rfl⟩ := List.mem_map.mp hx
    obtain ⟨z', _, rfl⟩ := List.mem_map.mp hy
    exact n.nD (by rw [← (Prod.mk.inj e).1]; exact hp')
  have dl : ∀ (D : List Nat), (D.flatMap fun n => b.names.map fun z => ((n, z) : GK)).length ≤ 4 * D.length := fun D => by
    induction D with
    | nil => simp
    | cons p D ih =>
      rw [List.flatMap_cons, List.length_append, List.length_map, List.length_cons]
      have := names_len n.wf
      omega
  have pop5 : ∀ p, p < 32 → pop p ≤ 5 := fun p hp' => by
    have : ((List.range 32).all fun p => decide (pop p ≤ 5)) = true := by decide +kernel
    exact of_decide_eq_true (List.all_eq_true.mp this p (List.mem_range.mpr hp'))
  have m5 := n.m5
  refine ⟨n.wf, by omega, n.m0, mh, fun p hp' ne z hz => ?_, fun p hp' ne z hz => ?_, ?_, ?_, fun e he => ?_, ?_, fun e he => ?_⟩
  · obtain ⟨v, hv⟩ := g.m_has (n.pD p hp' ne) hz
    exact ⟨v, List.mem_append_left _ hv⟩
  · obtain ⟨v, hv⟩ := g.w_has (n.pD p hp' ne) hz
    exact ⟨v, List.mem_append_left _ hv⟩
  · rw [List.map_append, g.mks, List.map_map]
    exact key ndL
  · rw [List.map_append, g.wks, List.map_map]
    exact key ndK
  · rcases List.mem_append.mp he with h | h
    · have w := (g.wb e h).1
      have : e.1.1 ∈ D := by
        have : e.1 ∈ S.2.map (·.1) := List.mem_map_of_mem h
        rw [g.wks] at this
        obtain ⟨p, hp', hx⟩ := List.mem_flatMap.mp this
        obtain ⟨z, _, e1⟩ := List.mem_map.mp hx
        rw [← e1]; exact hp'
      have := dlt _ this
      exact ⟨ni_len (by omega) w, w.nd⟩
    · obtain ⟨z, _, rfl⟩ := List.mem_map.mp h
      have w := (prt_bd g n z).1
      exact ⟨ni_len (m := m) (by omega) w, w.nd⟩
  · have h1 := congrArg List.length g.mks
    have h2 := congrArg List.length g.wks
    rw [List.length_map] at h1 h2
    have := dl D
    rw [List.length_append, List.length_append, List.length_map, List.length_map]
    omega
  · rcases List.mem_append.mp he with h | h
    · have w := g.mb e h
      have : e.1.1 ∈ D := by
        have : e.1 ∈ S.1.map (·.1) := List.mem_map_of_mem h
        rw [g.mks] at this
        obtain ⟨p, hp', hx⟩ := List.mem_flatMap.mp this
        obtain ⟨z, _, e1⟩ := List.mem_map.mp hx
        rw [← e1]; exact hp'
      have := bb_top (pop5 _ (dlt _ this))
      omega
    · obtain ⟨z, _, rfl⟩ := List.mem_map.mp h
      have w := cnt_bd g n z
      have := bb_top (pop5 _ m5)
      show -(2 ^ 64) < cntA b hp S.1 S.2 m z ∧ cntA b hp S.1 S.2 m z < 2 ^ 64
      omega
end
end DL
namespace DL
open PySem PySem.Spec PyProof.Rows L2
theorem x_dput {ρ : Sl} {h : Hv} {E : PX} {D : AE} {db dc da : ED} (q : da ρ h (fun v h1 => db ρ h1 (fun w h2 => dc ρ h2 (fun u h3 => match dputA w u v h3 with | some h' => D.nx ρ h' | none => False) E) E) E) : sDPut db dc da ρ h D E := q
theorem put_absent {κ : Type} [DecidableEq κ] {kvs : List (κ × Val)} {k : κ} {v : Val} (h : k ∉ kvs.map (·.1)) : putA kvs k v = kvs ++ [(k, v)] := by
  unfold putA
  rw [if_neg]
  intro z
  obtain ⟨x, hx, e⟩ := List.any_eq_true.mp z
  exact h (by rw [← of_decide_eq_true e]; exact List.mem_map_of_mem hx)
def Ag.set (A : Ag) (k : GK) (p : Addr) : Ag := { A with w := fun x => if x = k then p else A.w x }
section
variable {G : Gx} {h h' h0 : Hv} {A : Ag} {b : Book} {hp : Heap'} {ms : MsL} {ws : WsL}
theorem GrAt.putM (t : GrAt G h A b hp ms ws) {k : GK} {v : Int} (hk : k ∉ ms.map (·.1)) (hl : ms.length ≤ 1100) (ne : A.ma ≠ A.a ∧ A.ma ≠ A.wa) : dputA (.ref A.ma) (.tup [.int (k.1 : Int), .str k.2]) (.int v) h = some (put h A.ma (.dT (encMs (ms ++ [(k, v)])))) ∧ GrAt G (put h A.ma (.dT (encMs (ms ++ [(k, v)])))) A b hp (ms ++ [(k, v)]) ws := by
  constructor
  · unfold dputA
    simp only [t.ma, keys_gk]
    have : (encMs ms).length < sizeLine := by unfold encMs; rw [List.length_map, sizeLine_eq]; omega
    rw [if_pos this, put_absent (k := gkV (k.1, k.2))]
    · unfold encMs; rw [List.map_append]; rfl
    · intro z
      unfold encMs at z
      rw [List.map_map] at z
      obtain ⟨e, he, e1⟩ := List.mem_map.mp z
      exact hk (by rw [show k = e.1 from (gkV_inj e1).symm]; exact List.mem_map_of_mem he)
  · refine ⟨by rw [put_ne ne.1.symm]; exact t.ins, put_same, by rw [put_ne ne.2.symm]; exact t.wa, fun e he => ?_, t.nw, t.inj⟩
    have := (t.nw e he).2.1
    exact (t.w e he).sub' (put_ne this)
theorem GrAt.putW (t : GrAt G h A b hp ms ws) {k : GK} {d : List (Int × Int)} {p : Addr} (hk : k ∉ ws.map (·.1)) (hl : ws.length ≤ 1100) (ne : A.wa ≠ A.a ∧ A.wa ≠ A.ma) (hd : h p = some (.dK (encI d))) (np : p ≠ A.a ∧ p ≠ A.ma ∧ p ≠ A.wa ∧ ∀ e ∈ ws, p ≠ A.w e.1) :
    dputA (.ref A.wa) (.tup [.int (k.1 : Int), .str k.2]) (.ref p) h = some (put h A.wa (.dT (encWs (ws ++ [(k, d)]) (A.set k p).w))) ∧ GrAt G (put h A.wa (.dT (encWs (ws ++ [(k, d)]) (A.set k p).w))) (A.set k p) b hp ms (ws ++ [(k, d)]) := by
  have old : ∀ e ∈ ws, (A.set k p).w e.1 = A.w e.1 := fun e he => by
    show (if e.1 = k then p else A.w e.1) = A.w e.1
    rw [if_neg fun z => hk (by rw [← z]; exact List.mem_map_of_mem he)]
  have new : (A.set k p).w k = p := by show (if k = k then p else A.w k) = p; rw [if_pos rfl]
  constructor
  · unfold dputA
    simp only [t.wa, keys_gk]
    have : (encWs ws A.w).length < sizeLine := by unfold encWs; rw [List.length_map, sizeLine_eq]; omega
    rw [if_pos this, put_absent (k := gkV (k.1, k.2))]
    · unfold encWs
      rw [List.map_append, List.map_singleton, new]
      congr 4
      refine List.map_congr_left fun e he => ?_
      rw [old e he]
    · intro z
      unfold encWs at z
      rw [List.map_map] at z
      obtain ⟨e, he, e1⟩ := List.mem_map.mp z
      exact hk (by rw [show k = e.1 from (gkV_inj e1).symm]; exact List.mem_map_of_mem he)
  · refine ⟨by show put h A.wa _ A.a = _; rw [put_ne ne.1.symm]; exact t.ins, by show put h A.wa _ A.ma = _; rw [put_ne ne.2.symm]; exact t.ma, put_same, fun e he => ?_, fun e he => ?_, fun e he f hf ne' => ?_⟩
    · rcases List.mem_append.mp he with h1 | h1
      · rw [old e h1]
        exact (t.w e h1).sub' (put_ne (t.nw e h1).2.2)
      · rw [List.mem_singleton.mp h1, new]
        exact .inl (by rw [put_ne np.2.2.1]; exact hd)
    · rcases List.mem_append.mp he with h1 | h1
      · rw [old e h1]; exact t.nw e h1
      · rw [List.mem_singleton.mp h1, new]; exact ⟨np.1, np.2.1, np.2.2.1⟩
    · rcases List.mem_append.mp he with h1 | h1
      · rcases List.mem_append.mp hf with h2 | h2
        · rw [old e h1, old f h2]; exact t.inj e h1 f h2 ne'
        · rw [List.mem_singleton.mp h2, new, old e h1]; exact (np.2.2.2 e h1).symm
      · rcases List.mem_append.mp hf with h2 | h2
        · rw [List.mem_singleton.mp h1, new, old f h2]; exact np.2.2.2 f h2
        · rw [List.mem_singleton.mp h1, List.mem_singleton.mp h2] at ne'
          exact absurd rfl ne'
structure GFr (h0 h : Hv) (A : Ag) (ws : WsL) : Prop where
  a : h0 A.a = none ∧ h0 A.ma = none ∧ h0 A.wa = none
  w : ∀ e ∈ ws, h0 (A.w e.1) = none
  d : A.ma ≠ A.a ∧ A.ma ≠ A.wa ∧ A.wa ≠ A.a
  sb : Sub h0 h
  bz : ∀ c, h c = some .busy → h0 c = some .busy
theorem GFr.off (f : GFr h0 h A ws) (t' : GrAt G h' A b hp ms ws) (o : OffG A ws h h') : GFr h0 h' A ws := by
  refine ⟨f.a, f.w, f.d, fun c u hc => ?_, fun c hc => ?_⟩
  · rw [o c fun e he z => by rw [z, f.w e he] at hc; cases hc]
    exact f.sb c u hc
  · by_cases z : ∀ e ∈ ws, c ≠ A.w e.1
    · rw [o c z] at hc; exact f.bz c hc
    · exfalso
      apply z
      intro e he e1
      rw [e1] at hc
      rcases t'.w e he with y | ⟨_, _, y⟩ <;> rw [y] at hc <;> cases hc
theorem GFr.put (f : GFr h0 h A ws) {c : Addr} {o : Ob} (hc : h0 c = none) (nb : o ≠ .busy) : GFr h0 (put h c o) A ws := by
  refine ⟨f.a, f.w, f.d, fun a u ha => ?_, fun a ha => ?_⟩
  · rw [put_ne (fun z => by rw [z, hc] at ha; cases ha)]; exact f.sb a u ha
  · by_cases z : a = c
    · rw [z, put_same] at ha; exact absurd (Option.some.inj ha) nb
    · rw [put_ne z] at ha; exact f.bz a ha
end
end DL
namespace DL
open PySem PySem.Spec PyProof.Rows L2
section
variable {G : Gx} {h0 : Hv} {b : Book} {hp : Heap'} {D : List Nat} {S : MsL × WsL} {m : Nat} {a : Addr}
theorem g_turn (wf : WFB b) (g : GInv b hp D S) (n : GNew b hp D m) (ndD : D.Nodup) (d5 : D.length ≤ 31) (dlt : ∀ p ∈ D, p < 32) (n5 : hp.length ≤ 5) (mh : inH hp m) {A : Ag} {h : Hv} (ea : A.a = a) (t : GrAt G h A b hp S.1 S.2) (f : GFr h0 h A S.2) {x4 : Option Val} {Dd : AE} {E : PX}
    (q : ∀ A' h' y4, A'.a = a → GrAt G h' A' b hp (stG b hp S m).1 (stG b hp S m).2 → GFr h0 h' A' (stG b hp S m).2 → Dd.nx [some (.ref a), some (encB b), some (encH hp), some (.int (m : Int)), y4, none] h') :
    sSeq (sFor (dIt (dFld (G.C "Groupings") "names" (dVar 0))) (.nm 4) (sDPut (dFld (G.C "Groupings") "many" (dVar 0)) (dTup (aCons (dVar 3) (aCons (dVar 4) aNil))) (dMeth (G.C "Groupings") "count" 3 (S_Groupings_count G) (dVar 0) (aCons (dVar 3) (aCons (dVar 4) aNil))))) (sFor (dIt (dFld (G.C "Groupings") "names" (dVar 0))) (.nm 4) (sDPut (dFld (G.C "Groupings") "ways" (dVar 0)) (dTup (aCons (dVar 3) (aCons (dVar 4) aNil))) (dMeth (G.C "Groupings") "parted" 3 (S_Groupings_parted G) (dVar 0) (aCons (dVar 3) (aCons (dVar 4) aNil))))) [some (.ref a), some (encB b), some (encH hp), some (.int (m : Int)), x4, none] h Dd E := by
  subst ea
  have hm : m < 256 := by have := n.m5; omega
  refine ss_for (it := ⟨b.names.map .str, fun _ => True⟩) (evi_it (g_fld t (ev_var (v := .ref A.a)) rfl) rfl) fun dd hdd => ?_
  refine for_ind (fun vs ρ h' => ∃ (L R : List Str) (y4 : Option Val), b.names = L ++ R ∧ vs = R.map .str ∧ GrAt G h' A b hp (S.1 ++ L.map fun z => ((m, z), cntA b hp S.1 S.2 m z)) S.2 ∧ GFr h0 h' A S.2 ∧ ρ = [some (.ref A.a), some (encB b), some (encH hp), some (.int (m : Int)), y4, none]) ?_ ?_ _ _ _ ⟨[], b.names, x4, rfl, rfl, by simpa using t, f, rfl⟩
  rotate_left 1
  · rintro v vs ρ h' ⟨L, R, y4, e, ev, t', f', rfl⟩
    cases R with
    | nil => cases ev
    | cons z R =>
    rw [List.map_cons, List.cons.injEq] at ev
    obtain ⟨rfl, rfl⟩ := ev
    have hz : z ∈ b.names := by rw [e]; simp
    have ok := g.ok n ndD d5 dlt n5 mh (L := L) (K := []) ⟨z :: R, e⟩ ⟨b.names, rfl⟩
    rw [List.map_nil, List.append_nil] at ok
    refine ⟨trivial, _, rfl, fun Nx hNx => ?_⟩
    subst hdd
    refine x_dput (e_meth (ev_var (v := .ref A.a)) t'.ins rfl (eva2 (ev_var (v := .int (m : Int))) (ev_var (v := .str z))) rfl ⟨A, b, hp, _, S.2, m, z, rfl, t', ok, hz, fun h2 t2 o2 => ?_⟩)
    have f2 := f'.off t2 o2
    have ec : cntA b hp (S.1 ++ L.map fun z => ((m, z), cntA b hp S.1 S.2 m z)) S.2 m z = cntA b hp S.1 S.2 m z := cnt_cong fun p hp' y => mAt_app fun e he => by
      obtain ⟨z', _, rfl⟩ := List.mem_map.mp he
      exact fun z => hp' z.symm
    rw [ec]
    refine m_ev (g_fld t2 (ev_var (v := .ref A.a)) rfl) ?_
    refine m_ev (v := .tup [.int (m : Int), .str z]) (ev_tup (eva2 (ev_var (v := .int (m : Int))) (ev_var (v := .str z))) (by simp [sizeLine_eq])) ?_
    have hk : ((m, z) : GK) ∉ (S.1 ++ L.map fun z => ((m, z), cntA b hp S.1 S.2 m z)).map (·.1) := fun hh => by
      rw [List.map_append] at hh
      rcases List.mem_append.mp hh with h1 | h1
      · rw [g.mks] at h1
        obtain ⟨p, hp', hx⟩ := List.mem_flatMap.mp h1
        obtain ⟨z', _, e1⟩ := List.mem_map.mp hx
        exact n.nD (by rw [← (Prod.mk.inj e1).1]; exact hp')
      · rw [List.map_map] at h1
        obtain ⟨z', hz', e1⟩ := List.mem_map.mp h1
        have : z' = z := (Prod.mk.inj e1).2
        subst this
        have nn := names_nd wf
        rw [e] at nn
        exact (List.nodup_append.mp nn).2.2 z' hz' z' List.mem_cons_self rfl
    obtain ⟨p1, p2⟩ := t2.putM (v := cntA b hp S.1 S.2 m z) hk ok.lm.1 ⟨f2.d.1, f2.d.2.1⟩
    dsimp only at p1 ⊢
    rw [p1]
    refine hNx _ _ ⟨L ++ [z], R, _, by rw [e]; simp, rfl, ?_, f2.put f2.a.2.1 (fun z => nomatch z), rfl⟩
    rw [List.map_append, ← List.append_assoc]
    exact p2
  rintro ρ h1 ⟨L, R, y4, e, ev, t1, f1, rfl⟩
  have : R = [] := by cases R with
    | nil => rfl
    | cons _ _ => cases ev
  subst this
  rw [List.append_nil] at e
  subst e
  refine ⟨trivial, ?_⟩
  dsimp only
  have t1 : GrAt G h1 A b hp (stM b hp S m) S.2 := t1
  refine so_for (it := ⟨b.names.map .str, fun _ => True⟩) (evi_it (g_fld t1 (ev_var (v := .ref A.a)) rfl) rfl) fun dd hdd => ?_
  refine for_ind (fun vs ρ h' => ∃ (L R : List Str) (y4 : Option Val) (A' : Ag), b.names = L ++ R ∧ vs = R.map .str ∧ A'.a = A.a ∧ GrAt G h' A' b hp (stM b hp S m) (S.2 ++ L.map fun z => ((m, z), prtA b hp (stM b hp S m) S.2 m z)) ∧ GFr h0 h' A' (S.2 ++ L.map fun z => ((m, z), prtA b hp (stM b hp S m) S.2 m z)) ∧ ρ = [some (.ref A.a), some (encB b), some (encH hp), some (.int (m : Int)), y4, none]) ?_ ?_ _ _ _ ⟨[], b.names, y4, A, rfl, rfl, rfl, by simpa using t1, by simpa using f1, rfl⟩
  · rintro ρ h' ⟨L, R, y4', A', e, ev, ea, t', f', rfl⟩
    have : R = [] := by cases R with
      | nil => rfl
      | cons _ _ => cases ev
    subst this
    rw [List.append_nil] at e
    subst e
    exact ⟨trivial, q A' h' _ ea t' f'⟩
  · rintro v vs ρ h' ⟨L, R, y4', A', e, ev, ea, t', f', rfl⟩
    cases R with
    | nil => cases ev
    | cons z R =>
    rw [List.map_cons, List.cons.injEq] at ev
    obtain ⟨rfl, rfl⟩ := ev
    have hz : z ∈ b.names := by rw [e]; simp
    have ok := g.ok n ndD d5 dlt n5 mh (L := b.names) (K := L) ⟨[], by simp⟩ ⟨z :: R, e⟩
    have ep : prtA b hp (stM b hp S m) (S.2 ++ L.map fun z => ((m, z), prtA b hp (stM b hp S m) S.2 m z)) m z = prtA b hp (stM b hp S m) S.2 m z := prt_cong hm fun p hp' y => wAt_app fun e he => by
      obtain ⟨z', _, rfl⟩ := List.mem_map.mp he
      exact fun z => hp' z.symm
    refine ⟨trivial, _, rfl, fun Nx hNx => ?_⟩
    subst hdd
    rw [← ea]
    refine x_dput (e_meth (ev_var (v := .ref A'.a)) t'.ins rfl (eva2 (ev_var (v := .int (m : Int))) (ev_var (v := .str z))) rfl ⟨A', b, hp, _, _, m, z, rfl, t', ok, hz, fun y hy => ⟨_, List.mem_append_right _ (List.mem_map.mpr ⟨y, hy, rfl⟩)⟩, by
      show (prtA b hp (stM b hp S m) _ m z).length ≤ 256
      rw [ep]; exact ni_len hm (prt_bd g n z).1, fun h2 p np t2 o2 hd2 => ?_⟩)
    rw [ep] at o2 hd2
    have np' : p ≠ A'.a ∧ p ≠ A'.ma ∧ p ≠ A'.wa ∧ ∀ e ∈ (S.2 ++ L.map fun z => ((m, z), prtA b hp (stM b hp S m) S.2 m z)), p ≠ A'.w e.1 := ⟨(fun z => by rw [z, t'.ins] at np; cases np), (fun z => by rw [z, t'.ma] at np; cases np), (fun z => by rw [z, t'.wa] at np; cases np), (fun e he z => by
      rw [z] at np
      rcases t'.w e he with y | ⟨_, _, y⟩ <;> rw [y] at np <;> cases np)⟩
    have p0 : h0 p = none := by
      cases e0 : h0 p with
      | none => rfl
      | some o => have := f'.sb p o e0; rw [np] at this; cases this
    have f2 := (f'.put (c := p) (o := .dK (encI (prtA b hp (stM b hp S m) S.2 m z))) p0 (fun z => nomatch z)).off t2 o2
    refine m_ev (g_fld t2 (ev_var (v := .ref A'.a)) rfl) ?_
    refine m_ev (v := .tup [.int (m : Int), .str z]) (ev_tup (eva2 (ev_var (v := .int (m : Int))) (ev_var (v := .str z))) (by simp [sizeLine_eq])) ?_
    have hk : ((m, z) : GK) ∉ (S.2 ++ L.map fun z => ((m, z), prtA b hp (stM b hp S m) S.2 m z)).map (·.1) := fun hh => by
      rw [List.map_append] at hh
      rcases List.mem_append.mp hh with h1 | h1
      · rw [g.wks] at h1
        obtain ⟨p, hp', hx⟩ := List.mem_flatMap.mp h1
        obtain ⟨z', _, e1⟩ := List.mem_map.mp hx
        exact n.nD (by rw [← (Prod.mk.inj e1).1]; exact hp')
      · rw [List.map_map] at h1
        obtain ⟨z', hz', e1⟩ := List.mem_map.mp h1
        have : z' = z := (Prod.mk.inj e1).2
        subst this
        have nn := names_nd wf
        rw [e] at nn
        exact (List.nodup_append.mp nn).2.2 z' hz' z' List.mem_cons_self rfl
    obtain ⟨p1, p2⟩ := t2.putW (d := prtA b hp (stM b hp S m) S.2 m z) (p := p) hk ok.lm.2 ⟨f2.d.2.2, f2.d.2.1.symm⟩ hd2 np'
    dsimp only at p1 ⊢
    rw [p1]
    refine hNx _ _ ⟨L ++ [z], R, some (.str z), A'.set (m, z) p, by rw [e]; simp, rfl, ea, ?_, ?_, by rw [ea]; rfl⟩
    · rw [List.map_append, ← List.append_assoc]
      exact p2
    · rw [List.map_append, ← List.append_assoc]
      have f3 := f2.put (c := A'.wa) (o := .dT (encWs ((S.2 ++ L.map fun z => ((m, z), prtA b hp (stM b hp S m) S.2 m z)) ++ [((m, z), prtA b hp (stM b hp S m) S.2 m z)]) (A'.set (m, z) p).w)) f2.a.2.2 (fun z => nomatch z)
      refine ⟨f3.a, fun x hx => ?_, f3.d, f3.sb, f3.bz⟩
      show h0 (if x.1 = (m, z) then p else A'.w x.1) = none
      by_cases c : x.1 = (m, z)
      · rw [if_pos c]; exact p0
      · rw [if_neg c]
        rcases List.mem_append.mp hx with h1 | h1
        · exact f3.w x h1
        · rw [List.map_singleton, List.mem_singleton] at h1
          exact absurd (by rw [h1]) c
end
end DL
namespace DL
open PySem PySem.Spec PyProof.Rows L2
theorem x_fldT {ρ : Sl} {h : Hv} {E : PX} {d : ED} {D : AE} {s2 : SD} {C a : Addr} {f : Str} {fl : List (Str × Val)} (hd : ∀ h', EvE ρ h' E d (.ref a)) (e : h a = some (.ins C fl)) (l : fl.length < 1000) (q : ∀ p, h p = none → s2 ρ (put (put h p (.dT [])) a (.ins C (putFA f (.ref p) fl))) D E) : sSeq (sFldA C f d dNewT) s2 ρ h D E := by
  refine s_seq ?_
  show ∀ p, h p = none → _
  intro p np
  have ne : a ≠ p := fun z => by rw [z, np] at e; cases e
  refine x_fld (a := a) (hd _) (by rw [put_ne ne]; exact e) l ?_
  exact q p np
set_option maxHeartbeats 2000000 in
theorem bo_Groupings___init__ (G : Gx) (N : List Str) (hN : N.length = 6) : ∀ as h Q E, as.length = 3 → S_Groupings___init__ G as h Q E → den_Groupings___init__ G (startA N as) h (endsR Q) (RX E) := by
  rintro as h Q E - ⟨a, b, hp, h0, rfl, pre, a0, rfl, q⟩
  have wf := pre.wf
  have ho := pre.ho
  have n5 := pre.n5
  unfold den_Groupings___init__
  simp only [startA, hN]
  have p2 : (2 : Nat) ^ hp.length ≤ 32 := Nat.pow_le_pow_right (by decide) n5
  have p1 : 1 ≤ 2 ^ hp.length := Nat.one_le_two_pow
  refine sFlds_ev (eva2 ev_var ev_var) rfl (by decide) rfl put_same (by decide) ?_
  rw [put_put]
  show sSeq _ _ _ (put h0 a (.ins (G.C "Groupings") [("book", encB b), ("heap", encH hp)])) _ _
  refine ss_fld (v := .lst (b.names.map .str)) (ev_call (eva1 ev_var) rfl fun Q q => ⟨b, rfl, wf.n4, q⟩) ev_var put_same (by simp) ?_
  rw [put_put]
  show sSeq _ _ _ (put h0 a (.ins (G.C "Groupings") [("book", encB b), ("heap", encH hp), ("names", .lst (b.names.map .str))])) _ _
  refine ss_fld (v := .int ((2 ^ hp.length : Nat) - 1 : Int)) (ev_bin (ev_bin ev_c (ev_cb (eva1 ev_var) (c_len (n := hp.length) (by unfold encH; simp))) (u := .int ((2 ^ hp.length : Nat) : Int)) fun Q q => ?_) ev_c (f_sub _ _)) ev_var put_same (by simp) ?_
  · show CPow 1 (hp.length : Int) ∧ Q (.int (1 * 2 ^ ((hp.length : Nat) : Int).toNat)) _
    refine ⟨⟨by omega, by omega, by decide⟩, Qv q ?_⟩
    congr 1
    simp
  rw [put_put]
  show sSeq _ _ _ (put h0 a (.ins (G.C "Groupings") [("book", encB b), ("heap", encH hp), ("names", .lst (b.names.map .str)), ("whole", .int ((2 ^ hp.length : Nat) - 1 : Int))])) _ _
  have a7 : put h0 a (.ins (G.C "Groupings") [("book", encB b), ("heap", encH hp), ("names", .lst (b.names.map .str)), ("whole", .int ((2 ^ hp.length : Nat) - 1 : Int))]) a = some (.ins (G.C "Groupings") [("book", encB b), ("heap", encH hp), ("names", .lst (b.names.map .str)), ("whole", .int ((2 ^ hp.length : Nat) - 1 : Int))]) := put_same
  refine ss_fld (v := .lst ((List.range (2 ^ hp.length)).map fun n => .int (wt hp n))) (ev_lc (ok := fun _ => True) (List.range (2 ^ hp.length)) (fun n => .int (0 + (n : Nat))) (fun n => .int (wt hp n)) (fun Q q => ?_) (fun _ _ => trivial) (by rw [List.length_range, sizeLine_eq]; omega) (fun n hn => ⟨_, rfl, fun h' _ => ?_⟩)) ev_var a7 (by simp) ?_
  · refine (eva1 (ev_bin (ev_fld (u := .int ((2 ^ hp.length : Nat) - 1 : Int)) ev_var a7 rfl) ev_c (f_add _ _))) _ ?_
    show -(2 ^ 62) ≤ ((2 ^ hp.length : Nat) - 1 : Int) + 1 ∧ ((2 ^ hp.length : Nat) - 1 : Int) + 1 < 2 ^ 62 ∧ Q _ _
    refine ⟨by omega, by omega, ?_⟩
    have : (((2 ^ hp.length : Nat) - 1 : Int) + 1).toNat = 2 ^ hp.length := by omega
    rw [this]
    exact q
  · have hn' := List.mem_range.mp hn
    refine ev_sum (ok := fun _ => True) (setI n) .int (rawW hp) (evi_it (v := encS n) (ev_call (eva1 ev_var) rfl fun Q q => ⟨n, by simp, q⟩) rfl) (fun _ _ => trivial) (by rw [sizeLine_eq]; have := setI_len n; omega) fun i hi => ⟨_, rfl, fun h'' _ => ev_bin (ev_bin (ev_var (v := encH hp)) (ev_var (v := .int i)) (f_heap (inH_rg hn' i hi).1 (inH_rg hn' i hi).2)) ev_c (f_ix0 rfl rfl)⟩
  rw [put_put]
  show sSeq _ _ _ (put h0 a (.ins (G.C "Groupings") [("book", encB b), ("heap", encH hp), ("names", .lst (b.names.map .str)), ("whole", .int ((2 ^ hp.length : Nat) - 1 : Int)), ("weights", .lst ((List.range (2 ^ hp.length)).map fun n => .int (wt hp n)))])) _ _
  refine x_fldT (fun h' => ev_var) put_same (by simp) fun ma nma => ?_
  have nma' : ma ≠ a := fun z => by rw [z, put_same] at nma; cases nma
  have ma0 : h0 ma = none := by rw [put_ne nma'] at nma; exact nma
  have e1 : put (put (put h0 a (.ins (G.C "Groupings") [("book", encB b), ("heap", encH hp), ("names", .lst (b.names.map .str)), ("whole", .int ((2 ^ hp.length : Nat) - 1 : Int)), ("weights", .lst ((List.range (2 ^ hp.length)).map fun n => .int (wt hp n)))])) ma (.dT [])) a (.ins (G.C "Groupings") (putFA "many" (.ref ma) [("book", encB b), ("heap", encH hp), ("names", .lst (b.names.map .str)), ("whole", .int ((2 ^ hp.length : Nat) - 1 : Int)), ("weights", .lst ((List.range (2 ^ hp.length)).map fun n => .int (wt hp n)))])) = put (put h0 ma (.dT [])) a (.ins (G.C "Groupings") [("book", encB b), ("heap", encH hp), ("names", .lst (b.names.map .str)), ("whole", .int ((2 ^ hp.length : Nat) - 1 : Int)), ("weights", .lst ((List.range (2 ^ hp.length)).map fun n => .int (wt hp n))), ("many", .ref ma)]) := by
    rw [put_comm nma'.symm, put_put]; rfl
  rw [e1]
  refine x_fldT (fun h' => ev_var) put_same (by simp) fun wa nwa => ?_
  have nwa' : wa ≠ a := fun z => by rw [z, put_same] at nwa; cases nwa
  have nwm : wa ≠ ma := fun z => by rw [z, put_ne nma', put_same] at nwa; cases nwa
  have wa0 : h0 wa = none := by rw [put_ne nwa', put_ne nwm] at nwa; exact nwa
  have e2 : put (put (put (put h0 ma (.dT [])) a (.ins (G.C "Groupings") [("book", encB b), ("heap", encH hp), ("names", .lst (b.names.map .str)), ("whole", .int ((2 ^ hp.length : Nat) - 1 : Int)), ("weights", .lst ((List.range (2 ^ hp.length)).map fun n => .int (wt hp n))), ("many", .ref ma)])) wa (.dT [])) a (.ins (G.C "Groupings") (putFA "ways" (.ref wa) [("book", encB b), ("heap", encH hp), ("names", .lst (b.names.map .str)), ("whole", .int ((2 ^ hp.length : Nat) - 1 : Int)), ("weights", .lst ((List.range (2 ^ hp.length)).map fun n => .int (wt hp n))), ("many", .ref ma)])) = put (put (put h0 ma (.dT [])) wa (.dT [])) a (.ins (G.C "Groupings") (grF b hp ma wa)) := by
    rw [put_comm nwa'.symm, put_put]; rfl
  rw [e2]
  obtain ⟨h8, eh8⟩ : ∃ h8, h8 = put (put (put h0 ma (.dT [])) wa (.dT [])) a (.ins (G.C "Groupings") (grF b hp ma wa)) := ⟨_, rfl⟩
  rw [← eh8]
  have t8 : GrAt G h8 ⟨a, ma, wa, fun _ => 0⟩ b hp [] [] := ⟨by rw [eh8]; exact put_same, by rw [eh8, put_ne nma', put_ne nwm.symm, put_same]; rfl, by rw [eh8, put_ne nwa', put_same]; rfl, (fun _ z => nomatch z), (fun _ z => nomatch z), (fun _ z => nomatch z)⟩
  have f8 : GFr h0 h8 ⟨a, ma, wa, fun _ => 0⟩ [] := by
    refine ⟨⟨a0, ma0, wa0⟩, (fun _ z => nomatch z), ⟨nma', nwm.symm, nwa'⟩, fun c o hc => ?_, fun c hc => ?_⟩
    · rw [eh8, put_ne (fun z => by rw [z, a0] at hc; cases hc), put_ne (fun z => by rw [z, wa0] at hc; cases hc), put_ne (fun z => by rw [z, ma0] at hc; cases hc)]
      exact hc
    · rw [eh8] at hc
      by_cases z1 : c = a
      · rw [z1, put_same] at hc; cases hc
      · rw [put_ne z1] at hc
        by_cases z2 : c = wa
        · rw [z2, put_same] at hc; cases hc
        · rw [put_ne z2] at hc
          by_cases z3 : c = ma
          · rw [z3, put_same] at hc; cases hc
          · rw [put_ne z3] at hc; exact hc
  have tb8 : Tbs G.Ts h8 := by
    rw [eh8]
    exact ((pre.tb.put (o := .dT []) ma0 (fun _ z => nomatch z)).put (o := .dT []) (by rw [put_ne nwm]; exact wa0) (fun _ z => nomatch z)).put (o := .ins (G.C "Groupings") (grF b hp ma wa)) (by rw [put_ne nwa'.symm, put_ne nma'.symm]; exact a0) (fun _ z => nomatch z)
  have ew : ((2 ^ hp.length : Nat) - 1 : Int) = ((2 ^ hp.length - 1 : Nat) : Int) := by omega
  refine so_for (it := ⟨(byPop (2 ^ hp.length - 1)).map fun (n : Nat) => .int (n : Int), fun _ => True⟩) (evi_it ((s_sortK (ws := (List.range' 1 (2 ^ hp.length - 1)).map fun (n : Nat) => Val.int (n : Int)) tb8 (Gx.mem pre.ns) (eva1 (v := .lst ((List.range' 1 (2 ^ hp.length - 1)).map fun (n : Nat) => Val.int (n : Int))) fun Q q => ?_) rfl (keys_ints (f := fun n => ((setI n).length : Int)) fun n hn => ?_)).cast (w := .lst ((byPop (2 ^ hp.length - 1)).map fun (n : Nat) => .int (n : Int))) (by rw [sort_nats]; unfold byPop; simp only [Int.ofNat_le])) rfl) fun dd hdd => ?_
  · refine (eva2 ev_c (ev_bin (g_fld t8 (ev_var (v := .ref a)) rfl) ev_c (f_add _ _))) _ ?_
    show -1000 ≤ (1 : Int) ∧ (1 : Int) ≤ 1000 ∧ ((2 ^ hp.length : Nat) - 1 : Int) + 1 ≤ 1000 ∧ -1000 ≤ ((2 ^ hp.length : Nat) - 1 : Int) + 1 ∧ Q _ _
    refine ⟨by omega, by omega, by omega, by omega, ?_⟩
    rw [ew, rgI_nats, List.map_map]
    exact q
  · refine ev_cb (eva1 (ev_call (eva1 ev_var) rfl fun Q q => ⟨n, rfl, q⟩)) (c_len ?_)
    unfold encS
    simp
  have up := byPop_up (2 ^ hp.length - 1)
  have nd := byPop_nodup (2 ^ hp.length - 1)
  have g0 : GInv b hp [] ([], []) := ⟨rfl, rfl, (fun _ z => nomatch z), (fun _ z => nomatch z)⟩
  refine for_ind (fun vs ρ h' => ∃ (done L : List Nat) (x3 x4 : Option Val) (A : Ag), byPop (2 ^ hp.length - 1) = done ++ L ∧ vs = L.map (fun (n : Nat) => Val.int (n : Int)) ∧ A.a = a ∧ GInv b hp done (done.foldl (stG b hp) ([], [])) ∧ GrAt G h' A b hp (done.foldl (stG b hp) ([], [])).1 (done.foldl (stG b hp) ([], [])).2 ∧ GFr h0 h' A (done.foldl (stG b hp) ([], [])).2 ∧ ρ = [some (.ref a), some (encB b), some (encH hp), x3, x4, none]) ?_ ?_ _ _ _ ⟨[], _, none, none, ⟨a, ma, wa, fun _ => 0⟩, rfl, rfl, rfl, g0, t8, f8, rfl⟩
  · rintro ρ h' ⟨done, L, x3, x4, A, e, el, ea, gi, t', f', rfl⟩
    have := map_nil_nat el
    subst this
    rw [List.append_nil] at e
    refine ⟨trivial, h', Lss.refl _, q h' A ea (by unfold finG; rw [e]; exact t') ⟨fun c => ?_, f'.bz⟩⟩
    cases ec : h0 c with
    | none => exact .inl rfl
    | some o => exact .inr (by rw [f'.sb c o ec])
  · rintro v vs ρ h' ⟨done, L, x3, x4, A, e, el, ea, gi, t', f', rfl⟩
    obtain ⟨n, L', rfl, rfl, rfl⟩ := map_cons_nat el
    have hmem : n ∈ byPop (2 ^ hp.length - 1) := by rw [e]; simp
    have hn := mem_byPop.mp hmem
    have hnH : inH hp n := by unfold inH; omega
    rw [e] at nd up
    have nD : n ∉ done := fun hd => (List.nodup_append.mp nd).2.2 n hd n List.mem_cons_self rfl
    have ndD := (List.nodup_append.mp nd).1
    have dlt : ∀ p ∈ done, p < 32 := fun p hp' => by
      have : p ∈ byPop (2 ^ hp.length - 1) := by rw [e]; exact List.mem_append_left _ hp'
      have := (mem_byPop.mp this).2
      omega
    have dl : done.length ≤ 31 := by
      have h1 := nd_sub done ((List.range 32).filter fun x => x != 0) ndD fun p hp' => by
        have : p ∈ byPop (2 ^ hp.length - 1) := by rw [e]; exact List.mem_append_left _ hp'
        have h0 := (mem_byPop.mp this).1
        rw [List.mem_filter]
        exact ⟨List.mem_range.mpr (dlt p hp'), by simpa using h0⟩
      have h2 : ((List.range 32).filter fun x => x != 0).length = 31 := by decide +kernel
      omega
    have gn : GNew b hp done n := ⟨wf, hn.1, by omega, nD, fun p hp' pn => by
      obtain ⟨p0, s⟩ := mem_parts.mp hp'
      have hp2 : p ∈ byPop (2 ^ hp.length - 1) := mem_byPop.mpr ⟨p0, by have := sub_le s; omega⟩
      rw [e] at hp2
      rcases List.mem_append.mp hp2 with h | h
      · exact h
      · rcases List.mem_cons.mp h with h | h
        · exact absurd h pn
        · have := (List.pairwise_cons.mp (List.pairwise_append.mp up).2.1).1 p h
          have := pop_lt (inH_lt ho.n8 hnH) p0 s pn
          omega⟩
    refine ⟨trivial, _, rfl, fun Nx hNx => ?_⟩
    subst hdd
    refine g_turn wf gi gn ndD dl dlt n5 hnH ea t' f' fun A' h2 y4 ea' t2 f2 => ?_
    refine hNx _ _ ⟨done ++ [n], L', _, _, A', by rw [e]; simp, rfl, ea', ?_, ?_, ?_, rfl⟩
    · rw [List.foldl_append]; exact gi.step gn
    · rw [List.foldl_append]; exact t2
    · rw [List.foldl_append]; exact f2
theorem fEq_encOW {o : Option Str} {z : Str} {h : Hv} {Q : PV} (q : Q (.bl (decide (o = some z))) h) : fEq (encO o) (.str z) h Q := by
  cases o with
  | none => exact q
  | some y =>
    show Q (.bl (y == z)) h
    have : (y == z) = decide (some y = some z) := by
      by_cases e : y = z
      · subst e; simp
      · rw [decide_eq_false (by simpa using e)]; simpa using e
    rw [this]; exact q
theorem GPre.whole {G : Gx} {h : Hv} {b : Book} {hp : Heap'} (p : GPre G h b hp) : (2 ^ hp.length - 1 : Nat) ≠ 0 ∧ 2 ^ hp.length - 1 ∈ byPop (2 ^ hp.length - 1) := by
  have : 2 ^ 1 ≤ 2 ^ hp.length := Nat.pow_le_pow_right (by decide) p.n1
  exact ⟨by omega, mem_byPop.mpr ⟨by omega, Nat.le_refl _⟩⟩
theorem fin_inv {G : Gx} {h : Hv} {b : Book} {hp : Heap'} (p : GPre G h b hp) : ∀ z ∈ b.names, ∃ v, (((2 ^ hp.length - 1, z), v) : GK × Int) ∈ (finG b hp).1 := fun z hz => by
  have key : ∀ (L : List Nat) (S : MsL × WsL), (∃ v, (((2 ^ hp.length - 1, z), v) : GK × Int) ∈ S.1) ∨ 2 ^ hp.length - 1 ∈ L → ∃ v, (((2 ^ hp.length - 1, z), v) : GK × Int) ∈ (L.foldl (stG b hp) S).1 := fun L => by
    induction L with
    | nil =>
      intro S hh
      rcases hh with hh | hh
      · exact hh
      · cases hh
    | cons n L ih =>
      intro S hh
      rw [List.foldl_cons]
      refine ih _ ?_
      rcases hh with ⟨v, hv⟩ | hh
      · exact .inl ⟨v, List.mem_append_left _ hv⟩
      · rcases List.mem_cons.mp hh with e | e
        · exact .inl ⟨_, List.mem_append_right _ (List.mem_map.mpr ⟨z, hz, by rw [e]⟩)⟩
        · exact .inr e
  exact key _ _ (.inr p.whole.2)
theorem n_groupings {G : Gx} {ρ : Sl} {h : Hv} {E : PX} {Q : PV} {aa : AD} {b : Book} {hp : Heap'} (pre : GPre G h b hp) (ha : EvA ρ h E aa [encB b, encH hp]) (q : ∀ A h', GrAt G h' A b hp (finG b hp).1 (finG b hp).2 → Lss h' h → Q (.ref A.a) h') : dNew (G.C "Groupings") 3 (S_Groupings___init__ G) aa ρ h Q E := ha _ fun a na => ⟨rfl, a, b, hp, h, rfl, pre, na, rfl, fun h' A ea t l => ⟨rfl, by rw [← ea]; exact q A h' t l⟩⟩
theorem bo_how_many_tidy (G : Gx) (N : List Str) (hN : N.length = 4) : ∀ as h Q E, as.length = 3 → S_how_many_tidy G as h Q E → den_how_many_tidy G (startA N as) h (endsR Q) (RX E) := by
  rintro as h Q E - ⟨b, hp, v, rfl, pre, q⟩
  unfold den_how_many_tidy
  simp only [startA, hN]
  refine s_seq (s_call (eva2 ev_var ev_var) rfl ⟨b, v, rfl, pre.wf.n4, ?_⟩)
  rcases q with ⟨z, rfl, hz, q⟩ | ⟨o, q⟩
  rotate_left 1
  · exact .inr ⟨o, h, Lss.refl h, q⟩
  refine .inl ⟨z, rfl, hz, ?_⟩
  dsimp only
  have n1 := pre.n1
  have tl : EvE [some (encB b), some (encH hp), some (.str z), none] h (RX E) (dBin fEq (dCB fLen (aCons (dVar 1) aNil)) (dC (.int 1))) (.bl (decide (hp.length = 1))) := (ev_bin (ev_cb (eva1 (ev_var (v := encH hp))) (c_len (n := hp.length) (by unfold encH; simp))) ev_c f_eqI).cast (by
    congr 1
    rw [Bool.eq_iff_iff, decide_eq_true_eq, decide_eq_true_eq]
    omega)
  by_cases c1 : hp.length = 1
  · refine ss_if (k := true) (evt_test (tl.cast (by rw [decide_eq_true c1]))) (fun _ => ?_) fun z => nomatch z
    refine s_ret (v := .int (tidyN b hp z)) ((ev_cb (u := .int (if decide (rawL hp 0 = some z) then 1 else 0)) (eva1 (ev_bin (ev_bin (v := .tup [.int (rawW hp 0), encO (rawL hp 0)]) (ev_bin (ev_var (v := encH hp)) ev_c fun Q q => ix_heap (by omega) (by omega) q) ev_c (f_ix1 (u := encO (rawL hp 0)) rfl rfl)) (ev_var (v := .str z)) fun Q q => fEq_encOW q)) fun Q q => ⟨_, rfl, q⟩).cast (by
      unfold tidyN
      rw [if_pos c1]
      by_cases c : rawL hp 0 = some z
      · rw [if_pos c, decide_eq_true c]; rfl
      · rw [if_neg c, decide_eq_false c]; rfl)) (RT.same q)
  · refine ss_if (k := false) (evt_test (tl.cast (by rw [decide_eq_false c1]))) (fun z => nomatch z) fun _ => ?_
    refine m_next ?_
    dsimp only
    refine x_set (n_groupings pre (eva2 (ev_var (v := encB b)) (ev_var (v := encH hp))) fun A h' t l => ?_)
    have p1 : 1 ≤ 2 ^ hp.length := Nat.one_le_two_pow
    have ew : ((2 ^ hp.length : Nat) - 1 : Int) = ((2 ^ hp.length - 1 : Nat) : Int) := by omega
    refine s_ret (v := .int (tidyN b hp z)) ((g_many t (n := 2 ^ hp.length - 1) (fin_inv pre z hz) (ev_var (v := .ref A.a)) ((g_fld t (ev_var (v := .ref A.a)) rfl).cast (by rw [ew])) (ev_var (v := .str z))).cast (by unfold tidyN; rw [if_neg c1])) (RT.less l q)
end DL
namespace DL
open PySem PySem.Spec PyProof.Rows L2
theorem x_lstHG {ρ : Sl} {h : Hv} {aa : AD} {E : PX} {Q : PV} (q : aa ρ h (fun vs h1 => vs.length ≤ sizeLine ∧ ∀ p, h1 p = none → Q (.ref p) (put h1 p (.lst vs))) E) : dLstH aa ρ h Q E := q
section
variable {ρ : Sl} {h : Hv} {E : PX} {D : AE}
theorem s_extP {dl dx : ED} {vs us : List Val} {r : Addr} (ho : EvE ρ h E dl (.ref r)) (e : h r = some (.lst vs)) (hx : EvE ρ h E dx (.lst us)) (hl : vs.length + us.length ≤ sizeLine) (q : D.nx ρ (put h r (.lst (vs ++ us)))) : sExpr (dBM "list" fExtend dl (aCons dx aNil)) ρ h D E := ho _ ⟨by simp only [tyA, e], eva1 hx _ (by
  show match h r, listOf (.lst us) h with | some (.lst vs), some us => vs.length + us.length ≤ sizeLine ∧ D.nx ρ (put h r (.lst (vs ++ us))) | _, _ => False
  rw [e]
  exact ⟨hl, q⟩)⟩
theorem f_addTG {xs ys : List Val} (hl : xs.length + ys.length ≤ sizeLine) : EvF h fAdd (.tup xs) (.tup ys) (.tup (xs ++ ys)) := fun Q q => ⟨hl, q⟩
theorem ev_lowG {m : Nat} {d : ED} (hm : m < 256) (hd : EvE ρ h E d (.int (m : Int))) : EvE ρ h E (dBin fBand d (dUn fNeg d)) (.int ((lowN m : Nat) : Int)) := ev_bin hd (ev_neg hd) fun Q q => by
  show Q (.int (Builtin.bitAnd (m : Int) (-(m : Int)))) h
  rw [low_eq hm]; exact q
end
theorem encTs_len (r : List Tree) : (encTs r).length = r.length := by rw [encTs_map, List.length_map]
theorem take_flat {α β : Type} {l : List α} {f : α → List β} {j : Nat} (hj : j < l.length) : (l.take (j + 1)).flatMap f = (l.take j).flatMap f ++ f l[j] := by
  rw [← List.take_append_getElem hj, List.flatMap_append]
  simp
theorem take_flat_le {α β : Type} (l : List α) (f : α → List β) (j : Nat) : ((l.take j).flatMap f).length ≤ (l.flatMap f).length := by
  conv => rhs; rw [← List.take_append_drop j l, List.flatMap_append, List.length_append]
  omega
set_option maxHeartbeats 2000000 in
theorem bo_Groupings_rows (G : Gx) (N : List Str) (hN : N.length = 8) (d : Nat) : ∀ as h Q E, as.length = 2 → SR_Groupings_rows G (d + 1) as h Q E → den_Groupings_rows G (SR_Groupings_trees G d) (SR_Groupings_block_trees G d) (SR_Groupings_rows G d) (startA N as) h (endsR Q) (RX E) := by
  rintro as h0 Q E - ⟨A, b, hp, ms, ws, m, rfl, g, hm, hk, q⟩
  unfold den_Groupings_rows
  simp only [startA, hN]
  have m3 := g.m32 hm
  have n4 := names_len g.wf
  have er : (famG b hp ms (d + 1)).rw m = if m = 0 then [[]] else (partsN m).flatMap fun p => if p &&& lowN m ≠ 0 then ((famG b hp ms d).bl p).flatMap fun t => ((famG b hp ms d).rw (m ^^^ p)).map fun r => t :: r else [] := rfl
  by_cases c : m = 0
  · subst c
    refine ss_yes (evt_not (k := false) ((evt_truthN (n := 0) (ev_var (v := .int ((0 : Nat) : Int)))).cast rfl)) ?_
    refine s_ret (v := .lst (((famG b hp ms (d + 1)).rw 0).map encRw)) (EvE.cast (ev_lst (vs := [.tup []]) (eva1 (ev_tup eva_nil (Nat.zero_le _))) (by rw [sizeLine_eq]; simp)) (by rw [er, if_pos rfl]; rfl)) (RT.same q)
  · refine ss_no ((evt_not (k := true) ((evt_truthN (n := m) (ev_var (v := .int (m : Int)))).cast (decide_eq_true c))).cast rfl) ?_
    rw [er, if_neg c] at q
    have lenR := (fam_len (b := b) (hp := hp) (ms := ms) n4 (d + 1)).2.2 m m3
    rw [er, if_neg c] at lenR
    obtain ⟨F, eF⟩ : ∃ F : Nat → List (List Tree), F = fun p => if p &&& lowN m ≠ 0 then ((famG b hp ms d).bl p).flatMap fun t => ((famG b hp ms d).rw (m ^^^ p)).map fun r => t :: r else [] := ⟨_, rfl⟩
    rw [← eF] at q lenR
    have lR := (tab_le m m3).2.1
    refine x_par2W (x_evW (ev_lowG (by omega) (ev_var (v := .int (m : Int)))) (x_lstHG ⟨by simp, fun p np => ?_⟩))
    show sSeq _ _ [some (.ref A.a), some (.int (m : Int)), some (.int ((lowN m : Nat) : Int)), some (.ref p), none, none, none, none] _ _ _
    have gp : ∀ vs, GFull G (put h0 p (.lst vs)) A b hp ms ws := fun vs => g.sub (Sub.put np)
    refine ss_for (evi_it (ev_call (u := .lst ((partsN m).map fun (p : Nat) => .int (p : Int))) (eva1 (ev_var (v := .int (m : Int)))) rfl fun Q q => ⟨m, rfl, by omega, q⟩) rfl) fun dd hdd => ?_
    refine for_lstG (xs := partsN m) (f := fun (p : Nat) => Val.int (p : Int)) (fun j ρ h => h = put h0 p (.lst (((partsN m).take j).flatMap F |>.map encRw)) ∧ ∃ x4 x5 x6 x7 : Option Val, ρ = [some (.ref A.a), some (.int (m : Int)), some (.int ((lowN m : Nat) : Int)), some (.ref p), x4, x5, x6, x7]) ?_ ?_ ⟨rfl, none, none, none, none, rfl⟩
    · rintro ρ h ⟨rfl, x4, x5, x6, x7, rfl⟩
      dsimp only
      rw [List.take_length]
      exact s_ret (ev_var (v := .ref p)) (RT.frz (Lss.put np (fun z => nomatch z)) put_same np q)
    · rintro j jl ρ h ⟨rfl, x4, x5, x6, x7, rfl⟩
      refine ⟨_, rfl, fun N1 hN1 => ?_⟩
      subst hdd
      obtain ⟨pt, ept⟩ : ∃ pt, pt = (partsN m)[j] := ⟨_, rfl⟩
      have hpm : pt ∈ partsN m := by rw [ept]; exact List.getElem_mem jl
      rw [← ept]
      have tk := take_flat (f := F) jl
      rw [← ept] at tk
      obtain ⟨-, sl, l1, l2, l3⟩ := set_two (by omega) hpm
      obtain ⟨p0, s⟩ := mem_parts.mp hpm
      have eX := minus_xor (by omega) s
      have le := sub_le s
      have hpt : inH hp pt := Nat.lt_of_le_of_lt le hm
      have hpx : inH hp (m ^^^ pt) := Nat.lt_of_le_of_lt (by omega) hm
      have m3' : pt < 32 := g.m32 hpt
      have m3x : m ^^^ pt < 32 := g.m32 hpx
      have gq := gp ((((partsN m).take j).flatMap F).map encRw)
      have tl := take_flat_le (partsN m) F j
      refine s_if (evt_truthN (ev_bin (ev_var (v := .int (pt : Int))) (ev_var (v := .int ((lowN m : Nat) : Int))) (f_band pt (lowN m)))) (fun k => ?_) fun k => ?_
      · have k := of_decide_eq_true k
        have eFp : F pt = ((famG b hp ms d).bl pt).flatMap fun t => ((famG b hp ms d).rw (m ^^^ pt)).map fun r => t :: r := by rw [eF]; exact if_pos k
        refine ss_set (e_rowsG gq hpx (by omega) (ev_var (v := .ref A.a)) (ev_bin (ev_var (v := .int (m : Int))) (ev_var (v := .int (pt : Int))) (m_xor (by omega) s))) ?_
        have lb := Nat.le_trans ((fam_len (b := b) (hp := hp) (ms := ms) n4 d).2.1 pt m3' p0) (tab_le pt m3').1
        have lr := Nat.le_trans ((fam_len (b := b) (hp := hp) (ms := ms) n4 d).2.2 (m ^^^ pt) m3x) (tab_le (m ^^^ pt) m3x).2.1
        have tR1 : ((famG b hp ms d).bl pt).length * ((famG b hp ms d).rw (m ^^^ pt)).length ≤ 16777216 := by
          have a1 := (fam_len (b := b) (hp := hp) (ms := ms) n4 d).2.1 pt m3' p0
          have a2 := (fam_len (b := b) (hp := hp) (ms := ms) n4 d).2.2 (m ^^^ pt) m3x
          refine Nat.le_trans (Nat.mul_le_mul a1 a2) ?_
          have : ∀ m : Nat, m < 32 → ∀ p ∈ partsN m, tB (setI p).length * tR (setI (m ^^^ p)).length ≤ 16777216 := by decide +kernel
          exact this m m3 pt hpm
        have ex := ev_lc2F (ρ := [some (.ref A.a), some (.int (m : Int)), some (.int ((lowN m : Nat) : Int)), some (.ref p), some (.int (pt : Int)), some (.lst (((famG b hp ms d).rw (m ^^^ pt)).map encRw)), x6, x7]) (h := put h0 p (.lst ((((partsN m).take j).flatMap F).map encRw))) (E := RX E) (t := .nm 6) (t1 := .nm 7) (tt := tTrue) (vs := [6, 7]) (vs1 := [7]) (di := dIt (dMeth (G.C "Groupings") "block_trees" 2 (SR_Groupings_block_trees G d) (dVar 0) (aCons (dVar 4) aNil))) (di1 := dIt (dVar 5)) (te := dBin fAdd (dTup (aCons (dVar 6) aNil)) (dVar 7))
          ((famG b hp ms d).bl pt) Tree.enc (fun _ => true) (fun _ => (famG b hp ms d).rw (m ^^^ pt)) (fun _ => encRw) (fun t r => encRw (t :: r)) ((famG b hp ms d).rw (m ^^^ pt)).length (by rw [sizeLine_eq]; exact tR1)
          (evi_it (e_blockG gq p0 hpt (by omega) (ev_var (v := .ref A.a)) (ev_var (v := .int (pt : Int)))) rfl) fun t ht => ⟨Nat.le_refl _, _, rfl, fun h' sb Q q => q, fun _ => ⟨fun h' sb => evi_it (ev_var (v := .lst (((famG b hp ms d).rw (m ^^^ pt)).map encRw))) rfl, fun r hr => ⟨_, rfl, fun h' sb => ?_⟩⟩⟩
        · have e1 : (((famG b hp ms d).bl pt).filter fun _ => true) = (famG b hp ms d).bl pt := List.filter_eq_self.mpr fun _ _ => rfl
          rw [e1] at ex
          refine s_extP (r := p) (ev_var (v := .ref p)) put_same ex ?_ (hN1 _ _ ⟨?_, _, _, _, _, rfl⟩)
          · have h2 : (((famG b hp ms d).bl pt).flatMap fun t => ((famG b hp ms d).rw (m ^^^ pt)).map fun r => encRw (t :: r)).length ≤ 16777216 - 50000 := by
              refine Nat.le_trans (flat_le (n := ((famG b hp ms d).rw (m ^^^ pt)).length) fun t _ => by rw [List.length_map]; exact Nat.le_refl _) ?_
              have a1 := (fam_len (b := b) (hp := hp) (ms := ms) n4 d).2.1 pt m3' p0
              have a2 := (fam_len (b := b) (hp := hp) (ms := ms) n4 d).2.2 (m ^^^ pt) m3x
              refine Nat.le_trans (Nat.mul_le_mul a1 a2) ?_
              have : ∀ m : Nat, m < 32 → ∀ p ∈ partsN m, tB (setI p).length * tR (setI (m ^^^ p)).length ≤ 16777216 - 50000 := by decide +kernel
              exact this m m3 pt hpm
            rw [List.length_map, sizeLine_eq]
            omega
          · rw [put_put, tk, List.map_append, eFp]
            congr 3
            rw [List.map_flatMap]
            congr 1
            funext t
            rw [List.map_map]
            rfl
        · have rl : r.length ≤ 100 := by
            have := ((fam_ok (b := b) (hp := hp) (ms := ms) d).2.2 _ l1 r hr).sz
            have := setI_len (m ^^^ pt)
            omega
          exact ev_bin (ev_tup (eva1 (ev_var (v := t.enc))) (by rw [sizeLine_eq]; simp)) (ev_var (v := encRw r)) (f_addTG (by rw [encTs_len, sizeLine_eq]; simp; omega))
      · have k := of_decide_eq_false k
        have eFp : F pt = [] := by rw [eF]; exact if_neg k
        refine hN1 _ _ ⟨?_, _, _, _, _, rfl⟩
        rw [tk, eFp, List.append_nil]
end DL
namespace DL
open PySem PySem.Spec PyProof.Rows L2
theorem trP_snoc {b : Book} {hp : Heap'} {z : Str} {r ts : List Tree} {t : Tree} : trP b hp z r (ts ++ [t]) = trP b hp z r ts ++ (if (Tree.node z (t :: r)).land b hp = some z then [Tree.node z (t :: r)] else []) := by
  unfold trP
  rw [List.map_append, List.filter_append, List.map_singleton]
  congr 1
  by_cases c : (Tree.node z (t :: r)).land b hp = some z
  · rw [if_pos c]; simp [c]
  · rw [if_neg c]; simp [c]
theorem trP_le {b : Book} {hp : Heap'} {z : Str} {r ts : List Tree} {j : Nat} : (trP b hp z r (ts.take j)).length ≤ ts.length := by
  unfold trP
  refine Nat.le_trans (List.length_filter_le _ _) ?_
  rw [List.length_map, List.length_take]; omega
theorem tabTR : ∀ m : Nat, m < 32 → ∀ p ∈ partsN m, (tR (setI (m ^^^ p)).length + 1) * tB (setI p).length ≤ 8000000 := by decide +kernel
set_option maxHeartbeats 2000000 in
theorem bo_Groupings_trees (G : Gx) (N : List Str) (hN : N.length = 9) (d : Nat) : ∀ as h Q E, as.length = 3 → SR_Groupings_trees G (d + 1) as h Q E → den_Groupings_trees G (SR_Groupings_trees G d) (SR_Groupings_block_trees G d) (SR_Groupings_rows G d) (startA N as) h (endsR Q) (RX E) := by
  rintro as h0 Q E - ⟨A, b, hp, ms, ws, m, z, rfl, g, m0, hm, hz, hk, q⟩
  unfold den_Groupings_trees
  simp only [startA, hN]
  have m3 := g.m32 hm
  have n4 := names_len g.wf
  obtain ⟨F, eF⟩ : ∃ F : Nat → List Tree, F = fun p => if p &&& lowN m ≠ 0 ∧ p ≠ m then ((famG b hp ms d).rw (m ^^^ p)).flatMap fun r => trP b hp z r ((famG b hp ms d).bl p) else [] := ⟨_, rfl⟩
  have er : (famG b hp ms (d + 1)).tr m z = (partsN m).flatMap F := by rw [eF]; rfl
  have lenT := (fam_len (b := b) (hp := hp) (ms := ms) n4 (d + 1)).1 m z m3
  rw [er] at q lenT
  have lT := (tab_le m m3).2.2
  refine x_par2W (x_evW (ev_lowG (by omega) (ev_var (v := .int (m : Int)))) (x_lstHG ⟨by simp, fun p np => ?_⟩))
  show sSeq _ _ [some (.ref A.a), some (.int (m : Int)), some (.str z), some (.int ((lowN m : Nat) : Int)), some (.ref p), none, none, none, none] _ _ _
  have gp : ∀ vs, GFull G (put h0 p (.lst vs)) A b hp ms ws := fun vs => g.sub (Sub.put np)
  refine ss_for (evi_it (ev_call (u := .lst ((partsN m).map fun (p : Nat) => .int (p : Int))) (eva1 (ev_var (v := .int (m : Int)))) rfl fun Q q => ⟨m, rfl, by omega, q⟩) rfl) fun dd hdd => ?_
  refine for_lstG (xs := partsN m) (f := fun (p : Nat) => Val.int (p : Int)) (fun j ρ h => h = put h0 p (.lst (((partsN m).take j).flatMap F |>.map Tree.enc)) ∧ ∃ x5 x6 x7 x8 : Option Val, ρ = [some (.ref A.a), some (.int (m : Int)), some (.str z), some (.int ((lowN m : Nat) : Int)), some (.ref p), x5, x6, x7, x8]) ?_ ?_ ⟨rfl, none, none, none, none, rfl⟩
  · rintro ρ h ⟨rfl, x5, x6, x7, x8, rfl⟩
    dsimp only
    rw [List.take_length]
    exact s_ret (ev_var (v := .ref p)) (RT.frz (Lss.put np (fun z => nomatch z)) put_same np q)
  rintro j jl ρ h ⟨rfl, x5, x6, x7, x8, rfl⟩
  refine ⟨_, rfl, fun N1 hN1 => ?_⟩
  subst hdd
  obtain ⟨pt, ept⟩ : ∃ pt, pt = (partsN m)[j] := ⟨_, rfl⟩
  have hpm : pt ∈ partsN m := by rw [ept]; exact List.getElem_mem jl
  rw [← ept]
  have tk := take_flat (f := F) jl
  rw [← ept] at tk
  obtain ⟨-, sl, l1, l2, l3⟩ := set_two (by omega) hpm
  obtain ⟨p0, s⟩ := mem_parts.mp hpm
  have eX := minus_xor (by omega) s
  have le := sub_le s
  have hpt : inH hp pt := Nat.lt_of_le_of_lt le hm
  have hpx : inH hp (m ^^^ pt) := Nat.lt_of_le_of_lt (by omega) hm
  have m3' : pt < 32 := g.m32 hpt
  have m3x : m ^^^ pt < 32 := g.m32 hpx
  obtain ⟨acc, eacc⟩ : ∃ acc, acc = ((partsN m).take j).flatMap F := ⟨_, rfl⟩
  rw [← eacc] at tk ⊢
  have la : acc.length ≤ 50000 := by
    have := take_flat_le (partsN m) F j
    rw [eacc]; omega
  refine s_if (k := decide (pt &&& lowN m ≠ 0) && !decide (pt = m)) (evt_and (evt_truthN (ev_bin (ev_var (v := .int (pt : Int))) (ev_var (v := .int ((lowN m : Nat) : Int))) (f_band pt (lowN m)))) fun _ => evt_test (ev_bin (ev_var (v := .int (pt : Int))) (ev_var (v := .int (m : Int))) m_neNN)) (fun k => ?_) fun k => ?_
  rotate_left
  · have eFp : F pt = [] := by
      rw [eF]
      refine if_neg fun c => ?_
      rw [decide_eq_true c.1, decide_eq_false c.2] at k
      cases k
    exact hN1 _ _ ⟨by rw [tk, eFp, List.append_nil], _, _, _, _, rfl⟩
  rw [Bool.and_eq_true, decide_eq_true_eq, Bool.not_eq_true', decide_eq_false_iff_not] at k
  obtain ⟨xs, ys, ex⟩ := setI_neT l1 (xor_pos (by omega) hpm k.2)
  have l4 : 1 ≤ (setI (m ^^^ pt)).length := by rw [ex]; simp
  obtain ⟨R, eR⟩ : ∃ R, R = (famG b hp ms d).rw (m ^^^ pt) := ⟨_, rfl⟩
  obtain ⟨B, eB⟩ : ∃ B, B = (famG b hp ms d).bl pt := ⟨_, rfl⟩
  have eFp : F pt = R.flatMap fun r => trP b hp z r B := by rw [eF, eR, eB]; exact if_pos k
  have lRB : (R.length + 1) * B.length ≤ 8000000 := by
    have a1 := (fam_len (b := b) (hp := hp) (ms := ms) n4 d).2.1 pt m3' p0
    have a2 := (fam_len (b := b) (hp := hp) (ms := ms) n4 d).2.2 (m ^^^ pt) m3x
    rw [eR, eB]
    exact Nat.le_trans (Nat.mul_le_mul (Nat.add_le_add_right a2 1) a1) (tabTR m m3 pt hpm)
  refine so_for (evi_it (EvE.cast (e_rowsG (k := d) (gp (acc.map Tree.enc)) hpx (by omega) (ev_var (v := .ref A.a)) (ev_bin (ev_var (v := .int (m : Int))) (ev_var (v := .int (pt : Int))) (m_xor (by omega) s))) (by rw [← eR])) rfl) fun d2 hd2 => ?_
  refine for_lstG (xs := R) (f := encRw) (fun i ρ h => h = put h0 p (.lst ((acc ++ (R.take i).flatMap fun r => trP b hp z r B).map Tree.enc)) ∧ ∃ x6 x7 x8 : Option Val, ρ = [some (.ref A.a), some (.int (m : Int)), some (.str z), some (.int ((lowN m : Nat) : Int)), some (.ref p), some (.int (pt : Int)), x6, x7, x8]) ?_ ?_ ⟨by simp, x6, x7, x8, rfl⟩
  · rintro ρ h ⟨rfl, x6, x7, x8, rfl⟩
    rw [List.take_length]
    exact hN1 _ _ ⟨by rw [tk, eFp], _, _, _, _, rfl⟩
  rintro i il ρ h ⟨rfl, x6, x7, x8, rfl⟩
  refine ⟨_, rfl, fun N2 hN2 => ?_⟩
  subst hd2
  obtain ⟨r, er'⟩ : ∃ r, r = R[i] := ⟨_, rfl⟩
  have hr : r ∈ R := by rw [er']; exact List.getElem_mem il
  have tk2 := take_flat (f := fun r => trP b hp z r B) il
  rw [← er'] at tk2
  rw [← er']
  obtain ⟨acc2, eacc2⟩ : ∃ acc2, acc2 = acc ++ (R.take i).flatMap fun r => trP b hp z r B := ⟨_, rfl⟩
  have la2 : acc2.length ≤ 50000 + R.length * B.length := by
    rw [eacc2, List.length_append]
    have h1 := take_flat_le R (fun r => trP b hp z r B) i
    have h2 := flat_le (l := R) (f := fun r => trP b hp z r B) (n := B.length) fun r _ => by
      have := trP_le (b := b) (hp := hp) (z := z) (r := r) (ts := B) (j := B.length)
      rwa [List.take_length] at this
    omega
  rw [← eacc2]
  have hRW := (fam_ok (b := b) (hp := hp) (ms := ms) d).2.2 _ l1 r (by rw [← eR]; exact hr)
  refine so_for (evi_it (EvE.cast (e_blockG (k := d) (gp (acc2.map Tree.enc)) p0 hpt (by omega) (ev_var (v := .ref A.a)) (ev_var (v := .int (pt : Int)))) (by rw [← eB])) rfl) fun d3 hd3 => ?_
  refine for_lstG (xs := B) (f := Tree.enc) (fun l ρ h => h = put h0 p (.lst ((acc2 ++ trP b hp z r (B.take l)).map Tree.enc)) ∧ ∃ x7 x8 : Option Val, ρ = [some (.ref A.a), some (.int (m : Int)), some (.str z), some (.int ((lowN m : Nat) : Int)), some (.ref p), some (.int (pt : Int)), some (encRw r), x7, x8]) ?_ ?_ ⟨by rw [List.take_zero]; simp [trP], x7, x8, rfl⟩
  · rintro ρ h ⟨rfl, x7, x8, rfl⟩
    rw [List.take_length]
    exact hN2 _ _ ⟨by rw [tk2, eacc2, List.append_assoc], _, _, _, rfl⟩
  rintro l ll ρ h ⟨rfl, x7, x8, rfl⟩
  refine ⟨_, rfl, fun N3 hN3 => ?_⟩
  subst hd3
  obtain ⟨t, et⟩ : ∃ t, t = B[l] := ⟨_, rfl⟩
  have ht : t ∈ B := by rw [et]; exact List.getElem_mem ll
  have tk3 : B.take (l + 1) = B.take l ++ [t] := by rw [et]; exact (List.take_append_getElem ll).symm
  rw [← et]
  have hTM := (fam_ok (b := b) (hp := hp) (ms := ms) d).2.1 _ l2 t (by rw [← eB]; exact ht)
  have w := trM_node (z := z) (by omega) hz hpm k.2 hTM hRW
  have l8 := setI_len m
  have hsz := w.sz
  have hht := w.ht
  have rl : r.length ≤ 100 := by have := hRW.sz; have := setI_len (m ^^^ pt); omega
  have hok : TrOk b hp (.node z (t :: r)) := ⟨w.ok, fun n hn => inH_rg hm n ((w.th.mem_iff).mp hn)⟩
  have lB : (trP b hp z r (B.take l)).length ≤ B.length := trP_le
  refine ss_set (v := (Tree.node z (t :: r)).enc) (EvE.cast (ev_tup (eva2 (ev_var (v := .str z)) (ev_bin (ev_tup (eva1 (ev_var (v := t.enc))) (by rw [sizeLine_eq]; simp)) (ev_var (v := encRw r)) (f_addTG (by rw [encTs_len, sizeLine_eq]; simp; omega)))) (by rw [sizeLine_eq]; simp)) (by rw [Tree.enc, encTs]; rfl)) ?_
  have gq := gp ((acc2 ++ trP b hp z r (B.take l)).map Tree.enc)
  refine s_if (evt_test (ev_bin (ev_call (u := encO ((Tree.node z (t :: r)).land b hp)) (eva_cons (g_fld gq.t (ev_var (v := .ref A.a)) rfl) (eva2 (g_fld gq.t (ev_var (v := .ref A.a)) rfl) (ev_var (v := (Tree.node z (t :: r)).enc)))) rfl fun Q q => ⟨b, hp, _, rfl, g.wf, hok, by omega, by omega, q⟩) (ev_var (v := .str z)) fun Q q => fEq_encOW q)) (fun c => ?_) fun c => ?_
  · have c := of_decide_eq_true c
    have hRB : R.length * B.length + B.length = (R.length + 1) * B.length := by rw [Nat.add_mul, Nat.one_mul]
    refine s_appG (r := p) (ev_var (v := .ref p)) put_same (by rw [List.length_map, List.length_append, sizeLine_eq]; omega) (ev_var (v := (Tree.node z (t :: r)).enc)) (hN3 _ _ ⟨?_, _, _, rfl⟩)
    rw [put_put, tk3, trP_snoc, if_pos c, ← List.append_assoc, List.map_append (l₂ := [Tree.node z (t :: r)])]
    rfl
  · have c := of_decide_eq_false c
    refine hN3 _ _ ⟨?_, _, _, rfl⟩
    rw [tk3, trP_snoc, if_neg c, List.append_nil]
end DL
namespace DL
open PySem PySem.Spec PySem.W PyProof.Rows L2 L2.DX
section
variable {X : Cx}
end
section
variable {X : Cx}
end
end DL
namespace DL
open PySem PySem.Spec PyProof.Rows L2
section
variable {X : Cx} {pins : List (Addr × Obj)} {σ : L2.St} {H : Hp} {s : Shared} {h : Hv}
end
end DL
namespace DL
open PySem PySem.Spec PyProof.Rows L2 L2.DX
section
variable {X : Cx} {B : Bs} {e : Expr} {d : ED} {p ap cp pos : Pos}
end
end DL
namespace DL
open PySem PySem.Spec PySem.W PyProof.Rows L2 L2.DX
@[simp] def sDAugA (dd dk : ED) (f : F2) (de : ED) : SD := fun ρ h D E => dd ρ h (fun d h1 => dk ρ h1 (fun k h2 => match dgetA d k h2 with
  | some (some v) => de ρ h2 (fun w h3 => f v w h3 (fun z h4 => match dputA d k z h4 with
    | some h5 => D.nx ρ h5
    | none => False)) E
  | _ => False) E) E
section
variable {X : Cx} {B : Bs} {o i e : Expr} {pos tpos : Pos} {dd di de : ED}
end
section
variable {X : Cx}
end
section
variable {X : Cx} {B : Bs} {e : Expr} {d : ED} {p ap cp pos : Pos}
end
end DL
namespace DL
open PySem PySem.Spec PyProof.Rows L2
section
variable (G : Gx)
end
end DL
namespace DL
open PySem PySem.Spec PyProof.Rows L2
end DL
namespace DL
open PySem PySem.Spec PyProof.Rows L2
inductive Un (G : Gx) (b : Book) (h : Hv) : St → List (Val × Addr) → List Deed → Prop
  | nil {s : St} : Un G b h s [] []
  | snoc {s : St} {us : List (Val × Addr)} {M : List Deed} {d : Deed} {c : Addr} : Un G b h (d.does s) us M → StAt G h c (d.does s) → d.ok → d.ref b s = none → Un G b h s (us ++ [(d.enc, c)]) (d :: M)
theorem Un.keep {G : Gx} {b : Book} {h h' : Hv} {us : List (Val × Addr)} {M : List Deed} {s : St} (x : Un G b h s us M) (k : KeepSt G h h') : Un G b h' s us M := by
  induction x with
  | nil => exact .nil
  | snoc _ t ok hr ih => exact .snoc ih (k _ _ t) ok hr
section
variable (G : Gx)
end
end DL
namespace DL
open PySem PySem.Spec PyProof.Rows L2
end DL
namespace DL
open PySem PySem.Spec PyProof.Rows L2
end DL
namespace DL
open PySem PySem.Spec PyProof.Rows L2
section
variable {ρ : Sl} {h : Hv} {E : PX}
end
end DL
namespace DL
open PySem PySem.Spec PyProof.Rows L2
section
variable {ρ : Sl} {h : Hv} {E : PX} {d d2 : ED} {p : Addr} {s : St} {n : Int}
end
end DL
namespace DL
open PySem PySem.Spec PyProof.Rows L2
section
variable {ρ : Sl} {h : Hv} {E : PX} {d d1 d2 d3 : ED} {p : Addr} {s : St} {n : Int} {b : Book}
end
end DL
namespace DL
open PySem PySem.Spec PyProof.Rows L2
section
variable {ρ : Sl} {h : Hv} {E : PX} {d dv : ED} {p : Addr} {s : St} {D : AE} {s2 : SD}
end
section
variable {ρ : Sl} {h : Hv} {E : PX} {d : ED}
theorem f_addS {x y : Str} (hl : x.length + y.length ≤ sizeLine) : EvF h fAdd (.str x) (.str y) (.str (x ++ y)) := fun Q q => ⟨hl, q⟩
theorem js_step {y : Str} {ds : List ED} {acc : Str} {Q : Str → Hv → Prop} (hd : EvE ρ h E d (.str y)) (hl : (acc ++ y).length ≤ sizeLine) (q : dJsL ds (acc ++ y) ρ h Q E) : dJsL (d :: ds) acc ρ h Q E := hd _ ⟨hl, q⟩
end
def w1 : Str := " here, "
def w2 : Str := " sent, "
def w3 : Str := " false"
theorem sl_app (a b : Str) : (a ++ b).length = a.length + b.length := Str.length_append a b
end DL
namespace DL
open PySem PySem.Spec PyProof.Rows L2
section
variable {G : Gx} {ρ : Sl} {h : Hv} {E : PX} {d dl dx : ED} {a : Addr} {b : Book} {s : St} {A : Ay} {ds us : List (Val × Addr)} {D : AE}
end
end DL
namespace DL
open PySem PySem.Spec PyProof.Rows L2
end DL
namespace DL
open PySem PySem.Spec PyProof.Rows L2
section
variable {G : Gx} {ρ : Sl} {h h' : Hv} {E : PX} {d : ED} {a p c : Addr} {b : Book} {s : St} {A : Ay} {ds us : List (Val × Addr)}
end
end DL
namespace DL
open PySem PySem.Spec PyProof.Rows L2
def wordO : Option Str → Str
  | none => "-"
  | some z => z
section
variable (G : Gx)
end
end DL
namespace DL
open PySem PySem.Spec PyProof.Rows L2
end DL
namespace DL
open PySem PySem.Spec PyProof.Rows L2
theorem tl_txt (n : Nat) : TL.tl (txtI (n : Int)) = TL.numL n := TL.tl_num n
theorem txt_free {i : Int} (h : 0 ≤ i) {c : Nat} (hc : c < 48 ∨ 57 < c) : c ∉ TL.tl (txtI i) := by
  obtain ⟨n, rfl⟩ := Int.eq_ofNat_of_zero_le h
  rw [tl_txt]
  exact TL.numL_free hc
theorem name_sign {z : Str} (h : isName (.str z) = true) : 1 ≤ z.length ∧ z.length ≤ 8 ∧ ∀ c ∈ TL.tl z, 97 ≤ c ∧ c ≤ 122 := by
  unfold isName at h
  simp only [Bool.and_eq_true, decide_eq_true_eq, List.all_eq_true] at h
  refine ⟨h.1.1, h.1.2, fun c hc => ?_⟩
  have h2 := h.2 c hc
  have : ∀ x ∈ letters, 97 ≤ x ∧ x ≤ 122 := by decide +kernel
  exact this c h2
theorem name_free {z : Str} (h : isName (.str z) = true) {c : Nat} (hc : c < 97 ∨ 122 < c) : c ∉ TL.tl z := fun hm => by
  have := (name_sign h).2.2 c hm
  omega
theorem names_name {b : Book} (wf : WFB b) {z : Str} (h : z ∈ b.names) : isName (.str z) = true := by
  obtain ⟨l, hl, rfl⟩ := List.mem_map.mp h
  exact wf.nm l hl
theorem tl_len (x : Str) : x.length = (TL.tl x).length := TL.len_tl x
theorem joinL_len (s : Nat) : ∀ ps : List (List Nat), (TL.joinL [s] ps).length ≤ (ps.map fun p => p.length + 1).sum
  | [] => Nat.zero_le _
  | [p] => by rw [TL.joinL]; simp
  | p :: q :: r => by
    rw [TL.joinL, List.length_append, List.length_append, List.map_cons, List.sum_cons]
    have := joinL_len s (q :: r)
    simp only [List.length_cons, List.length_nil] at this ⊢
    omega
theorem sl_words (ws : List Str) : (Txt.join " " ws).length ≤ (ws.map fun r => r.length + 1).sum := by
  have e1 : TL.tl " " = [32] := by decide +kernel
  rw [tl_len, TL.join_eq, TL.tl_join, e1]
  refine Nat.le_trans (joinL_len 32 _) (Nat.le_of_eq ?_)
  rw [List.map_map]
  congr 1
theorem txt_len5 {i : Int} (h0 : 0 ≤ i) (h : i ≤ 10000) : (txtI i).length ≤ 6 := by
  obtain ⟨n, rfl⟩ := Int.eq_ofNat_of_zero_le h0
  unfold txtI
  rw [PySem.ofString_length]
  exact int_text_length_le10 (k := 5) (by decide) (by rw [Int.natAbs_natCast]; exact Nat.lt_of_le_of_lt (show n ≤ 10000 by omega) (by decide))
section
variable {b : Book} {d : Deed}
theorem kind_words : ∀ z ∈ (["take_in", "make", "send", "find", "-", "--", "land", "pact"] : List Str), z.length ≤ 7 ∧ 32 ∉ TL.tl z ∧ 10 ∉ TL.tl z ∧ TL.tl z ≠ [] ∧ 63 ∉ TL.tl z := by decide +kernel
structure Wd (z : Str) : Prop where
  l : z.length ≤ 8
  s : 32 ∉ TL.tl z
  n : 10 ∉ TL.tl z
theorem Wd.kind {z : Str} (h : z ∈ (["take_in", "make", "send", "find", "-", "--", "land", "pact"] : List Str)) : Wd z := by
  obtain ⟨h1, h2, h3, -⟩ := kind_words z h
  exact ⟨by omega, h2, h3⟩
theorem Wd.name {z : Str} (h : isName (.str z) = true) : Wd z := ⟨(name_sign h).2.1, name_free h (.inl (by decide)), name_free h (.inl (by decide))⟩
theorem Wd.num {i : Int} (h0 : 0 ≤ i) (h : i ≤ 10000) : Wd (txtI i) := ⟨by have := txt_len5 h0 h; omega, txt_free h0 (.inl (by decide)), txt_free h0 (.inl (by decide))⟩
theorem Wd.o {l : Option Str} (wf : WFB b) (h : ∀ z, l = some z → z ∈ b.names) : Wd (wordO l) := by
  cases l with
  | none => exact Wd.kind (by decide)
  | some z => exact Wd.name (names_name wf (h z rfl))
end
section
variable {b : Book}
end
end DL
namespace DL
open PySem PySem.Spec PyProof.Rows L2
section
variable {ρ : Sl} {h : Hv} {E : PX} {d da db dc dl : ED}
theorem f_leI {i j : Int} : EvF h fLe (.int i) (.int j) (.bl (decide (i ≤ j))) := fun Q q => q
theorem log_ok4 {i : Int} (h0 : 0 ≤ i) (h : i ≤ 10000) : i.natAbs.log2 < 1920 := by
  obtain ⟨n, rfl⟩ := Int.eq_ofNat_of_zero_le h0
  rw [Int.natAbs_natCast]
  have : n < 16384 := by omega
  rcases Nat.eq_zero_or_pos n with e | e
  · rw [e]; decide
  · have := (Nat.log2_lt (by omega : n ≠ 0)).mpr (show n < 2 ^ 14 from this)
    omega
theorem ev_strI {i : Int} (hd : EvE ρ h E d (.int i)) (h0 : 0 ≤ i) (hi : i ≤ 10000) : EvE ρ h E (dCB fStrI (aCons d aNil)) (.str (txtI i)) := ev_cb (eva1 hd) fun Q q => ⟨log_ok4 h0 hi, q⟩
inductive EvJ (ρ : Sl) (h : Hv) (E : PX) : List ED → List Str → Prop
  | nil : EvJ ρ h E [] []
  | cons {d : ED} {y : Str} {ds : List ED} {ys : List Str} : EvE ρ h E d (.str y) → EvJ ρ h E ds ys → EvJ ρ h E (d :: ds) (y :: ys)
theorem EvJ.run {ds : List ED} {ys : List Str} (j : EvJ ρ h E ds ys) : ∀ (acc : Str) (Q : Str → Hv → Prop), acc.length + (ys.map fun y => y.length).sum ≤ sizeLine → Q (ys.foldl (· ++ ·) acc) h → dJsL ds acc ρ h Q E := by
  induction j with
  | nil => intro acc Q _ q; exact q
  | @cons d y ds ys hd _ ih =>
    intro acc Q hl q
    rw [List.map_cons, List.sum_cons] at hl
    refine js_step hd (by rw [sl_app]; omega) (ih _ _ (by rw [sl_app]; omega) q)
theorem ev_join {a : Str} {ys : List Str} (ho : EvE ρ h E da (.str a)) (hl : EvE ρ h E dl (.lst (ys.map .str))) (hb : (ys.map (·.length)).sum + ys.length * a.length ≤ 16777216) : EvE ρ h E (dBM "str" fJoin da (aCons dl aNil)) (.str (Txt.join a ys)) := fun Q q => ho _ ⟨rfl, eva1 hl _ (by
  show match seqOf (.lst (ys.map .str)) h with | some vs => (match strsOf vs with | some ys => (ys.map (·.length)).sum + ys.length * a.length ≤ 16777216 ∧ Q (.str (Txt.join a ys)) h | none => False) | none => False
  show match strsOf (ys.map .str) with | some ys => (ys.map (·.length)).sum + ys.length * a.length ≤ 16777216 ∧ Q (.str (Txt.join a ys)) h | none => False
  rw [strsOf_map]
  exact ⟨hb, q⟩)⟩
end
end DL
namespace DL
open PySem PySem.Spec PyProof.Rows L2
end DL
namespace DL
open PySem PySem.Spec PyProof.Rows L2
def Tree.isN : Tree → Bool
  | .leaf _ => false
  | .node _ _ => true
theorem evt_isTup {ρ : Sl} {h : Hv} {E : PX} {d : ED} {t : Tree} (hd : EvE ρ h E d t.enc) : EvT ρ h E (dTruth (dCB fIsi (aCons d (aCons (dC (.ty "tuple")) aNil)))) t.isN := by
  cases t with
  | leaf n => exact evt_truthB (ev_cb (eva2 hd ev_c) (c_isi (t := "int") (by rw [Tree.enc]; rfl) (by decide)))
  | node z ts => exact evt_truthB (ev_cb (eva2 hd ev_c) (c_isi (t := "tuple") (by rw [Tree.enc]; rfl) (by decide)))
theorem enc_nodeG (z : Str) (ts : List Tree) : (Tree.node z ts).enc = .tup [.str z, .tup (ts.map Tree.enc)] := by rw [Tree.enc, encTs_map]
theorem lands_mem {z : Str} {ts : List Tree} {t : Tree} (h : t ∈ ts) {y : Str} (hy : y ∈ t.lands) : y ∈ (Tree.node z ts).lands := by
  rw [Tree.lands, landsTs_map]
  exact List.mem_cons_of_mem _ (List.mem_flatMap.mpr ⟨t, h, hy⟩)
theorem things_mem {z : Str} {ts : List Tree} {t : Tree} (h : t ∈ ts) {y : Int} (hy : y ∈ t.things) : y ∈ (Tree.node z ts).things := by
  rw [Tree.things, thingsTs_map]
  exact List.mem_flatMap.mpr ⟨t, h, hy⟩
theorem size_in : ∀ {ts : List Tree} {t : Tree}, t ∈ ts → t.size ≤ sizeTs ts
  | u :: ts, t, h => by
    rw [sizeTs]
    rcases List.mem_cons.mp h with e | h
    · rw [e]; omega
    · have := size_in h; omega
theorem size_pos (t : Tree) : 1 ≤ t.size := by cases t <;> rw [Tree.size] <;> omega
theorem len_size : ∀ ts : List Tree, ts.length ≤ sizeTs ts
  | [] => Nat.le_refl _
  | t :: ts => by rw [sizeTs, List.length_cons]; have := len_size ts; have := size_pos t; omega
mutual
theorem things_size : ∀ t : Tree, t.things.length ≤ t.size
  | .leaf n => by rw [Tree.things, Tree.size]; simp
  | .node z ts => by rw [Tree.things, Tree.size]; have := thingsTs_size ts; omega
theorem thingsTs_size : ∀ ts : List Tree, (thingsTs ts).length ≤ sizeTs ts
  | [] => by rw [thingsTs, sizeTs]; simp
  | t :: ts => by rw [thingsTs, sizeTs, List.length_append]; have := things_size t; have := thingsTs_size ts; omega
end
theorem TxtOk.kid {z : Str} {ts : List Tree} {t : Tree} (x : TxtOk (.node z ts)) (h : t ∈ ts) : TxtOk t :=
  ⟨fun y hy => x.1 y (lands_mem h hy), fun n hn => x.2.1 n (things_mem h hn), by have := x.2.2; rw [Tree.size] at this; have := size_in h; omega⟩
mutual
theorem text_len : ∀ (t : Tree), (∀ z ∈ t.lands, z.length ≤ 8) → (∀ n ∈ t.things, 0 ≤ n ∧ n ≤ 10000) → t.text.length + 1 ≤ 20 * t.size
  | .leaf n, h1, h2 => by
    have := h2 n (by rw [Tree.things]; simp)
    have := txt_len5 this.1 this.2
    rw [Tree.text, Tree.size]; omega
  | .node z ts, h1, h2 => by
    have k1 : ("(" : Str).length = 1 ∧ (")" : Str).length = 1 := by decide +kernel
    have hz := h1 z (by rw [Tree.lands]; simp)
    have := textTs_len ts (fun y hy => h1 y (by rw [Tree.lands]; exact List.mem_cons_of_mem _ hy)) (fun n hn => h2 n (by rw [Tree.things]; exact hn))
    have := sl_words (textTs ts)
    rw [Tree.text, Tree.size, sl_app, sl_app, sl_app, k1.1, k1.2]
    omega
theorem textTs_len : ∀ (ts : List Tree), (∀ z ∈ landsTs ts, z.length ≤ 8) → (∀ n ∈ thingsTs ts, 0 ≤ n ∧ n ≤ 10000) → ((textTs ts).map fun r => r.length + 1).sum ≤ 20 * sizeTs ts
  | [], _, _ => by rw [textTs]; simp
  | t :: ts, h1, h2 => by
    rw [landsTs] at h1
    rw [thingsTs] at h2
    have a := text_len t (fun z hz => h1 z (List.mem_append_left _ hz)) (fun n hn => h2 n (List.mem_append_left _ hn))
    have b := textTs_len ts (fun z hz => h1 z (List.mem_append_right _ hz)) (fun n hn => h2 n (List.mem_append_right _ hn))
    rw [textTs, List.map_cons, List.sum_cons, sizeTs]
    omega
end
theorem TxtOk.len {t : Tree} (x : TxtOk t) : t.text.length ≤ 10000 := by
  have := text_len t x.1 x.2.1
  have := x.2.2
  omega
theorem bo_text_of (N : List Str) (hN : N.length = 2) (d : Nat) : ∀ as h Q E, as.length = 1 → SR_text_of (d + 1) as h Q E → den_text_of (SR_text_of d) (startA N as) h (endsR Q) (RX E) := by
  rintro as h Q E - ⟨t, rfl, hd, ok, q⟩
  unfold den_text_of
  simp only [startA, hN]
  cases t with
  | leaf n =>
    have rg := ok.2.1 n (by rw [Tree.things]; simp)
    refine ss_yes ((evt_not (evt_isTup (ev_var (v := (Tree.leaf n).enc)))).cast rfl) ?_
    exact s_ret (v := .str (txtI n)) (ev_strI (EvE.cast (ev_var (v := (Tree.leaf n).enc)) (by rw [Tree.enc])) rg.1 rg.2) (RT.same (by rw [Tree.text] at q; exact q))
  | node z ts =>
    refine ss_no ((evt_not (evt_isTup (ev_var (v := (Tree.node z ts).enc)))).cast rfl) ?_
    have k1 : ("(" : Str).length = 1 ∧ (")" : Str).length = 1 ∧ (" " : Str).length = 1 := by decide +kernel
    have vT : ∀ {x1 : Option Val} {h : Hv} {E : PX}, EvE [some (Tree.node z ts).enc, x1] h E (dVar 0) (.tup [.str z, .tup (ts.map Tree.enc)]) := EvE.cast ev_var (enc_nodeG z ts)
    have hz := ok.1 z (by rw [Tree.lands]; simp)
    have hsz := ok.2.2
    rw [Tree.size] at hsz
    have hl := len_size ts
    rw [Tree.ht] at hd
    have tl := ok.len
    rw [Tree.text, textTs_map] at tl q
    simp only [sl_app, k1.1, k1.2.1] at tl
    have hb : ((ts.map Tree.text).map (·.length)).sum + (ts.map Tree.text).length * (" " : Str).length ≤ 16777216 := by
      have a := textTs_len ts (fun y hy => ok.1 y (by rw [Tree.lands]; exact List.mem_cons_of_mem _ hy)) (fun n hn => ok.2.1 n (by rw [Tree.things]; exact hn))
      rw [textTs_map] at a
      have e : ∀ l : List Str, (l.map fun r => r.length + 1).sum = (l.map (·.length)).sum + l.length := fun l => by
        induction l with
        | nil => rfl
        | cons x l ih => rw [List.map_cons, List.sum_cons, ih, List.map_cons, List.sum_cons, List.length_cons]; omega
      rw [e] at a
      rw [k1.2.2]
      omega
    refine s_ret (ev_bin (ev_bin (ev_bin (ev_bin vT ev_c (f_ixI (i := 0) (u := .str z) rfl (by decide) rfl)) ev_c (f_addS (by rw [k1.1, sizeLine_eq]; omega))) (ev_join (ys := ts.map Tree.text) ev_c (EvE.cast (ev_lc ts Tree.enc (fun t => .str t.text) (evi_it (ev_bin vT ev_c (f_ixI (i := 1) (u := .tup (ts.map Tree.enc)) rfl (by decide) rfl)) rfl) (fun _ _ => trivial) (by rw [sizeLine_eq]; omega) fun t ht => ⟨_, rfl, fun h' sb => ev_call (eva1 (ev_var (v := t.enc))) rfl fun Q q => ⟨t, rfl, by have := htTs_mem ht; omega, ok.kid ht, q⟩⟩) (by rw [List.map_map]; rfl)) hb) (f_addS (by rw [sl_app, k1.1, sizeLine_eq]; omega))) ev_c (f_addS (by rw [sl_app, sl_app, k1.1, k1.2.1, sizeLine_eq]; omega))) (RT.same q)
theorem ht_max {ts : List Tree} {m : Int} (h1 : m ∈ ts.map fun t => (t.ht : Int)) (h2 : ∀ y ∈ ts.map fun t => (t.ht : Int), y ≤ m) : m = (htTs ts : Int) := by
  obtain ⟨t, ht, rfl⟩ := List.mem_map.mp h1
  have a := htTs_mem ht
  have : ∀ ts : List Tree, ts ≠ [] → ∃ u ∈ ts, u.ht = htTs ts := by
    intro ts
    induction ts with
    | nil => intro h; exact absurd rfl h
    | cons x ts ih =>
      intro _
      rw [htTs]
      by_cases c : htTs ts ≤ x.ht
      · exact ⟨x, List.mem_cons_self, by omega⟩
      · cases ts with
        | nil => rw [htTs] at c; omega
        | cons y ts =>
          obtain ⟨u, hu, e⟩ := ih (by simp)
          exact ⟨u, List.mem_cons_of_mem _ hu, by omega⟩
  obtain ⟨u, hu, e⟩ := this ts (List.ne_nil_of_mem ht)
  have b := h2 _ (List.mem_map.mpr ⟨u, hu, rfl⟩)
  omega
theorem lev_run {names : List Str} {t : Tree} {d : Nat} {R : SpF} {x1 : Option Val} {h : Hv} {E : PX} (eR : R = SR_levels_of d) (hd : t.ht < d + 1) (ok : LevOk names t) : EvE [some t.enc, x1] h E (dIfE (dTruth (dCB fIsi (aCons (dVar 0) (aCons (dC (.ty "tuple")) aNil)))) (dBin fAdd (dC (.int 1)) (dCB fMaxL (aCons (dLc (dIt (dBin fIx (dVar 0) (dC (.int 1)))) (.nm 1) tTrue (dCall 1 R (aCons (dVar 1) aNil)) [1]) aNil))) (dC (.int 0))) (.int (t.ht : Int)) := by
  subst eR
  refine ev_if (evt_isTup (ev_var (v := t.enc))) (fun c => ?_) fun c => ?_
  · cases t with
    | leaf n => cases c
    | node z ts =>
      have vT : ∀ {h : Hv} {E : PX}, EvE [some (Tree.node z ts).enc, x1] h E (dVar 0) (.tup [.str z, .tup (ts.map Tree.enc)]) := EvE.cast ev_var (enc_nodeG z ts)
      have hsz := ok.2
      rw [Tree.size] at hsz
      have hl := len_size ts
      rw [Tree.ht] at hd ⊢
      have hok := ok.1
      have hok' : z ∈ names ∧ ts ≠ [] ∧ okTs names ts := hok
      refine EvE.cast (ev_bin ev_c (ev_cb (u := .int (htTs ts : Int)) (eva1 (ev_lc ts Tree.enc (fun t => .int (t.ht : Int)) (evi_it (ev_bin vT ev_c (f_ixI (i := 1) (u := .tup (ts.map Tree.enc)) rfl (by decide) rfl)) rfl) (fun _ _ => trivial) (by rw [sizeLine_eq]; omega) fun t ht => ⟨_, rfl, fun h' sb => ev_call (eva1 (ev_var (v := t.enc))) rfl fun Q q => ⟨names, t, rfl, by have := htTs_mem ht; omega, ⟨(okTs_iff names ts).mp hok'.2.2 t ht, by have := size_in ht; omega⟩, q⟩⟩)) fun Q q => ⟨_, ts.map fun t => (t.ht : Int), rfl, by show some _ = some _; rw [List.map_map]; rfl, by simp [hok'.2.1], fun m m1 m2 => by rw [ht_max m1 m2]; exact q⟩) (f_add _ _)) (by congr 1; omega)
  · cases t with
    | leaf n => rw [Tree.ht]; exact ev_c
    | node z ts => cases c
theorem bo_levels_of (N : List Str) (hN : N.length = 2) (d : Nat) : ∀ as h Q E, as.length = 1 → SR_levels_of (d + 1) as h Q E → den_levels_of (SR_levels_of d) (startA N as) h (endsR Q) (RX E) := by
  rintro as h Q E - ⟨names, t, rfl, hd, ok, q⟩
  unfold den_levels_of
  simp only [startA, hN]
  exact s_ret (lev_run rfl hd ok) (RT.same q)
theorem bo__law_level (N : List Str) (hN : N.length = 2) (d : Nat) : ∀ as h Q E, as.length = 1 → SR__law_level (d + 1) as h Q E → den__law_level (SR__law_level d) (startA N as) h (endsR Q) (RX E) := by
  rintro as h Q E - ⟨names, t, rfl, hd, ok, q⟩
  unfold den__law_level
  simp only [startA, hN]
  exact s_ret (lev_run rfl hd ok) (RT.same q)
theorem bo__law_things (N : List Str) (hN : N.length = 3) (d : Nat) : ∀ as h Q E, as.length = 1 → SR__law_things (d + 1) as h Q E → den__law_things (SR__law_things d) (startA N as) h (endsR Q) (RX E) := by
  rintro as h Q E - ⟨t, rfl, hd, sz, q⟩
  unfold den__law_things
  simp only [startA, hN]
  cases t with
  | leaf n =>
    refine ss_yes ((evt_not (evt_isTup (ev_var (v := (Tree.leaf n).enc)))).cast rfl) ?_
    exact s_ret (v := .lst [.int n]) (EvE.cast (ev_lst (eva1 (ev_var (v := (Tree.leaf n).enc))) (by rw [sizeLine_eq]; simp)) (by rw [Tree.enc])) (RT.same q)
  | node z ts =>
    refine ss_no ((evt_not (evt_isTup (ev_var (v := (Tree.node z ts).enc)))).cast rfl) ?_
    have vT : ∀ {x1 x2 : Option Val} {h : Hv} {E : PX}, EvE [some (Tree.node z ts).enc, x1, x2] h E (dVar 0) (.tup [.str z, .tup (ts.map Tree.enc)]) := EvE.cast ev_var (enc_nodeG z ts)
    rw [Tree.size] at sz
    rw [Tree.ht] at hd
    refine ss_set (v := .lst []) (ev_lst eva_nil (by simp)) ?_
    refine ss_for (evi_it (ev_bin vT ev_c (f_ixI (i := 1) (u := .tup (ts.map Tree.enc)) rfl (by decide) rfl)) rfl) fun dd hdd => ?_
    have thl : ∀ l : List Tree, (l.flatMap Tree.things).length ≤ sizeTs l := fun l => by
      induction l with
      | nil => simp
      | cons t l ih =>
        rw [List.flatMap_cons, List.length_append, sizeTs]
        have := things_size t
        omega
    refine for_lstG (xs := ts) (f := Tree.enc) (fun j ρ h' => h' = h ∧ ∃ x2 : Option Val, ρ = [some (Tree.node z ts).enc, some (.lst (((ts.take j).flatMap Tree.things).map .int)), x2]) ?_ ?_ ⟨rfl, none, rfl⟩
    · rintro ρ h' ⟨rfl, x2, rfl⟩
      dsimp only
      rw [List.take_length]
      exact s_ret (ev_var (v := .lst ((ts.flatMap Tree.things).map .int))) (RT.same (by rw [Tree.things, thingsTs_map] at q; exact q))
    · rintro j jl ρ h' ⟨rfl, x2, rfl⟩
      refine ⟨_, rfl, fun N1 hN1 => ?_⟩
      subst hdd
      have ht : ts[j] ∈ ts := List.getElem_mem jl
      have tk := take_flat (f := Tree.things) jl
      have l1 := take_flat_le ts Tree.things j
      have l2 := thl ts
      have l3 := things_size ts[j]
      have l4 := size_in ht
      refine s_set (v := .lst (((ts.take (j + 1)).flatMap Tree.things).map .int)) (EvE.cast (ev_bin (ev_var (v := .lst (((ts.take j).flatMap Tree.things).map .int))) (ev_call (u := .lst (ts[j].things.map .int)) (eva1 (ev_var (v := ts[j].enc))) rfl fun Q q => ⟨ts[j], rfl, by have := htTs_mem ht; omega, by omega, q⟩) (f_addL rfl rfl (by rw [List.length_map, List.length_map, sizeLine_eq]; omega))) (by rw [tk, List.map_append])) (hN1 _ _ ⟨rfl, _, rfl⟩)
end DL
namespace DL
open PySem PySem.Spec PyProof.Rows L2
theorem eqD_intsL (xs ys : List Int) : eqD (.lst (xs.map .int)) (.lst (ys.map .int)) = decide (xs = ys) := by
  rw [← eqD_ints]
  unfold eqD
  rw [dat, dat, dat, dat]
  cases h1 : dats (xs.map Val.int) with
  | none => rfl
  | some a =>
    cases h2 : dats (ys.map Val.int) with
    | none => rfl
    | some b => rfl
theorem okN_intsL {xs : List Int} (h : xs.length ≤ 1000) (d : Nat) : okN (d + 1) (.lst (xs.map .int)) = true := by
  rw [okN_lst]
  refine ⟨fun v hv => ?_, by rw [List.length_map]; exact h⟩
  obtain ⟨i, _, rfl⟩ := List.mem_map.mp hv
  cases d <;> rfl
section
variable {ρ : Sl} {h : Hv} {E : PX} {d : ED}
theorem f_ltG {i j : Int} : EvF h fLtI (.int i) (.int j) (.bl (decide (i < j))) := fun Q q => q
theorem f_eqIL {xs ys : List Int} (h1 : xs.length ≤ 1000) (h2 : ys.length ≤ 1000) : EvF h fEq (.lst (xs.map .int)) (.lst (ys.map .int)) (.bl (decide (xs = ys))) := fun Q q => fEq_dat (okN_intsL h1 63) (okN_intsL h2 63) (by rw [eqD_intsL]; exact q) rfl
theorem f_neIL {xs ys : List Int} (h1 : xs.length ≤ 1000) (h2 : ys.length ≤ 1000) : EvF h fNe (.lst (xs.map .int)) (.lst (ys.map .int)) (.bl (!decide (xs = ys))) := fun Q q => fNe_dat (okN_intsL h1 63) (okN_intsL h2 63) (by rw [eqD_intsL]; exact q) rfl
end
mutual
theorem things_neG : ∀ {names : List Str} (t : Tree), t.okT names → t.things ≠ []
  | names, .leaf n, _ => by rw [Tree.things]; simp
  | names, .node z ts, h => by
    obtain ⟨_, ne, ok⟩ := h
    rw [Tree.things]
    exact thingsTs_neG ts ok ne
theorem thingsTs_neG : ∀ {names : List Str} (ts : List Tree), okTs names ts → ts ≠ [] → thingsTs ts ≠ []
  | names, [], _, ne => absurd rfl ne
  | names, t :: ts, h, _ => by
    have := things_neG t h.1
    rw [thingsTs]
    intro e
    exact this (List.append_eq_nil_iff.mp e).1
end
theorem least_get {t : Tree} {names : List Str} (ok : t.okT names) : ((sortI t.things).map Val.int)[0]? = some (.int t.least) := by
  have : sortI t.things ≠ [] := fun e => things_neG t ok (by
    have := (sortI_perm t.things).length_eq
    rw [e] at this
    exact List.length_eq_zero_iff.mp this.symm)
  unfold Tree.least
  cases h : sortI t.things with
  | nil => exact absurd h this
  | cons x r => rfl
theorem least_min {t : Tree} {m : Int} (h1 : m ∈ t.things) (h2 : ∀ y ∈ t.things, m ≤ y) : m = t.least := by
  have p := sortI_perm t.things
  have s : (sortI t.things).Pairwise (· ≤ ·) := (srtB_srt leI_tot leI_tr t.things).imp fun h => of_decide_eq_true h
  unfold Tree.least
  cases h : sortI t.things with
  | nil => rw [h] at p; exact absurd (p.mem_iff.mpr h1) (by simp)
  | cons x r =>
    rw [h] at p s
    show m = x
    have a := h2 x (p.mem_iff.mp List.mem_cons_self)
    have b : x ≤ m := by
      rcases List.mem_cons.mp (p.mem_iff.mpr h1) with e | e
      · omega
      · exact (List.pairwise_cons.mp s).1 m e
    omega
theorem bo_is_tidy_so (N : List Str) (hN : N.length = 5) (d : Nat) : ∀ as h Q E, as.length = 3 → SR_is_tidy_so (d + 1) as h Q E → den_is_tidy_so (SR_is_tidy_so d) (startA N as) h (endsR Q) (RX E) := by
  rintro as h Q E - ⟨b, hp, t, rfl, wf, ok, hd, h24, sz, okt, q⟩
  unfold den_is_tidy_so
  simp only [startA, hN]
  cases t with
  | leaf n =>
    refine ss_yes ((evt_not (evt_isTup (ev_var (v := (Tree.leaf n).enc)))).cast rfl) ?_
    exact s_ret ev_c (RT.same (by rw [Tree.tidy] at q; exact q))
  | node z ts =>
    refine ss_no ((evt_not (evt_isTup (ev_var (v := (Tree.node z ts).enc)))).cast rfl) ?_
    have vT : ∀ {x3 x4 : Option Val} {h : Hv} {E : PX}, EvE [some (encB b), some (encH hp), some (Tree.node z ts).enc, x3, x4] h E (dVar 2) (.tup [.str z, .tup (ts.map Tree.enc)]) := EvE.cast ev_var (enc_nodeG z ts)
    have vK : ∀ {x3 x4 : Option Val} {h : Hv} {E : PX}, EvE [some (encB b), some (encH hp), some (Tree.node z ts).enc, x3, x4] h E (dBin fIx (dVar 2) (dC (.int 1))) (.tup (ts.map Tree.enc)) := ev_bin vT ev_c (f_ixI (i := 1) (u := .tup (ts.map Tree.enc)) rfl (by decide) rfl)
    have sz' := sz
    rw [Tree.size] at sz'
    have hl := len_size ts
    have hkid := ht_node hd
    have hkid2 := ht_node (show (Tree.node z ts).ht < 23 + 1 from h24)
    have okk := (okN_node okt).2
    have ek : (ts.map Tree.enc).length = ts.length := List.length_map _
    rw [Tree.tidy, tidyTs_all] at q
    refine ss_if (k := decide (ts.length < 2) || !decide ((Tree.node z ts).land b hp = some z)) (evt_or ((evt_test (ev_bin (ev_cb (eva1 vK) c_lenT) ev_c f_ltG)).cast (by rw [ek, Bool.eq_iff_iff, decide_eq_true_eq, decide_eq_true_eq]; omega)) fun _ => evt_test (ev_bin (ev_call (u := encO ((Tree.node z ts).land b hp)) (eva_cons (ev_var (v := encB b)) (eva2 (ev_var (v := encH hp)) (ev_var (v := (Tree.node z ts).enc)))) rfl fun Q q => ⟨b, hp, _, rfl, wf, ok, h24, sz, q⟩) (ev_bin vT ev_c (f_ixI (i := 0) (u := .str z) rfl (by decide) rfl)) f_neOZ)) (fun c => ?_) fun c => ?_
    · refine s_ret (v := .bl false) ev_c (RT.same ?_)
      have : (!decide (ts.length < 2) && decide ((Tree.node z ts).land b hp = some z)) = false := by
        revert c
        cases decide (ts.length < 2) <;> cases decide ((Tree.node z ts).land b hp = some z) <;> simp
      rw [this, Bool.false_and] at q
      exact q
    · have e1 : (!decide (ts.length < 2) && decide ((Tree.node z ts).land b hp = some z)) = true := by
        revert c
        cases decide (ts.length < 2) <;> cases decide ((Tree.node z ts).land b hp = some z) <;> simp
      rw [e1, Bool.true_and] at q
      refine s_next ?_
      dsimp only
      refine ss_set (v := .lst ((ts.map Tree.least).map .int)) (EvE.cast (ev_lc ts Tree.enc (fun t => .int t.least) (evi_it vK rfl) (fun _ _ => trivial) (by rw [sizeLine_eq]; omega) fun t ht => ⟨_, rfl, fun h' sb => ev_bin (ev_call (u := .tup ((sortI t.things).map .int)) (eva1 (ev_var (v := t.enc))) rfl fun Q q => ⟨t, rfl, by have := hkid2 t ht; omega, by have := things_size t; have := size_in ht; omega, okk t ht, q⟩) ev_c (f_ixI (i := 0) rfl (by decide) (least_get (ok.mem ht).ok))⟩) (by rw [List.map_map]; rfl)) ?_
      have lk : (ts.map Tree.least).length ≤ 1000 := by rw [List.length_map]; omega
      have vL : ∀ {x4 : Option Val} {h : Hv} {E : PX}, EvE [some (encB b), some (encH hp), some (Tree.node z ts).enc, some (.lst ((ts.map Tree.least).map .int)), x4] h E (dVar 3) (.lst ((ts.map Tree.least).map .int)) := ev_var
      refine s_ret (ev_vAnd (ev_bin vL (ev_cb (eva1 vL) c_sortY) (f_eqIL lk (by rw [(sortI_perm _).length_eq]; exact lk))) fun _ => ev_all ts Tree.enc (Tree.tidy b hp) (evi_it vK rfl) (fun _ _ => trivial) (by rw [sizeLine_eq]; omega) fun t ht => ⟨_, rfl, fun h' sb => ev_call (eva_cons (ev_var (v := encB b)) (eva2 (ev_var (v := encH hp)) (ev_var (v := t.enc)))) rfl fun Q q => ⟨b, hp, t, rfl, wf, ok.mem ht, by have := hkid t ht; omega, by have := hkid2 t ht; omega, by have := size_in ht; omega, okk t ht, q⟩⟩) (RT.same q)
theorem bo__law_is_tidy (N : List Str) (hN : N.length = 5) (d : Nat) : ∀ as h Q E, as.length = 3 → SR__law_is_tidy (d + 1) as h Q E → den__law_is_tidy (SR__law_is_tidy d) (startA N as) h (endsR Q) (RX E) := by
  rintro as h Q E - ⟨b, hp, t, rfl, wf, ok, hd, h24, sz, okt, q⟩
  unfold den__law_is_tidy
  simp only [startA, hN]
  cases t with
  | leaf n =>
    refine ss_yes ((evt_not (evt_isTup (ev_var (v := (Tree.leaf n).enc)))).cast rfl) ?_
    exact s_ret ev_c (RT.same (by rw [Tree.tidy] at q; exact q))
  | node z ts =>
    refine ss_no ((evt_not (evt_isTup (ev_var (v := (Tree.node z ts).enc)))).cast rfl) ?_
    have vT : ∀ {x3 x4 : Option Val} {h : Hv} {E : PX}, EvE [some (encB b), some (encH hp), some (Tree.node z ts).enc, x3, x4] h E (dVar 2) (.tup [.str z, .tup (ts.map Tree.enc)]) := EvE.cast ev_var (enc_nodeG z ts)
    have vK : ∀ {x3 x4 : Option Val} {h : Hv} {E : PX}, EvE [some (encB b), some (encH hp), some (Tree.node z ts).enc, x3, x4] h E (dBin fIx (dVar 2) (dC (.int 1))) (.tup (ts.map Tree.enc)) := ev_bin vT ev_c (f_ixI (i := 1) (u := .tup (ts.map Tree.enc)) rfl (by decide) rfl)
    have sz' := sz
    rw [Tree.size] at sz'
    have hl := len_size ts
    have hkid := ht_node hd
    have hkid2 := ht_node (show (Tree.node z ts).ht < 23 + 1 from h24)
    have okk := (okN_node okt).2
    rw [Tree.tidy, tidyTs_all] at q
    refine ss_set (v := .lst ((ts.map Tree.least).map .int)) (EvE.cast (ev_lc ts Tree.enc (fun t => .int t.least) (evi_it vK rfl) (fun _ _ => trivial) (by rw [sizeLine_eq]; omega) fun t ht => ⟨_, rfl, fun h' sb => ev_cb (eva1 (ev_call (u := .lst (t.things.map .int)) (eva1 (ev_var (v := t.enc))) rfl fun Q q => ⟨t, rfl, by have := hkid2 t ht; omega, by have := size_in ht; omega, q⟩)) fun Q q => ⟨_, t.things, rfl, rfl, things_neG t (ok.mem ht).ok, fun m m1 m2 => by rw [least_min m1 m2]; exact q⟩⟩) (by rw [List.map_map]; rfl)) ?_
    have lk : (ts.map Tree.least).length ≤ 1000 := by rw [List.length_map]; omega
    have vL : ∀ {x4 : Option Val} {h : Hv} {E : PX}, EvE [some (encB b), some (encH hp), some (Tree.node z ts).enc, some (.lst ((ts.map Tree.least).map .int)), x4] h E (dVar 3) (.lst ((ts.map Tree.least).map .int)) := ev_var
    have eV : ∀ {x4 : Option Val} {h : Hv} {E : PX}, EvE [some (encB b), some (encH hp), some (Tree.node z ts).enc, some (.lst ((ts.map Tree.least).map .int)), x4] h E (dBin fIx (dCall 3 S__law_valued (aCons (dVar 0) (aCons (dVar 1) (aCons (dVar 2) aNil)))) (dC (.int 2))) (encO ((Tree.node z ts).land b hp)) := ev_bin (ev_call (eva_cons (ev_var (v := encB b)) (eva2 (ev_var (v := encH hp)) (ev_var (v := (Tree.node z ts).enc)))) rfl fun Q q => ⟨b, hp, _, rfl, wf, ok, h24, q⟩) ev_c (f_ixI (i := 2) rfl (by decide) rfl)
    have el : decide (((((ts.map Tree.least).map Val.int).length : Nat) : Int) < 2) = decide (ts.length < 2) := by
      rw [List.length_map, List.length_map, Bool.eq_iff_iff, decide_eq_true_eq, decide_eq_true_eq]; omega
    refine ss_if (k := decide (ts.length < 2) || (!decide (ts.map Tree.least = sortI (ts.map Tree.least)) || !decide ((Tree.node z ts).land b hp = some z))) (evt_or ((evt_test (ev_bin (ev_cb (eva1 vL) c_lenL) ev_c f_ltG)).cast el) fun _ => evt_or (evt_test (ev_bin vL (ev_cb (eva1 vL) c_sortY) (f_neIL lk (by rw [(sortI_perm _).length_eq]; exact lk)))) fun _ => evt_test (ev_bin eV (ev_bin vT ev_c (f_ixI (i := 0) (u := .str z) rfl (by decide) rfl)) f_neOZ)) (fun c => ?_) fun c => ?_
    · refine s_ret (v := .bl false) ev_c (RT.same ?_)
      have : ((!decide (ts.length < 2) && decide ((Tree.node z ts).land b hp = some z)) && (decide (ts.map Tree.least = sortI (ts.map Tree.least)) && ts.all (Tree.tidy b hp))) = false := by
        revert c
        cases decide (ts.length < 2) <;> cases decide ((Tree.node z ts).land b hp = some z) <;> cases decide (ts.map Tree.least = sortI (ts.map Tree.least)) <;> simp
      rw [this] at q
      exact q
    · have e1 : ((!decide (ts.length < 2) && decide ((Tree.node z ts).land b hp = some z)) && (decide (ts.map Tree.least = sortI (ts.map Tree.least)) && ts.all (Tree.tidy b hp))) = ts.all (Tree.tidy b hp) := by
        revert c
        cases decide (ts.length < 2) <;> cases decide ((Tree.node z ts).land b hp = some z) <;> cases decide (ts.map Tree.least = sortI (ts.map Tree.least)) <;> simp
      rw [e1] at q
      refine s_next ?_
      dsimp only
      have eF : ((ts.filter fun t => !t.tidy b hp) = []) ↔ ts.all (Tree.tidy b hp) = true := by
        rw [List.filter_eq_nil_iff, List.all_eq_true]
        exact ⟨fun a t ht => by have := a t ht; revert this; cases t.tidy b hp <;> simp, fun a t ht => by rw [a t ht]; simp⟩
      have okL : okN 64 (.lst ((ts.filter fun t => !t.tidy b hp).map Tree.enc)) = true := by
        rw [okN_lst]
        refine ⟨fun v hv => ?_, by have := List.length_filter_le (fun t => !t.tidy b hp) ts; rw [List.length_map]; omega⟩
        obtain ⟨t, ht, rfl⟩ := List.mem_map.mp hv
        exact okN_le (okk t (List.mem_filter.mp ht).1) (by decide)
      refine s_ret (v := .bl (ts.all (Tree.tidy b hp))) (ev_bin (ev_lcF ts Tree.enc (fun t => !t.tidy b hp) Tree.enc (evi_it vK rfl) (fun _ _ => trivial) (by rw [sizeLine_eq]; omega) fun t ht => ⟨_, rfl, fun h' sb => evt_not (evt_truthB (ev_call (eva_cons (ev_var (v := encB b)) (eva2 (ev_var (v := encH hp)) (ev_var (v := t.enc)))) rfl fun Q q => ⟨b, hp, t, rfl, wf, ok.mem ht, by have := hkid t ht; omega, by have := hkid2 t ht; omega, by have := size_in ht; omega, okk t ht, q⟩)), fun _ h' sb => ev_var⟩) (ev_lst eva_nil (Nat.zero_le _)) fun Q q => ?_) (RT.same q)
      refine fEq_dat okL rfl ?_ rfl
      have : eqD (.lst ((ts.filter fun t => !t.tidy b hp).map Tree.enc)) (.lst []) = ts.all (Tree.tidy b hp) := by
        cases hf : ts.filter fun t => !t.tidy b hp with
        | nil => rw [eF.mp hf]; rfl
        | cons x r =>
          have : ts.all (Tree.tidy b hp) = false := by
            cases ha : ts.all (Tree.tidy b hp) with
            | false => rfl
            | true => rw [eF.mpr ha] at hf; cases hf
          rw [this]
          cases he : eqD (.lst ((x :: r).map Tree.enc)) (.lst []) with
          | false => rfl
          | true => 
            unfold eqD at he
            rw [dat, dat] at he
            cases h1 : dats ((x :: r).map Tree.enc) with
            | none => rw [h1] at he; cases he
            | some ds =>
              rw [h1] at he
              have he : PyData.eqvAll ds [] = true := he
              rw [List.map_cons, dats] at h1
              split at h1
              · cases h1; cases he
              · cases h1
      rw [this]; exact q
theorem bo_is_tidy (N : List Str) (hN : N.length = 3) : ∀ as h Q E, as.length = 3 → S_is_tidy as h Q E → den_is_tidy (startA N as) h (endsR Q) (RX E) := by
  rintro as h Q E - ⟨b, hp, v, rfl, wf, okv, q⟩
  unfold den_is_tidy
  simp only [startA, hN]
  have hlen : (hp.map encR).length = hp.length := List.length_map _
  rcases q with ⟨t, rfl, ok, ht, sz, nd, sh, q⟩ | ⟨bad, q⟩
  · have tl : t.things.length ≤ 1000 := by have := things_size t; omega
    refine s_ret (v := .bl (t.tidy b hp)) (EvE.cast (ev_vAnd (k := true) (l := t.tidy b hp) (ev_call (u := .bl true) (eva_cons (ev_var (v := encB b)) (eva2 (ev_var (v := encH hp)) (ev_var (v := t.enc)))) rfl fun Q q => ⟨b, hp.map encR, t.enc, rfl, wf.n4, okv, .inr ⟨t, rfl, ht, by rw [hlen]; exact sh, tl, by rw [decide_eq_true nd]; exact q⟩⟩) fun _ => ev_call (u := .bl (t.tidy b hp)) (eva_cons (ev_var (v := encB b)) (eva2 (ev_var (v := encH hp)) (ev_var (v := t.enc)))) rfl fun Q q => ⟨b, hp, t, rfl, wf, ok, ht, ht, sz, okv, q⟩) rfl) (RT.same q)
  · refine s_ret (v := .bl false) (EvE.cast (ev_vAnd (k := false) (l := false) (ev_call (u := .bl false) (eva_cons (ev_var (v := encB b)) (eva2 (ev_var (v := encH hp)) (ev_var (v := v)))) rfl fun Q q => ⟨b, hp.map encR, v, rfl, wf.n4, okv, ?_⟩) fun z => nomatch z) rfl) (RT.same q)
    rcases bad with sh | ⟨t, e, ht, sh, tl, nd⟩
    · exact .inl ⟨by rw [hlen]; exact sh, q⟩
    · exact .inr ⟨t, e, ht, by rw [hlen]; exact sh, tl, by rw [decide_eq_false nd]; exact q⟩
end DL
namespace DL
open PySem PySem.Spec PyProof.Rows L2
mutual
def decT : Val → Tree
  | .int n => .leaf n
  | .tup vs => decV vs
  | _ => .leaf 0
def decV : List Val → Tree
  | [.str z, .tup ts] => .node z (decTs ts)
  | _ => .leaf 0
def decTs : List Val → List Tree
  | [] => []
  | v :: vs => decT v :: decTs vs
end
mutual
theorem dec_enc : ∀ t : Tree, decT t.enc = t
  | .leaf n => by rw [Tree.enc, decT]
  | .node z ts => by rw [Tree.enc, decT, decV, dec_encs ts]
theorem dec_encs : ∀ ts : List Tree, decTs (encTs ts) = ts
  | [] => by rw [encTs, decTs]
  | t :: ts => by rw [encTs, decTs, dec_enc t, dec_encs ts]
end
mutual
theorem lands_in : ∀ {names : List Str} (t : Tree), t.okT names → ∀ z ∈ t.lands, z ∈ names
  | names, .leaf n, _, z, hz => by rw [Tree.lands] at hz; exact absurd hz (by simp)
  | names, .node y ts, h, z, hz => by
    obtain ⟨hy, _, ok⟩ := h
    rw [Tree.lands] at hz
    rcases List.mem_cons.mp hz with e | hz
    · rw [e]; exact hy
    · exact landsTs_in ts ok z hz
theorem landsTs_in : ∀ {names : List Str} (ts : List Tree), okTs names ts → ∀ z ∈ landsTs ts, z ∈ names
  | names, [], _, z, hz => by rw [landsTs] at hz; exact absurd hz (by simp)
  | names, t :: ts, h, z, hz => by
    rw [landsTs] at hz
    rcases List.mem_append.mp hz with hz | hz
    · exact lands_in t h.1 z hz
    · exact landsTs_in ts h.2 z hz
end
theorem perm_inv {α β : Type} {f : α → β} {l m : List β} (p : l.Perm m) : ∀ {xs : List α}, l = xs.map f → ∃ ys : List α, ys.Perm xs ∧ m = ys.map f := by
  induction p with
  | nil => intro xs e; exact ⟨[], by rw [List.map_eq_nil_iff.mp e.symm], rfl⟩
  | cons x _ ih =>
    intro xs e
    cases xs with
    | nil => cases e
    | cons y xs =>
      rw [List.map_cons] at e
      obtain ⟨e1, e2⟩ := List.cons.inj e
      obtain ⟨ys, p, e3⟩ := ih e2
      exact ⟨y :: ys, p.cons y, by rw [List.map_cons, e1, e3]⟩
  | swap x y l =>
    intro xs e
    cases xs with
    | nil => cases e
    | cons a xs =>
      cases xs with
      | nil => simp at e
      | cons c xs =>
        simp only [List.map_cons, List.cons.injEq] at e
        obtain ⟨e1, e2, e3⟩ := e
        exact ⟨c :: a :: xs, List.Perm.swap a c xs, by rw [List.map_cons, List.map_cons, e1, e2, e3]⟩
  | trans _ _ ih1 ih2 =>
    intro xs e
    obtain ⟨ys, p1, e1⟩ := ih1 e
    obtain ⟨zs, p2, e2⟩ := ih2 e1
    exact ⟨zs, p2.trans p1, e2⟩
theorem fin_all {G : Gx} {h : Hv} {b : Book} {hp : Heap'} (p : GPre G h b hp) : ∀ n, n ≠ 0 → inH hp n → ∀ z ∈ b.names, ∃ v, (((n, z), v) : GK × Int) ∈ (finG b hp).1 := fun n n0 hn z hz => by
  have key : ∀ (L : List Nat) (S : MsL × WsL), (∃ v, (((n, z), v) : GK × Int) ∈ S.1) ∨ n ∈ L → ∃ v, (((n, z), v) : GK × Int) ∈ (L.foldl (stG b hp) S).1 := fun L => by
    induction L with
    | nil =>
      intro S hh
      rcases hh with hh | hh
      · exact hh
      · cases hh
    | cons m L ih =>
      intro S hh
      rw [List.foldl_cons]
      refine ih _ ?_
      rcases hh with ⟨v, hv⟩ | hh
      · exact .inl ⟨v, List.mem_append_left _ hv⟩
      · rcases List.mem_cons.mp hh with e | e
        · exact .inl ⟨_, List.mem_append_right _ (List.mem_map.mpr ⟨z, hz, by rw [e]⟩)⟩
        · exact .inr e
  have hn : n < 2 ^ hp.length := hn
  exact key _ _ (.inr (mem_byPop.mpr ⟨n0, by omega⟩))
theorem GPre.full {G : Gx} {h h' : Hv} {A : Ag} {b : Book} {hp : Heap'} (p : GPre G h b hp) (t : GrAt G h' A b hp (finG b hp).1 (finG b hp).2) : GFull G h' A b hp (finG b hp).1 (finG b hp).2 := ⟨t, p.wf, p.ho, p.n5, fin_all p⟩
theorem set_fine {n : Nat} (h : n ≤ 5) : (setI (2 ^ n - 1)).length ≤ 5 := by
  have : ∀ n : Nat, n < 6 → (setI (2 ^ n - 1)).length ≤ 5 := by decide +kernel
  exact this n (by omega)
set_option maxHeartbeats 2000000 in
theorem bo_all_tidy (G : Gx) (N : List Str) (hN : N.length = 5) : ∀ as h Q E, as.length = 3 → S_all_tidy G as h Q E → den_all_tidy G (startA N as) h (endsR Q) (RX E) := by
  rintro as h Q E - ⟨b, hp, v, rfl, pre, q⟩
  unfold den_all_tidy
  simp only [startA, hN]
  have wf := pre.wf
  rcases q with ⟨z, rfl, hz, q⟩ | ⟨o, q⟩
  rotate_left 1
  · exact x_set (e_call (eva_cons (ev_var (v := encB b)) (eva2 (ev_var (v := encH hp)) (ev_var (v := v)))) rfl ⟨b, hp, v, rfl, pre, .inr ⟨o, h, Lss.refl h, q⟩⟩)
  refine x_set (e_call (eva_cons (ev_var (v := encB b)) (eva2 (ev_var (v := encH hp)) (ev_var (v := .str z)))) rfl ⟨b, hp, .str z, rfl, pre, .inl ⟨z, rfl, hz, ?_⟩⟩)
  obtain ⟨n, en⟩ : ∃ n, n = tidyN b hp z := ⟨_, rfl⟩
  rw [← en] at q ⊢
  show sSeq _ _ [some (encB b), some (encH hp), some (.str z), some (.int n), none] _ _ _
  refine ss_if (evt_test (ev_bin (ev_var (v := .int n)) ev_c f_gtI)) (fun c => ?_) fun c => ?_
  · have c := of_decide_eq_true c
    rcases q with ⟨_, q⟩ | ⟨c2, _⟩
    · exact ⟨h, Lss.refl h, q⟩
    · omega
  · have c := of_decide_eq_false c
    have q := (q.resolve_left fun x => c x.1).2
    refine s_next ?_
    dsimp only
    have n1 := pre.n1
    have tl : EvT [some (encB b), some (encH hp), some (.str z), some (.int n), none] h (RX E) (dTest (dBin fEq (dCB fLen (aCons (dVar 1) aNil)) (dC (.int 1)))) (decide (hp.length = 1)) := (evt_test (ev_bin (ev_cb (eva1 (ev_var (v := encH hp))) (c_len (n := hp.length) (by unfold encH; simp))) ev_c f_eqIW)).cast (by
      rw [Bool.eq_iff_iff, decide_eq_true_eq, decide_eq_true_eq]
      omega)
    by_cases c1 : hp.length = 1
    · refine ss_yes (tl.cast (decide_eq_true c1)) ?_
      have et : tidyN b hp z = if rawL hp 0 = some z then 1 else 0 := by unfold tidyN; rw [if_pos c1]
      refine s_ret (v := .tup ((treesG b hp z).map Tree.enc)) (EvE.cast (ev_bin (u := .tup (List.replicate n.toNat [Val.int 0]).flatten) (ev_tup (eva1 ev_c) (by rw [sizeLine_eq]; simp)) (ev_var (v := .int n)) fun Q q => ⟨by rw [en, et]; split <;> decide, by rw [en, et]; split <;> decide, by simp, q⟩) ?_) (RT.same (q _ (List.Perm.refl _)))
      unfold treesG
      rw [if_pos c1, en, et]
      by_cases c3 : rawL hp 0 = some z
      · rw [if_pos c3, if_pos c3]; rfl
      · rw [if_neg c3, if_neg c3]; rfl
    · refine ss_no (tl.cast (decide_eq_false c1)) ?_
      refine x_set (n_groupings pre (eva2 (ev_var (v := encB b)) (ev_var (v := encH hp))) fun A h' t l => ?_)
      show sRet _ [some (encB b), some (encH hp), some (.str z), some (.int n), some (.ref A.a)] _ _ _
      have p1 : 1 ≤ 2 ^ hp.length := Nat.one_le_two_pow
      have p2 : 2 ^ 1 ≤ 2 ^ hp.length := Nat.pow_le_pow_right (by decide) n1
      have ew : ((2 ^ hp.length : Nat) - 1 : Int) = ((2 ^ hp.length - 1 : Nat) : Int) := by omega
      have gf := pre.full t
      have hm : inH hp (2 ^ hp.length - 1) := by show 2 ^ hp.length - 1 < 2 ^ hp.length; omega
      have s5 := set_fine pre.n5
      obtain ⟨T, eT⟩ : ∃ T, T = (famG b hp (finG b hp).1 24).tr (2 ^ hp.length - 1) z := ⟨_, rfl⟩
      have tn : EvT [some (encB b), some (encH hp), some (.str z), some (.int n), some (.ref A.a)] h' (RX E) (dTruth (dVar 3)) (decide (n ≠ 0)) := evt_truth (ev_var (v := .int n)) (by
        show some (n != 0) = _
        congr 1
        rw [Bool.eq_iff_iff]
        simp)
      by_cases c0 : n = 0
      · refine s_ret (v := .tup ((treesG b hp z).map Tree.enc)) (ev_if (k := false) (tn.cast (by simp [c0])) (fun z => nomatch z) fun _ => EvE.cast (ev_tup eva_nil (Nat.zero_le _)) ?_) (RT.less l (q _ (List.Perm.refl _)))
        unfold treesG
        rw [if_neg c1, ← en, c0, if_neg (by simp)]
        rfl
      · have eG : treesG b hp z = T := by
          unfold treesG
          rw [if_neg c1, ← en, if_pos c0, eT]
        have eTr : EvE [some (encB b), some (encH hp), some (.str z), some (.int n), some (.ref A.a)] h' (RX E) (dMeth (G.C "Groupings") "trees" 3 (S_Groupings_trees G) (dVar 4) (aCons (dFld (G.C "Groupings") "whole" (dVar 4)) (aCons (dVar 2) aNil))) (.lst (T.map Tree.enc)) := EvE.cast (e_treesG (k := 24) gf (by omega) hm hz (by omega) (ev_var (v := .ref A.a)) (EvE.cast (g_fld t (ev_var (v := .ref A.a)) rfl) (by rw [ew])) (ev_var (v := .str z))) (by rw [eT])
        have hT : ∀ t ∈ T, TrM b (2 ^ hp.length - 1) t := fun t ht => ((fam_ok (b := b) (hp := hp) (ms := (finG b hp).1) 24).1 _ z (by have := gf.m32 hm; omega) hz t (by rw [← eT]; exact ht)).1
        obtain ⟨ts, pt, ets⟩ := perm_inv (f := Tree.enc) (List.mergeSort_perm (T.map Tree.enc) (PySem.W.dataLe false fun w => PyData.str (decT w).text)).symm rfl
        refine s_ret (v := .tup (ts.map Tree.enc)) (ev_if (k := true) (tn.cast (by simp [c0])) (fun _ => ev_tupleL (fun Q q => (eva1 eTr) _ ⟨T.map Tree.enc, fun w => .str (decT w).text, fun w => PyData.str (decT w).text, rfl, ⟨fun w _ => by rw [dat], ?_, .inr fun d hd => ?_, fun w _ => by show (0 : Nat) ≤ 20; decide, fun w hw Q' q' => ?_⟩, by rw [ets]; exact q⟩)) fun z => nomatch z) (RT.less l (q ts (by rw [eG]; exact pt)))
        · intro d hd d' hd'
          obtain ⟨_, _, rfl⟩ := List.mem_map.mp hd
          obtain ⟨_, _, rfl⟩ := List.mem_map.mp hd'
          rfl
        · obtain ⟨_, _, rfl⟩ := List.mem_map.mp hd
          exact ⟨fun e => (nomatch e), fun xs e => (nomatch e)⟩
        · obtain ⟨t, ht, rfl⟩ := List.mem_map.mp hw
          have tm := hT t ht
          rw [dec_enc] at q'
          refine ⟨t, rfl, by have := tm.ht; omega, ⟨fun y hy => (name_sign (names_name wf (lands_in t tm.ok y hy))).2.1, fun i hi => ?_, by have := tm.sz; omega⟩, q'⟩
          have := inH_rg hm i (tm.th.mem_iff.mp hi)
          have := pre.n5
          omega
end DL
namespace DL
open PySem PySem.Spec PyProof.Rows L2
def den_law (G : Gx) : SD := (sSeq (sSet 1 (dCall 0 S__law_begun aNil)) (sSeq (sFor (dRange1 (aCons (dC (.int 3)) aNil)) (.nm 2) (sSeq (sSet 3 (dCall 2 S__law_a_book (aCons (dVar 0) (aCons (dVar 1) aNil)))) (sSeq (sSet 4 (dCall 4 S__law_a_heap (aCons (dVar 0) (aCons (dVar 1) (aCons (dVar 3) (aCons (dC (.int 4)) aNil)))))) (sSeq (sSet 5 (dBin fIx (dBin fIx (dBin fIx (dVar 3) (dC (.int 0))) (dCall 3 S__law_draw (aCons (dVar 0) (aCons (dVar 1) (aCons (dCB fLen (aCons (dBin fIx (dVar 3) (dC (.int 0))) aNil)) aNil))))) (dC (.int 0)))) (sSeq (sSet 6 (dLcH (dRange1 (aCons (dC (.int 3)) aNil)) (.nm 10) tTrue (dCall 4 S__law_a_tree (aCons (dVar 0) (aCons (dVar 1) (aCons (dVar 3) (aCons (dListRange (dCB fLen (aCons (dVar 4) aNil))) aNil))))) [10])) (sSeq (sIf (dTest (dBin fLe (dCall 3 (S_how_many_tidy G) (aCons (dVar 3) (aCons (dVar 4) (aCons (dVar 5) aNil)))) (dC (.int 300)))) (sSeq (sSet 7 (dCall 3 (S_all_tidy G) (aCons (dVar 3) (aCons (dVar 4) (aCons (dVar 5) aNil))))) (sIf (dTest (dBin fNe (dVar 7) (dTup aNil))) (sSeq (sSet 8 (dBin fIx (dVar 7) (dCall 3 S__law_draw (aCons (dVar 0) (aCons (dVar 1) (aCons (dCB fLen (aCons (dVar 7) aNil)) aNil)))))) (sSeq (sSet 6 (dBin fAddH (dVar 6) (dLst (aCons (dVar 8) (aCons (dTup (aCons (dVar 5) (aCons (dTup (aCons (dVar 8) aNil)) aNil))) aNil))))) (sIf (dTruth (dCB fIsi (aCons (dVar 8) (aCons (dC (.ty "tuple")) aNil)))) (sExpr (dBM "list" fAppend (dVar 6) (aCons (dTup (aCons (dBin fIx (dVar 8) (dC (.int 0))) (aCons (dRev (dBin fIx (dVar 8) (dC (.int 1)))) aNil))) aNil))) sNext))) sNext)) sNext) (sSeq (sFor (dIt (dVar 6)) (.nm 8) (sSeq (sIf (dNot (dTruth (dCall 2 S__law_is (aCons (dCallK 2 1 S_is_tidy (aCons (dVar 3) (aCons (dVar 4) aNil)) (aCons (dVar 8) aNil)) (aCons (dCall 3 S__law_is_tidy (aCons (dVar 3) (aCons (dVar 4) (aCons (dVar 8) aNil)))) aNil))))) (sRet (dC (.bl false))) sNext) (sIf (dTest (dBin fNe (dCallK 0 1 S_levels_of aNil (aCons (dVar 8) aNil)) (dCall 1 S__law_level (aCons (dVar 8) aNil)))) (sRet (dC (.bl false))) sNext))) (sSeq (sFor (dIt (dTup (aCons (dC .non) (aCons (dC (.str "a")) (aCons (dTup aNil) (aCons (dLst (aCons (dC (.int 0)) aNil)) (aCons (dCB fLen (aCons (dVar 4) aNil)) (aCons (dTup (aCons (dVar 5) (aCons (dTup (aCons (dC (.int 0)) (aCons (dC (.int 0)) aNil))) aNil))) (aCons (dTup (aCons (dC (.str "zz")) (aCons (dTup (aCons (dC (.int 0)) aNil)) aNil))) (aCons (dTup (aCons (dVar 5) (aCons (dTup aNil) aNil))) aNil)))))))))) (.nm 9) (sIf (dNot (dTruth (dCall 2 S__law_is (aCons (dCall 3 S_is_tidy (aCons (dVar 3) (aCons (dVar 4) (aCons (dVar 9) aNil)))) (aCons (dC (.bl false)) aNil))))) (sRet (dC (.bl false))) sNext)) (sIf (dNot (dTruth (dCall 2 S__law_is (aCons (dCall 3 S_is_tidy (aCons (dVar 3) (aCons (dVar 4) (aCons (dC (.int 0)) aNil)))) (aCons (dC (.bl true)) aNil))))) (sRet (dC (.bl false))) sNext))))))))) (sRet (dC (.bl true)))))
end DL
namespace DL
open PySem PySem.Spec PyProof.Rows L2
theorem lcH_ind {di : ID} {t : Tg} {tt : TD} {te : ED} {vs : List Nat} {ρ : Sl} {h : Hv} {Q : PV} {E : PX} {items : List Val} {ok : Hv → Prop} (I : Addr → List Val → List Val → Hv → Prop) (hdi : ∀ R : Itr → Hv → Prop, R ⟨items, ok⟩ h → di ρ h R E)
    (h1 : ∀ D, h D = none → I D items [] (put h D .busy))
    (h0 : ∀ D acc h', I D [] acc h' → ok h' ∧ Q (.ref D) (put h' D (.lst acc)))
    (hs : ∀ D v r acc h', I D (v :: r) acc h' → ok h' ∧ ∃ ρ', bT t v (wipeA ρ vs) = some ρ' ∧ ∀ N : List Val → Hv → Prop, (∀ acc h2, I D r acc h2 → N acc h2) → tt ρ' h' (fun k h2 => if k = true then te ρ' h2 (fun u h3 => acc.length < sizeLine ∧ N (acc ++ [u]) h3) EF else N acc h2) EF) : dLcH di t tt te vs ρ h Q E := by
  refine hdi _ fun D nD => ?_
  have go : ∀ (r acc : List Val) (h' : Hv), I D r acc h' → lcL ok t tt te (wipeA ρ vs) r acc h' (fun acc h2 => Q (.ref D) (put h2 D (.lst acc))) := by
    intro r
    induction r with
    | nil => exact fun acc h' i => h0 D acc h' i
    | cons v r ih =>
      intro acc h' i
      obtain ⟨o, ρ', e, k⟩ := hs D v r acc h' i
      refine ⟨o, ?_⟩
      rw [e]
      exact k _ fun acc h2 z => ih acc h2 z
  exact go items [] _ (h1 D nD)
def GoodT (b : Book) (hp : Heap') (v : Val) : Prop := ∃ t : Tree, v = t.enc ∧ TrOk b hp t ∧ t.things.Nodup ∧ t.ht ≤ 13 ∧ t.size ≤ 100 ∧ okN 50 v = true
theorem htTs_leG {ts : List Tree} {n : Nat} (h : ∀ t ∈ ts, t.ht ≤ n) : htTs ts ≤ n := by
  induction ts with
  | nil => rw [htTs]; exact Nat.zero_le _
  | cons t ts ih =>
    rw [htTs]
    have := h t List.mem_cons_self
    have := ih fun u hu => h u (List.mem_cons_of_mem _ hu)
    omega
theorem sizeTs_sum (ts : List Tree) : sizeTs ts = (ts.map Tree.size).sum := by
  induction ts with
  | nil => rfl
  | cons t ts ih => rw [sizeTs, ih]; rfl
theorem good_up {b : Book} {hp : Heap'} {t : Tree} {z : Str} (hz : z ∈ b.names) (nz : okN 0 (.str z) = true) (ok : TrOk b hp t) (nd : t.things.Nodup) (hh : t.ht ≤ 12) (sz : t.size ≤ 99) (o : okN 40 t.enc = true) : GoodT b hp (.tup [.str z, .tup [t.enc]]) := by
  refine ⟨.node z [t], by rw [Tree.enc, encTs, encTs], ⟨⟨hz, by simp, ok.ok, trivial⟩, fun n hn => ok.rg n (by rw [Tree.things, thingsTs, thingsTs, List.append_nil] at hn; exact hn)⟩, by rw [Tree.things, thingsTs, thingsTs, List.append_nil]; exact nd, by rw [Tree.ht, htTs, htTs]; omega, by rw [Tree.size, sizeTs, sizeTs]; omega, ?_⟩
  rw [okN_tup]
  refine ⟨fun v hv => ?_, by simp⟩
  rcases List.mem_cons.mp hv with e | hv
  · rw [e]; exact okN_le nz (Nat.zero_le _)
  · rw [List.mem_singleton.mp hv, okN_tup]
    exact ⟨fun v hv => by rw [List.mem_singleton.mp hv]; exact okN_le o (by decide), by simp⟩
theorem good_rev {b : Book} {hp : Heap'} {ts : List Tree} {z : Str} (ok : TrOk b hp (.node z ts)) (nd : (Tree.node z ts).things.Nodup) (hh : (Tree.node z ts).ht ≤ 12) (sz : (Tree.node z ts).size ≤ 99) (o : okN 40 (Tree.node z ts).enc = true) : GoodT b hp (.tup [.str z, .tup (ts.map Tree.enc).reverse]) := by
  have hk := ok.ok
  have hk' : z ∈ b.names ∧ ts ≠ [] ∧ okTs b.names ts := hk
  have pm : (ts.reverse.flatMap Tree.things).Perm (ts.flatMap Tree.things) := (List.reverse_perm ts).flatMap_right _
  rw [Tree.things, thingsTs_map] at nd
  rw [Tree.ht] at hh
  rw [Tree.size, sizeTs_sum] at sz
  refine ⟨.node z ts.reverse, by rw [Tree.enc, encTs_map, List.map_reverse], ⟨⟨hk'.1, by simp [hk'.2.1], (okTs_iff _ _).mpr fun t ht => (okTs_iff _ _).mp hk'.2.2 t (List.mem_reverse.mp ht)⟩, fun n hn => ok.rg n ?_⟩, ?_, ?_, ?_, ?_⟩
  · rw [Tree.things, thingsTs_map] at hn ⊢
    exact pm.mem_iff.mp hn
  · rw [Tree.things, thingsTs_map]; exact pm.nodup_iff.mpr nd
  · rw [Tree.ht]
    have := htTs_leG (ts := ts.reverse) (n := htTs ts) fun t ht => htTs_mem (List.mem_reverse.mp ht)
    omega
  · rw [Tree.size, sizeTs_sum, List.map_reverse, ((List.reverse_perm (ts.map Tree.size)).sum_nat)]
    omega
  · rw [enc_nodeG, okN_tup] at o
    obtain ⟨o1, o2⟩ := o
    have o3 := o1 (.tup (ts.map Tree.enc)) (by simp)
    rw [okN_tup] at o3
    rw [okN_tup]
    refine ⟨fun v hv => ?_, by simp⟩
    rcases List.mem_cons.mp hv with e | hv
    · rw [e]; exact okN_le (o1 (.str z) (by simp)) (by decide)
    · rw [List.mem_singleton.mp hv, okN_tup]
      exact ⟨fun v hv => okN_le (o3.1 v (List.mem_reverse.mp hv)) (by decide), by rw [List.length_reverse]; exact o3.2⟩

theorem tbs_over {Ts : List (Addr × Str)} {h : Hv} {p : Addr} {o : Ob} (t : Tbs Ts h) (n1 : ∀ q, h p ≠ some (.tab q)) (n2 : ∀ q, o ≠ .tab q) : Tbs Ts (put h p o) :=
  ⟨fun x hx => by
    have e := t.has x hx
    have ne : x.1 ≠ p := fun z => n1 x.2 (by rw [← z]; exact e)
    rw [put_ne ne]; exact e, fun b q e => by
    by_cases c : b = p
    · rw [c, put_same] at e; exact absurd (Option.some.inj e) (n2 q)
    · rw [put_ne c] at e; exact t.all b q e⟩
theorem LSW.over {Ts : List (Addr × Str)} {t r p : Addr} {h : Hv} {o : Ob} (x : LSW Ts t r h) (pt : p ≠ t) (pr : p ≠ r) (n1 : ∀ q, h p ≠ some (.tab q)) (n2 : ∀ q, o ≠ .tab q) : LSW Ts t r (put h p o) := ⟨x.T.put pt pr, tbs_over x.tb n1 n2⟩
theorem fam_few {b : Book} {hp : Heap'} {z : Str} (wf : WFB b) (n4 : hp.length ≤ 4) (n1 : 1 ≤ hp.length) : (treesG b hp z).length ≤ 300 := by
  unfold treesG
  split
  · split <;> simp
  · split
    · have l := (fam_len (b := b) (hp := hp) (ms := (finG b hp).1) (names_len wf) 24).1 (2 ^ hp.length - 1) z (by
        have : 2 ^ hp.length ≤ 2 ^ 4 := Nat.pow_le_pow_right (by decide) n4
        omega)
      have : ∀ n : Nat, n < 5 → tT (setI (2 ^ n - 1)).length ≤ 300 := by decide +kernel
      exact Nat.le_trans l (this hp.length (by omega))
    · simp
theorem tree_of {G : Gx} {h : Hv} {b : Book} {hp : Heap'} {z : Str} (pre : GPre G h b hp) (hz : z ∈ b.names) : ∀ t ∈ treesG b hp z, TrOk b hp t ∧ t.things.Nodup ∧ t.ht ≤ 8 ∧ t.size ≤ 30 := fun t ht => by
  unfold treesG at ht
  have n5 := pre.n5
  have n1 := pre.n1
  split at ht
  · split at ht
    · rw [List.mem_singleton.mp ht]
      exact ⟨⟨trivial, fun n hn => by rw [Tree.things, List.mem_singleton] at hn; omega⟩, by rw [Tree.things]; simp, by rw [Tree.ht]; omega, by rw [Tree.size]; omega⟩
    · exact absurd ht (by simp)
  · split at ht
    · have hm : inH hp (2 ^ hp.length - 1) := by
        have : 1 ≤ 2 ^ hp.length := Nat.one_le_two_pow
        show 2 ^ hp.length - 1 < 2 ^ hp.length; omega
      have m2 : 2 ^ hp.length ≤ 2 ^ 5 := Nat.pow_le_pow_right (by decide) n5
      have tm := ((fam_ok (b := b) (hp := hp) (ms := (finG b hp).1) 24).1 _ z (by omega) hz t ht).1
      have s5 := set_fine n5
      have h1 := tm.ht
      have h2 := tm.sz
      exact ⟨⟨tm.ok, fun n hn => inH_rg hm n (tm.th.mem_iff.mp hn)⟩, tm.th.nodup_iff.mpr (setI_nodup _), by omega, by omega⟩
    · exact absurd ht (by simp)
theorem eqvAll_lenG : ∀ (xs ys : List PyData), PyData.eqvAll xs ys = true → xs.length = ys.length
  | [], [], _ => rfl
  | [], _ :: _, h => by simp [PyData.eqvAll] at h
  | _ :: _, [], h => by simp [PyData.eqvAll] at h
  | x :: xs, y :: ys, h => by
    rw [PyData.eqvAll, Bool.and_eq_true] at h
    rw [List.length_cons, List.length_cons, eqvAll_lenG xs ys h.2]
theorem dats_lenG : ∀ (vs : List Val) (ds : List PyData), dats vs = some ds → ds.length = vs.length
  | [], ds, e => by rw [dats] at e; cases e; rfl
  | v :: vs, ds, e => by
    rw [dats] at e
    split at e
    · rename_i d ds' h1 h2
      cases e
      rw [List.length_cons, List.length_cons, dats_lenG vs ds' h2]
    · cases e
theorem eqD_tlenG {vs ws : List Val} (h : eqD (.tup vs) (.tup ws) = true) : vs.length = ws.length := by
  unfold eqD at h
  rw [dat, dat] at h
  cases h1 : dats vs with
  | none => rw [h1] at h; cases h
  | some ds =>
    cases h2 : dats ws with
    | none => rw [h1, h2] at h; cases h
    | some es =>
      rw [h1, h2] at h
      have h : PyData.eqvAll ds es = true := h
      rw [← dats_lenG vs ds h1, ← dats_lenG ws es h2]
      exact eqvAll_lenG ds es h
theorem eqD_tnil {v : Val} {vs : List Val} : eqD (.tup (v :: vs)) (.tup []) = false := by
  cases e : eqD (.tup (v :: vs)) (.tup []) with
  | false => rfl
  | true => have := eqD_tlenG e; simp at this
section
variable {G : Gx} {b : Book} {hp : Heap'} {ρ : Sl} {h : Hv} {E : PX} {d1 d2 d3 : ED}
theorem ev_good {v : Val} (wf : WFB b) (g : GoodT b hp v) (h1 : EvE ρ h E d1 (encB b)) (h2 : EvE ρ h E d2 (encH hp)) (h3 : EvE ρ h E d3 v) : ∃ k, EvE ρ h E (dCallK 2 1 S_is_tidy (aCons d1 (aCons d2 aNil)) (aCons d3 aNil)) (.bl k) ∧ EvE ρ h E (dCall 3 S__law_is_tidy (aCons d1 (aCons d2 (aCons d3 aNil)))) (.bl k) := by
  obtain ⟨t, rfl, ok, nd, hh, sz, o⟩ := g
  have o60 : okN 60 t.enc = true := okN_le o (by decide)
  refine ⟨t.tidy b hp, fun Q q => (eva2 h1 h2) _ ((eva1 h3) _ ⟨⟨rfl, rfl⟩, b, hp, t.enc, rfl, wf, o60, .inl ⟨t, rfl, ok, by omega, by omega, nd, isSh_ok ok.ok ok.rg (by omega), q⟩⟩), ev_call (eva_cons h1 (eva2 h2 h3)) rfl fun Q q => ⟨b, hp, t, rfl, wf, ok, by omega, by omega, by omega, o60, q⟩⟩
theorem ev_levG {v : Val} (g : GoodT b hp v) (h3 : EvE ρ h E d3 v) : ∃ i : Int, EvE ρ h E (dCallK 0 1 S_levels_of aNil (aCons d3 aNil)) (.int i) ∧ EvE ρ h E (dCall 1 S__law_level (aCons d3 aNil)) (.int i) := by
  obtain ⟨t, rfl, ok, nd, hh, sz, o⟩ := g
  exact ⟨(t.ht : Int), fun Q q => eva_nil _ ((eva1 h3) _ ⟨⟨rfl, rfl⟩, b.names, t, rfl, by omega, ⟨ok.ok, by omega⟩, q⟩), ev_call (eva1 h3) rfl fun Q q => ⟨b.names, t, rfl, by omega, ⟨ok.ok, by omega⟩, q⟩⟩
def OddT (b : Book) (hp : Heap') (v : Val) : Prop := okN 60 v = true ∧ (isSh b hp.length 24 v = some false ∨ ∃ t : Tree, v = t.enc ∧ t.ht < 24 ∧ isSh b hp.length 24 v = some true ∧ t.things.length ≤ 1000 ∧ ¬t.things.Nodup)
theorem ev_oddT {v : Val} (wf : WFB b) (g : OddT b hp v) (h1 : EvE ρ h E d1 (encB b)) (h2 : EvE ρ h E d2 (encH hp)) (h3 : EvE ρ h E d3 v) : EvE ρ h E (dCall 3 S_is_tidy (aCons d1 (aCons d2 (aCons d3 aNil)))) (.bl false) := ev_call (eva_cons h1 (eva2 h2 h3)) rfl fun Q q => ⟨b, hp, v, rfl, wf, g.1, .inr ⟨g.2, q⟩⟩
theorem ev_isL {k : Bool} (h1 : EvE ρ h E d1 (.bl k)) (h2 : EvE ρ h E d2 (.bl k)) : EvT ρ h E (dNot (dTruth (dCall 2 S__law_is (aCons d1 (aCons d2 aNil))))) false := (evt_not (k := true) (evt_truthB (ev_call (eva2 h1 h2) rfl fun Q q => ⟨k, k, rfl, by rw [beq_self_eq_true]; exact q⟩))).cast rfl
end
theorem odds26 {b : Book} {hp : Heap'} {z : Str} (db : Drawn b) (hz : z ∈ b.names) (n1 : 1 ≤ hp.length) : ∀ v ∈ ([.non, .str "a", .tup [], .lst [.int 0], .int (hp.length : Int), .tup [.str z, .tup [.int 0, .int 0]], .tup [.str "zz", .tup [.int 0]], .tup [.str z, .tup []]] : List Val), OddT b hp v := fun v hv => by
  have nz := db.nz z hz
  have zz : ("zz" : Str) ∉ b.names := by
    have := (zz_odd db).2
    rw [inA_str] at this
    exact of_decide_eq_false this
  have oz : ∀ k, okN k (.str z) = true := fun k => okN_le nz (Nat.zero_le _)
  simp only [List.mem_cons, List.not_mem_nil, or_false] at hv
  rcases hv with e | e | e | e | e | e | e | e <;> subst e
  · exact ⟨rfl, .inl rfl⟩
  · exact ⟨by decide +kernel, .inl rfl⟩
  · exact ⟨rfl, .inl rfl⟩
  · exact ⟨rfl, .inl rfl⟩
  · refine ⟨rfl, .inl ?_⟩
    show some (isNum (.int (hp.length : Int)) 0 ((hp.length : Int) - 1)) = some false
    show some (decide ((0 : Int) ≤ (hp.length : Int)) && decide ((hp.length : Int) ≤ (hp.length : Int) - 1)) = some false
    rw [decide_eq_false (p := (hp.length : Int) ≤ (hp.length : Int) - 1) (by omega), Bool.and_false]
  · refine ⟨?_, .inr ⟨.node z [.leaf 0, .leaf 0], by rw [Tree.enc, encTs, encTs, encTs, Tree.enc], by rw [Tree.ht, htTs, htTs, htTs, Tree.ht]; decide, ?_, by rw [Tree.things, thingsTs, thingsTs, thingsTs, Tree.things]; simp, by rw [Tree.things, thingsTs, thingsTs, thingsTs, Tree.things]; simp⟩⟩
    · rw [okN_tup]
      refine ⟨fun v hv => ?_, by simp⟩
      rcases List.mem_cons.mp hv with e | hv
      · rw [e]; exact oz _
      · rw [List.mem_singleton.mp hv]; rfl
    · have := isSh_ok (b := b) (many := (hp.length : Int)) (d := 24) (t := .node z [.leaf 0, .leaf 0]) ⟨hz, by simp, trivial, trivial, trivial⟩ (fun n hn => by
        rw [Tree.things, thingsTs, thingsTs, thingsTs, Tree.things] at hn
        simp at hn
        omega) (by rw [Tree.ht, htTs, htTs, htTs, Tree.ht]; decide)
      rw [Tree.enc, encTs, encTs, encTs, Tree.enc] at this
      exact this
  · refine ⟨by decide +kernel, .inl ?_⟩
    show (if ("zz" : Str) ∈ b.names ∧ ([.int 0] : List Val) ≠ [] then _ else some false) = some false
    rw [if_neg (fun h => zz h.1)]
  · refine ⟨?_, .inl ?_⟩
    · rw [okN_tup]
      refine ⟨fun v hv => ?_, by simp⟩
      rcases List.mem_cons.mp hv with e | hv
      · rw [e]; exact oz _
      · rw [List.mem_singleton.mp hv]; rfl
    · show (if z ∈ b.names ∧ ([] : List Val) ≠ [] then _ else some false) = some false
      rw [if_neg (fun h => h.2 rfl)]

set_option maxHeartbeats 4000000 in
theorem bo_law (G : Gx) (N : List Str) (hN : N.length = 11) : ∀ as h Q E, as.length = 1 → S_lawN ["Groupings.__init__"] G as h Q E → den_law G (startA N as) h (endsR Q) (RX E) := by
  rintro as h0 Q E - ⟨ns, rfl, nl, gns, tb0, q⟩
  have iG : ("Groupings.__init__" : Str) ∈ G.ns := by rw [gns]; decide
  unfold den_law
  simp only [startA, hN]
  refine ss_begun tb0 fun t r h1 T1 tb1 => ?_
  refine ss_for (evi_range1 (n := 3) ev_c (by decide)) fun dd hdd => ?_
  refine for_ind (fun vs ρ h => LSW G.Ts t r h ∧ ∃ x2 x3 x4 x5 x6 x7 x8 x9 x10 : Option Val, ρ = [some (.scr ns), some (.ref t), x2, x3, x4, x5, x6, x7, x8, x9, x10]) ?_ ?_ _ _ _ ⟨⟨T1, tb1⟩, none, none, none, none, none, none, none, none, none, rfl⟩
  · rintro ρ h ⟨_, x2, x3, x4, x5, x6, x7, x8, x9, x10, rfl⟩
    refine ⟨trivial, ?_⟩
    dsimp only
    exact s_ret ev_c (RT.same (q _))
  rintro v2 vs ρ h ⟨s1, x2, x3, x4, x5, x6, x7, x8, x9, x10, rfl⟩
  refine ⟨trivial, _, rfl, fun N hN => ?_⟩
  subst hdd
  refine ss_book nl s1.T s1.tb ev_var ev_var fun b h2 db T2 tb2 _ => ?_
  have wf := db.wf
  have n4 := wf.n4
  have bn1 := wf.n1
  have nz := db.nz
  refine ss_heap (most := 4) nl (by decide) (by decide) n4 T2 tb2 ev_var ev_var (ev_var (v := encB b)) ev_c fun hp h3 dh T3 tb3 _ => ?_
  have ho : HpOk b hp := drawn_hp dh (by decide)
  have hl1 := dh.n1
  have hl4 : hp.length ≤ 4 := by have := dh.nm; omega
  refine x_set (e_drawName wf nl T3 tb3 (ev_var (v := .scr ns)) (ev_var (v := .ref t)) (ev_var (v := encB b)) (ev_var (v := encB b)) fun z h4 hz T4 tb4 _ => ?_)
  have nzz := nz z hz
  show sSeq _ _ [some (.scr ns), some (.ref t), some v2, some (encB b), some (encH hp), some (.str z), x6, x7, x8, x9, x10] h4 _ _
  have lenH : ∀ {ρ : Sl} {h : Hv} {E : PX}, ρ[4]? = some (some (encH hp)) → EvE ρ h E (dCB fLen (aCons (dVar 4) aNil)) (.int (hp.length : Int)) := fun e => ev_cb (eva1 (ev_var e)) (c_len (n := hp.length) (by unfold encH; simp))
  -- three drawn trees
  refine x_set ?_
  refine lcH_ind (ok := fun _ => True) (items := (rngI 3).map Val.int) (fun D items acc h' => acc.length + items.length = 3 ∧ (∀ v ∈ acc, GoodT b hp v) ∧ LSW G.Ts t r h' ∧ h' D = some .busy ∧ D ≠ t ∧ D ≠ r) (fun R q => evi_rngW (n := 3) ev_c (by decide) _ q) (fun D nD => ?_) (fun D acc h' ⟨la, ga, ls, bD, dt, dr⟩ => ⟨trivial, ?_⟩) (fun D v rr acc h' ⟨la, ga, ls, bD, dt, dr⟩ => ⟨trivial, _, rfl, fun N1 hN1 => ?_⟩)
  · obtain ⟨dt, dr⟩ := T4.fresh nD
    exact ⟨rfl, fun v hv => absurd hv (by simp), ⟨T4.put dt dr, tb4.put nD (fun _ z => nomatch z)⟩, put_same, dt, dr⟩
  rotate_left
  · -- one drawn tree
    rw [List.length_cons] at la
    have gg : ∀ {ρ : Sl} {te : ED} {Q1 : PV} {Q2 : Hv → Prop} {h : Hv}, te ρ h Q1 EF → tTrue ρ h (fun k h2 => if k = true then te ρ h2 Q1 EF else Q2 h2) EF := fun q => q
    refine gg ?_
    refine e_call (eva_cons (ev_var (v := .scr ns)) (eva_cons (ev_var (v := .ref t)) (eva2 (ev_var (v := encB b)) (w := .lst ((rngI hp.length).map .int)) fun Q q => (lenH rfl) _ ⟨by omega, by omega, by rw [Int.toNat_natCast]; exact q⟩))) rfl ⟨ns, t, r, b, rngI hp.length, rfl, nl, bn1, n4, nz, by rw [len_rngW]; omega, by rw [len_rngW]; omega, ls.T, fun tr h5 okt pm hh ll okn T5 o5 => ⟨by rw [sizeLine_eq]; omega, hN1 _ _ ⟨by rw [List.length_append]; simp; omega, fun v hv => ?_, ls.only T5 o5, by rw [o5 D dt dr]; exact bD, dt, dr⟩⟩⟩
    rcases List.mem_append.mp hv with hv | hv
    · exact ga v hv
    · rw [List.mem_singleton.mp hv]
      have tl := pm.length_eq
      rw [len_rngW] at tl
      refine ⟨tr, rfl, ⟨okt, fun n hn => mem_rngW.mp (pm.mem_iff.mp hn)⟩, pm.nodup_iff.mpr ?_, by omega, by rw [size_eq]; omega, okN_le okn (by decide)⟩
      unfold rngI
      exact List.Pairwise.map _ (fun a c h => by intro e; exact h (by omega)) List.nodup_range
  -- the list of trees
  have nb : ∀ q, h' D ≠ some (.tab q) := fun q e => by rw [bD] at e; cases e
  have ls2 : LSW G.Ts t r (put h' D (.lst acc)) := ls.over dt dr nb fun q e => nomatch e
  simp only [List.length_nil, Nat.add_zero] at la
  show sSeq _ _ [some (.scr ns), some (.ref t), some v2, some (encB b), some (encH hp), some (.str z), some (.ref D), x7, x8, x9, x10] _ _ _
  -- what comes behind
  have rest : ∀ {D : Addr} {acc : List Val} {h : Hv} {x7 x8 : Option Val} {DD : AE}, DD.nx = N → h D = some (.lst acc) → acc.length ≤ 10 → (∀ v ∈ acc, GoodT b hp v) → LSW G.Ts t r h → sSeq (sFor (dIt (dVar 6)) (.nm 8) (sSeq (sIf (dNot (dTruth (dCall 2 S__law_is (aCons (dCallK 2 1 S_is_tidy (aCons (dVar 3) (aCons (dVar 4) aNil)) (aCons (dVar 8) aNil)) (aCons (dCall 3 S__law_is_tidy (aCons (dVar 3) (aCons (dVar 4) (aCons (dVar 8) aNil)))) aNil))))) (sRet (dC (.bl false))) sNext) (sIf (dTest (dBin fNe (dCallK 0 1 S_levels_of aNil (aCons (dVar 8) aNil)) (dCall 1 S__law_level (aCons (dVar 8) aNil)))) (sRet (dC (.bl false))) sNext))) (sSeq (sFor (dIt (dTup (aCons (dC .non) (aCons (dC (.str "a")) (aCons (dTup aNil) (aCons (dLst (aCons (dC (.int 0)) aNil)) (aCons (dCB fLen (aCons (dVar 4) aNil)) (aCons (dTup (aCons (dVar 5) (aCons (dTup (aCons (dC (.int 0)) (aCons (dC (.int 0)) aNil))) aNil))) (aCons (dTup (aCons (dC (.str "zz")) (aCons (dTup (aCons (dC (.int 0)) aNil)) aNil))) (aCons (dTup (aCons (dVar 5) (aCons (dTup aNil) aNil))) aNil)))))))))) (.nm 9) (sIf (dNot (dTruth (dCall 2 S__law_is (aCons (dCall 3 S_is_tidy (aCons (dVar 3) (aCons (dVar 4) (aCons (dVar 9) aNil)))) (aCons (dC (.bl false)) aNil))))) (sRet (dC (.bl false))) sNext)) (sIf (dNot (dTruth (dCall 2 S__law_is (aCons (dCall 3 S_is_tidy (aCons (dVar 3) (aCons (dVar 4) (aCons (dC (.int 0)) aNil)))) (aCons (dC (.bl true)) aNil))))) (sRet (dC (.bl false))) sNext)) [some (.scr ns), some (.ref t), some v2, some (encB b), some (encH hp), some (.str z), some (.ref D), x7, x8, x9, x10] h DD (RX E) := fun {D acc h x7 x8 DD} eD hD la ga ls => by
    refine ss_for (evi_it (it := ⟨acc, fun h' => h' D = some (.lst acc)⟩) (ev_var (v := .ref D)) (by unfold iterOf; simp only [hD])) fun dd hdd => ?_
    refine for_ind (fun vs ρ h' => h' = h ∧ (∀ v ∈ vs, GoodT b hp v) ∧ ∃ x8 : Option Val, ρ = [some (.scr ns), some (.ref t), some v2, some (encB b), some (encH hp), some (.str z), some (.ref D), x7, x8, x9, x10]) ?_ ?_ _ _ _ ⟨rfl, ga, x8, rfl⟩
    · rintro ρ h' ⟨rfl, -, x8, rfl⟩
      refine ⟨hD, ?_⟩
      dsimp only
      refine ss_for (evi_it (v := .tup [.non, .str "a", .tup [], .lst [.int 0], .int (hp.length : Int), .tup [.str z, .tup [.int 0, .int 0]], .tup [.str "zz", .tup [.int 0]], .tup [.str z, .tup []]]) (ev_tup (eva_cons ev_c (eva_cons ev_c (eva_cons (ev_tup eva_nil (Nat.zero_le _)) (eva_cons (ev_lst (eva1 ev_c) (by rw [sizeLine_eq]; simp)) (eva_cons (lenH rfl) (eva_cons (ev_tup (eva2 (ev_var (v := .str z)) (ev_tup (eva2 ev_c ev_c) (by rw [sizeLine_eq]; simp))) (by rw [sizeLine_eq]; simp)) (eva2 (ev_tup (eva2 ev_c (ev_tup (eva1 ev_c) (by rw [sizeLine_eq]; simp))) (by rw [sizeLine_eq]; simp)) (ev_tup (eva2 (ev_var (v := .str z)) (ev_tup eva_nil (Nat.zero_le _))) (by rw [sizeLine_eq]; simp))))))))) (by rw [sizeLine_eq]; simp)) rfl) fun d2 hd2 => ?_
      refine for_ind (fun vs ρ h2 => h2 = h' ∧ (∀ v ∈ vs, OddT b hp v) ∧ ∃ x9 : Option Val, ρ = [some (.scr ns), some (.ref t), some v2, some (encB b), some (encH hp), some (.str z), some (.ref D), x7, x8, x9, x10]) ?_ ?_ _ _ _ ⟨rfl, odds26 db hz hl1, x9, rfl⟩
      · rintro ρ h2 ⟨rfl, -, x9, rfl⟩
        refine ⟨trivial, ?_⟩
        dsimp only
        have ok0 : TrOk b hp (.leaf 0) := ⟨trivial, fun n hn => by rw [Tree.things, List.mem_singleton] at hn; omega⟩
        refine so_no (ev_isL (k := true) (EvE.cast (ev_call (u := .bl ((Tree.leaf 0).tidy b hp)) (eva_cons (ev_var (v := encB b)) (eva2 (ev_var (v := encH hp)) (ev_c (v := .int 0)))) rfl fun Q q => ⟨b, hp, .int 0, rfl, wf, rfl, .inl ⟨.leaf 0, by rw [Tree.enc], ok0, by rw [Tree.ht]; decide, by rw [Tree.size]; decide, by rw [Tree.things]; simp, by
          have := isSh_ok (b := b) (many := (hp.length : Int)) (d := 24) (t := .leaf 0) ok0.ok ok0.rg (by rw [Tree.ht]; decide)
          rw [Tree.enc] at this
          exact this, q⟩⟩) (by rw [Tree.tidy])) ev_c) ?_
        rw [eD]
        exact hN _ _ ⟨ls, _, _, _, _, _, _, _, _, _, rfl⟩
      · rintro v vs ρ h2 ⟨rfl, ho2, x9, rfl⟩
        refine ⟨trivial, _, rfl, fun N2 hN2 => ?_⟩
        subst hd2
        exact so_no (ev_isL (k := false) (ev_oddT wf (ho2 v List.mem_cons_self) (ev_var (v := encB b)) (ev_var (v := encH hp)) (ev_var (v := v))) ev_c) (hN2 _ _ ⟨rfl, fun u hu => ho2 u (List.mem_cons_of_mem _ hu), _, rfl⟩)
    · rintro v vs ρ h' ⟨rfl, gv, x8, rfl⟩
      refine ⟨hD, _, rfl, fun N2 hN2 => ?_⟩
      subst hdd
      have g := gv v List.mem_cons_self
      have v3 : ∀ {h : Hv} {E : PX}, EvE [some (.scr ns), some (.ref t), some v2, some (encB b), some (encH hp), some (.str z), some (.ref D), x7, some v, x9, x10] h E (dVar 8) v := ev_var
      obtain ⟨k, e1, e2⟩ := ev_good (ρ := [some (.scr ns), some (.ref t), some v2, some (encB b), some (encH hp), some (.str z), some (.ref D), x7, some v, x9, x10]) (h := h') (E := RX E) wf g (ev_var (i := 3) (v := encB b)) (ev_var (i := 4) (v := encH hp)) (ev_var (i := 8) (v := v))
      obtain ⟨i, e3, e4⟩ := ev_levG (ρ := [some (.scr ns), some (.ref t), some v2, some (encB b), some (encH hp), some (.str z), some (.ref D), x7, some v, x9, x10]) (h := h') (E := RX E) g (ev_var (i := 8) (v := v))
      refine ss_no (ev_isL e1 e2) ?_
      exact so_no ((evt_test (ev_bin e3 e4 f_neIW)).cast (by rw [decide_eq_true rfl]; rfl)) (hN2 _ _ ⟨rfl, fun u hu => gv u (List.mem_cons_of_mem _ hu), _, rfl⟩)
  have pre : ∀ {h : Hv}, LSW G.Ts t r h → GPre G h b hp := fun ls => ⟨wf, ho, hl1, by omega, ls.tb, iG⟩
  refine ss_if (evt_test (ev_bin (ev_call (u := .int (tidyN b hp z)) (eva_cons (ev_var (v := encB b)) (eva2 (ev_var (v := encH hp)) (ev_var (v := .str z)))) rfl fun Q q => ⟨b, hp, .str z, rfl, pre ls2, .inl ⟨z, rfl, hz, q⟩⟩) ev_c f_leI)) (fun c => ?_) fun c => ?_
  rotate_left
  · refine s_next ?_
    dsimp only
    exact rest rfl put_same (by omega) ga ls2
  have c := of_decide_eq_true c
  refine x_set (e_call (eva_cons (ev_var (v := encB b)) (eva2 (ev_var (v := encH hp)) (ev_var (v := .str z)))) rfl ⟨b, hp, .str z, rfl, pre ls2, .inl ⟨z, rfl, hz, .inr ⟨c, fun ts pts => ?_⟩⟩⟩)
  have tok : ∀ t ∈ ts, TrOk b hp t ∧ t.things.Nodup ∧ t.ht ≤ 8 ∧ t.size ≤ 30 := fun t ht => tree_of (pre ls2) hz t (pts.mem_iff.mp ht)
  have okn : ∀ t ∈ ts, okN 40 t.enc = true := fun t ht => by
    obtain ⟨a1, a2, a3, a4⟩ := tok t ht
    have := things_size t
    exact okN_le (okN_encT nz t a1.ok (by omega)) (by omega)
  have lts : ts.length ≤ 300 := by rw [pts.length_eq]; exact fam_few wf hl4 hl1
  have okT : okN 64 (.tup (ts.map Tree.enc)) = true := by
    rw [okN_tup]
    refine ⟨fun v hv => ?_, by rw [List.length_map]; omega⟩
    obtain ⟨t, ht, rfl⟩ := List.mem_map.mp hv
    exact okN_le (okn t ht) (by decide)
  show sIf _ _ _ [some (.scr ns), some (.ref t), some v2, some (encB b), some (encH hp), some (.str z), some (.ref D), some (.tup (ts.map Tree.enc)), x8, x9, x10] _ _ _
  refine s_if (k := !ts.isEmpty) (evt_test (ev_bin (ev_var (v := .tup (ts.map Tree.enc))) (ev_tup eva_nil (Nat.zero_le _)) fun Q q => fNe_dat okT rfl (by
    have : eqD (.tup (ts.map Tree.enc)) (.tup []) = ts.isEmpty := by
      cases ts with
      | nil => rfl
      | cons t ts => rw [List.map_cons, eqD_tnil]; rfl
    rw [this]; exact q) rfl)) (fun ce => ?_) fun ce => ?_
  rotate_left
  · refine s_next ?_
    dsimp only
    exact rest rfl put_same (by omega) ga ls2
  have tne : 1 ≤ ts.length := by
    cases ts with
    | nil => cases ce
    | cons _ _ => simp
  refine x_set (x_binW (x_evW (ev_var (v := .tup (ts.map Tree.enc))) (e_draw (m := (ts.length : Int)) nl (by omega) (by omega) ls2.T ls2.tb (ev_var (v := .scr ns)) (ev_var (v := .ref t)) (EvE.cast (ev_cb (eva1 (ev_var (v := .tup (ts.map Tree.enc)))) c_lenT) (by rw [List.length_map])) fun i h5 i0 i1 T5 tb5 o5 => ?_)))
  obtain ⟨i, rfl⟩ := Int.eq_ofNat_of_zero_le i0
  have il : i < ts.length := by omega
  obtain ⟨tr, etr⟩ : ∃ tr, tr = ts[i] := ⟨_, rfl⟩
  have htr : tr ∈ ts := by rw [etr]; exact List.getElem_mem il
  obtain ⟨a1, a2, a3, a4⟩ := tok tr htr
  have o40 := okn tr htr
  refine f_ixI (u := tr.enc) (vs := ts.map Tree.enc) rfl (by omega) (by rw [Int.toNat_natCast, List.getElem?_map, List.getElem?_eq_getElem il, etr]; rfl) _ ?_
  have ls5 : LSW G.Ts t r h5 := ⟨T5, tb5⟩
  have hD5 : h5 D = some (.lst acc) := by rw [o5 D dt dr, put_same]
  show sSeq _ _ [some (.scr ns), some (.ref t), some v2, some (encB b), some (encH hp), some (.str z), some (.ref D), some (.tup (ts.map Tree.enc)), some tr.enc, x9, x10] h5 _ _
  have g1 : GoodT b hp tr.enc := ⟨tr, rfl, a1, a2, by omega, by omega, okN_le o40 (by decide)⟩
  have g2 := good_up (t := tr) hz nzz a1 a2 (by omega) (by omega) o40
  refine x_set (x_binW (x_evW (ev_var (v := .ref D)) (x_evW (v := .lst [tr.enc, .tup [.str z, .tup [tr.enc]]]) (ev_lst (eva2 (ev_var (v := tr.enc)) (ev_tup (eva2 (ev_var (v := .str z)) (ev_tup (eva1 (ev_var (v := tr.enc))) (by rw [sizeLine_eq]; simp))) (by rw [sizeLine_eq]; simp))) (by rw [sizeLine_eq]; simp)) ?_)))
  show (match listOf (.ref D) h5, listOf (.lst [tr.enc, .tup [.str z, .tup [tr.enc]]]) h5 with
    | some xs, some ys => xs.length + ys.length ≤ sizeLine ∧ ∀ p, h5 p = none → _
    | _, _ => False)
  have eL : listOf (.ref D) h5 = some acc := by simp only [listOf, hD5]
  rw [eL]
  refine ⟨by rw [sizeLine_eq]; simp; omega, fun p np => ?_⟩
  obtain ⟨pt, pr⟩ := T5.fresh np
  have ls6 : LSW G.Ts t r (put h5 p (.lst (acc ++ [tr.enc, .tup [.str z, .tup [tr.enc]]]))) := ⟨T5.put pt pr, tb5.put np (fun _ z => nomatch z)⟩
  have ga2 : ∀ v ∈ acc ++ [tr.enc, .tup [.str z, .tup [tr.enc]]], GoodT b hp v := fun v hv => by
    rcases List.mem_append.mp hv with hv | hv
    · exact ga v hv
    · rcases List.mem_cons.mp hv with e | hv
      · rw [e]; exact g1
      · rw [List.mem_singleton.mp hv]; exact g2
  show sIf _ _ _ [some (.scr ns), some (.ref t), some v2, some (encB b), some (encH hp), some (.str z), some (.ref p), some (.tup (ts.map Tree.enc)), some tr.enc, x9, x10] _ _ _
  refine s_if (evt_isTup (ev_var (v := tr.enc))) (fun ck => ?_) fun ck => ?_
  rotate_left
  · refine s_next ?_
    dsimp only
    exact rest rfl put_same (by rw [List.length_append]; simp; omega) ga2 ls6
  cases tr with
  | leaf n => cases ck
  | node y us =>
    have vT : ∀ {h : Hv} {E : PX}, EvE [some (.scr ns), some (.ref t), some v2, some (encB b), some (encH hp), some (.str z), some (.ref p), some (.tup (ts.map Tree.enc)), some (Tree.node y us).enc, x9, x10] h E (dVar 8) (.tup [.str y, .tup (us.map Tree.enc)]) := EvE.cast ev_var (enc_nodeG y us)
    have g3 := good_rev a1 a2 (by omega) (by omega) o40
    refine s_appG (r := p) (ev_var (v := .ref p)) put_same (by rw [List.length_append, sizeLine_eq]; simp; omega) (w := .tup [.str y, .tup (us.map Tree.enc).reverse]) (ev_tup (eva2 (ev_bin vT ev_c (f_ixI (i := 0) (u := .str y) rfl (by decide) rfl)) (fun Q q => ev_bin vT ev_c (f_ixI (i := 1) (u := .tup (us.map Tree.enc)) rfl (by decide) rfl) _ q)) (by rw [sizeLine_eq]; simp)) ?_
    dsimp only
    rw [put_put]
    refine rest rfl put_same (by rw [List.length_append, List.length_append]; simp; omega) (fun v hv => ?_) ⟨T5.put pt pr, tb5.put np (fun _ z => nomatch z)⟩
    rcases List.mem_append.mp hv with hv | hv
    · exact ga2 v hv
    · rw [List.mem_singleton.mp hv]; exact g3
end DL
namespace DL
open PySem PySem.Spec PyProof.Rows L2
def exX (rs : List Str) (tf : List He.Defn) (K : PySem.W.Frag) : Bool := rs.all (fun x => He.eqO (PySem.W.nsIn K mainGlobals x) (some (some (.ref (He.ga K x)))) && excRB K x) && decide ((tf.map fun p => (He.cT K p).2).Nodup)
theorem exX_ok {rs : List Str} {tf : List He.Defn} {K : PySem.W.Frag} {h : Heap} {mg : Str → Option Value} (X : K.In h) (G : h.Ns mainGlobals mg) (e : exX rs tf K = true) : (∀ x ∈ rs, XcR K mg x) ∧ (tf.map fun p => (He.cT K p).2).Nodup := by
  unfold exX at e
  simp only [Bool.and_eq_true, List.all_eq_true, decide_eq_true_eq] at e
  refine ⟨fun x hx => ?_, e.2⟩
  obtain ⟨e1, r⟩ := e.1 x hx
  unfold excRB at r
  simp only [Bool.and_eq_true, decide_eq_true_eq] at r
  exact ⟨He.ga K x, PySem.W.mg_of X G (He.eqO_ok e1), r.1, r.2.1, r.2.2.1, r.2.2.2⟩
end DL
namespace DL
open PySem PySem.Spec PyProof.Rows L2
def topS (i : Nat) : Stmt := PySem.Challenge.pw_countsfrom_k26_judged.main.body.getD i (.Pass ⟨0, 0, 0, 0⟩)
abbrev s_is_number : Stmt := topS 5
abbrev N_is_number : List Str := ["thing", "least", "most"]
theorem sc_is_number : FnScope N_is_number ["thing", "least", "most"] (defScope s_is_number) := ⟨rfl, rfl, rfl, by decide +kernel, rfl, by decide +kernel, by decide +kernel⟩
theorem ok_is_number {P : Program} {w : World} {K : PySem.W.Frag} {mg : Str → Option Value} {base : Heap} {f : Addr} {fd : FuncData} (F : Fun K "is_number" "is_number" s_is_number f fd) (m_bool : mg "bool" = none) (m_int : mg "int" = none) (m_isinstance : mg "isinstance" = none) :
    FnOk P w K mg base (L2.CX P w) 1 f fd ["thing", "least", "most"] (spA K mg 3 S_is_number) := by
  refine fn_mk (den := den_is_number) F sc_is_number (fun cdv A outer s H E B hr tk => ?_) (bo_is_number N_is_number rfl)
  have nd := sc_is_number.nd
  exact (dss_one (ds_ret (de_and (de_callB call_isi cl_isi rfl m_isinstance bt_isinstance (da_cons (de_var 0) (da_cons (de_ty rfl m_int bt_int) da_nil))) (de_and (de_not (de_callB call_isi cl_isi rfl m_isinstance bt_isinstance (da_cons (de_var 0) (da_cons (de_ty rfl m_bool bt_bool) da_nil)))) (de_one (de_chain op_le op_le ol_B0 ol_B0 (de_var 1) (de_var 0) (de_var 2)))))))

abbrev s_names_of : Stmt := topS 6
abbrev N_names_of : List Str := ["book", "land"]
theorem sc_names_of : FnScope N_names_of ["book"] (defScope s_names_of) := ⟨rfl, rfl, rfl, by decide +kernel, rfl, by decide +kernel, by decide +kernel⟩
theorem ok_names_of {P : Program} {w : World} {K : PySem.W.Frag} {mg : Str → Option Value} {base : Heap} {f : Addr} {fd : FuncData} (F : Fun K "names_of" "names_of" s_names_of f fd)  :
    FnOk P w K mg base (L2.CX P w) 1 f fd ["book"] (spA K mg 1 S_names_of) := by
  refine fn_mk (den := den_names_of) F sc_names_of (fun cdv A outer s H E B hr tk => ?_) (bo_names_of N_names_of rfl)
  have nd := sc_names_of.nd
  exact (dss_one (ds_ret (de_lc (own := [("land", 1)]) (t := (.nm 1)) rfl nd (di_any (de_ix (de_var 0) de_int)) (blkOk_by (N := N_names_of) (sc := defScope s_names_of) (by decide +kernel)) (by decide) (fun _ _ _ _ _ => (gt_name (i := 1) nd rfl (Or.inl rfl))) (fun _ _ _ _ _ => dts_nil) (fun _ _ _ _ _ => (de_ix (de_var 1) de_int)))))

abbrev s_row_of : Stmt := topS 8
abbrev N_row_of : List Str := ["book", "land", "row"]
theorem sc_row_of : FnScope N_row_of ["book", "land"] (defScope s_row_of) := ⟨rfl, rfl, rfl, by decide +kernel, rfl, by decide +kernel, by decide +kernel⟩
theorem ok_row_of {P : Program} {w : World} {K : PySem.W.Frag} {mg : Str → Option Value} {base : Heap} {f : Addr} {fd : FuncData} (F : Fun K "row_of" "row_of" s_row_of f fd)  :
    FnOk P w K mg base (L2.CX P w) 1 f fd ["book", "land"] (spA K mg 2 S_row_of) := by
  refine fn_mk (den := den_row_of) F sc_row_of (fun cdv A outer s H E B hr tk => ?_) (bo_row_of N_row_of rfl)
  have nd := sc_row_of.nd
  exact (dss_one (ds_ret (de_ix (de_lc (own := [("row", 2)]) (t := (.nm 2)) rfl nd (di_any (de_ix (de_var 0) de_int)) (blkOk_by (N := N_row_of) (sc := defScope s_row_of) (by decide +kernel)) (by decide) (fun _ _ _ _ _ => (gt_name (i := 2) nd rfl (Or.inl rfl))) (fun _ _ _ _ _ => (dts_one (dt_cmp (or_eq hr.units) ol_eq (de_ix (de_var 2) de_int) (de_var 1)))) (fun _ _ _ _ _ => (de_var 2))) de_int)))

abbrev s_takes : Stmt := topS 9
abbrev N_takes : List Str := ["book", "land", "taker", "giver"]
theorem sc_takes : FnScope N_takes ["book", "land"] (defScope s_takes) := ⟨rfl, rfl, rfl, by decide +kernel, rfl, by decide +kernel, by decide +kernel⟩
theorem ok_takes {P : Program} {w : World} {K : PySem.W.Frag} {mg : Str → Option Value} {base : Heap} {f : Addr} {fd : FuncData} (F : Fun K "takes" "takes" s_takes f fd) (m_sorted : mg "sorted" = none) (m_tuple : mg "tuple" = none) :
    FnOk P w K mg base (L2.CX P w) 1 f fd ["book", "land"] (spA K mg 2 S_takes) := by
  refine fn_mk (den := den_takes) F sc_takes (fun cdv A outer s H E B hr tk => ?_) (bo_takes N_takes rfl)
  have nd := sc_takes.nd
  exact (dss_one (ds_ret (de_callTy call_tuple_of cl_tuple rfl m_tuple bt_tuple (da_cons (de_callB cr_sortedAll cl_sorted rfl m_sorted bt_sorted (da_cons (de_op or_add ol_add (de_lst (da_cons (de_var 1) da_nil)) (de_lc (own := [("taker", 2), ("giver", 3)]) (t := (.tp [(.nm 2), (.nm 3)])) rfl nd (di_any (de_ix (de_var 0) de_int)) (blkOk_by (N := N_takes) (sc := defScope s_takes) (by decide +kernel)) (by decide) (fun _ _ _ _ _ => (gt_tup rfl (gts_cons (gt_name (i := 2) nd rfl (Or.inl rfl)) (gts_cons (gt_name (i := 3) nd rfl (Or.inl rfl)) gts_nil)))) (fun _ _ _ _ _ => (dts_one (dt_cmp (or_eq hr.units) ol_eq (de_var 2) (de_var 1)))) (fun _ _ _ _ _ => (de_var 3)))) da_nil)) da_nil))))

abbrev s_set_of : Stmt := topS 12
abbrev N_set_of : List Str := ["bits", "n"]
theorem sc_set_of : FnScope N_set_of ["bits"] (defScope s_set_of) := ⟨rfl, rfl, rfl, by decide +kernel, rfl, by decide +kernel, by decide +kernel⟩
theorem ok_set_of {P : Program} {w : World} {K : PySem.W.Frag} {mg : Str → Option Value} {base : Heap} {f : Addr} {fd : FuncData} (F : Fun K "set_of" "set_of" s_set_of f fd) (m_range : mg "range" = none) (m_tuple : mg "tuple" = none) :
    FnOk P w K mg base (L2.CX P w) 1 f fd ["bits"] (spA K mg 1 S_set_of) := by
  refine fn_mk (den := den_set_of) F sc_set_of (fun cdv A outer s H E B hr tk => ?_) (bo_set_of N_set_of rfl)
  have nd := sc_set_of.nd
  exact (dss_one (ds_ret (de_callTy call_tuple_of cl_tuple rfl m_tuple bt_tuple (da_cons (de_lc (own := [("n", 1)]) (t := (.nm 1)) rfl nd (di_range1 rfl m_range (da_cons de_int da_nil)) (blkOk_by (N := N_set_of) (sc := defScope s_set_of) (by decide +kernel)) (by decide) (fun _ _ _ _ _ => (gt_name (i := 1) nd rfl (Or.inl rfl))) (fun _ _ _ _ _ => (dts_one (dt_truth (de_op op_and ol_I0 (de_op op_shr ol_I (de_var 0) (de_var 1)) de_int)))) (fun _ _ _ _ _ => (de_var 1))) da_nil))))

abbrev s_parts_of : Stmt := topS 13
abbrev N_parts_of : List Str := ["bits", "found", "part"]
theorem sc_parts_of : FnScope N_parts_of ["bits"] (defScope s_parts_of) := ⟨rfl, rfl, rfl, by decide +kernel, rfl, by decide +kernel, by decide +kernel⟩
theorem ok_parts_of {P : Program} {w : World} {K : PySem.W.Frag} {mg : Str → Option Value} {base : Heap} {f : Addr} {fd : FuncData} (F : Fun K "parts_of" "parts_of" s_parts_of f fd)  :
    FnOk P w K mg base (L2.CX P w) 1 f fd ["bits"] (spA K mg 1 S_parts_of) := by
  refine fn_mk (den := den_parts_of) F sc_parts_of (fun cdv A outer s H E B hr tk => ?_) (bo_parts_of N_parts_of rfl)
  have nd := sc_parts_of.nd
  exact (dss_cons (ds_par2 (i := 1) (j := 2) rfl nd rfl rfl (by decide) rfl rfl (da_cons (de_lstH da_nil) (da_cons (de_var 0) da_nil))) (dss_cons (ds_while (passes_of rfl) (dt_truth (de_var 2)) (dss_cons (ds_expr (de_bm PySem.F.plainAttrs_list PySem.F.slot_list_append PySem.F.type_list_append mt_append ml_append (de_var 1) (da_cons (de_var 2) da_nil))) (dss_one (ds_set (i := 2) nd rfl (Or.inl rfl) (de_op op_and ol_I0 (de_op op_sub ol_I0 (de_var 2) de_int) (de_var 0)))))) (dss_one (ds_ret (de_var 1)))))

abbrev s__law_is : Stmt := topS 31
abbrev N__law_is : List Str := ["told", "due"]
theorem sc__law_is : FnScope N__law_is ["told", "due"] (defScope s__law_is) := ⟨rfl, rfl, rfl, by decide +kernel, rfl, by decide +kernel, by decide +kernel⟩
theorem ok__law_is {P : Program} {w : World} {K : PySem.W.Frag} {mg : Str → Option Value} {base : Heap} {f : Addr} {fd : FuncData} (F : Fun K "_law_is" "_law_is" s__law_is f fd) (m_bool : mg "bool" = none) (m_isinstance : mg "isinstance" = none) :
    FnOk P w K mg base (L2.CX P w) 1 f fd ["told", "due"] (spA K mg 2 S__law_is) := by
  refine fn_mk (den := den__law_is) F sc__law_is (fun cdv A outer s H E B hr tk => ?_) (bo__law_is N__law_is rfl)
  have nd := sc__law_is.nd
  exact (dss_one (ds_ret (de_and (de_callB call_isi cl_isi rfl m_isinstance bt_isinstance (da_cons (de_var 0) (da_cons (de_ty rfl m_bool bt_bool) da_nil))) (de_one (de_cmp (or_eq hr.units) ol_eq (de_var 0) (de_var 1))))))

abbrev s__law_draw : Stmt := topS 32
abbrev N__law_draw : List Str := ["script", "town", "many", "at", "rest", "number"]
theorem sc__law_draw : FnScope N__law_draw ["script", "town", "many"] (defScope s__law_draw) := ⟨rfl, rfl, rfl, by decide +kernel, rfl, by decide +kernel, by decide +kernel⟩
theorem ok__law_draw {P : Program} {w : World} {K : PySem.W.Frag} {mg : Str → Option Value} {base : Heap} {f : Addr} {fd : FuncData} (F : Fun K "_law_draw" "_law_draw" s__law_draw f fd) (m_len : mg "len" = none) :
    FnOk P w K mg base (L2.CX P w) 1 f fd ["script", "town", "many"] (spA K mg 3 S__law_draw) := by
  refine fn_mk (den := den__law_draw) F sc__law_draw (fun cdv A outer s H E B hr tk => ?_) (bo__law_draw N__law_draw rfl)
  have nd := sc__law_draw.nd
  have hu := hu_of hr
  exact (dss_cons (ds_dput hu (de_var 1) de_str (de_op or_add ol_add (de_dget hu (de_var 1) de_str) de_int)) (dss_cons (ds_set (i := 3) nd rfl (Or.inl rfl) (de_if (dt_truth (de_var 0)) (de_op op_mod ol_I (de_dget hu (de_var 1) de_str) (de_callB call_len cl_len rfl m_len bt_len (da_cons (de_var 0) da_nil))) de_int)) (dss_cons (ds_set (i := 4) nd rfl (Or.inl rfl) (de_dget2 hu (de_dget hu (de_var 1) de_str) (de_var 3) (de_if (dt_truth (de_var 0)) (de_ix (de_var 0) (de_var 3)) de_int) ⟨rfl, rfl, rfl, rfl⟩)) (dss_cons (ds_if (dt_cmp op_ge ol_B0 (de_var 4) (de_op op_pow ol_I de_int de_int)) (dss_cons (ds_dput hu (de_dget hu (de_var 1) de_str) (de_var 3) (de_op op_fdiv ol_I (de_var 4) (de_var 2))) (dss_one (ds_ret (de_op op_mod ol_I (de_var 4) (de_var 2))))) dss_nil) (dss_cons (ds_set (i := 5) nd rfl (Or.inl rfl) (de_op op_mod ol_I (de_op or_add ol_add (de_var 4) (de_op or_mul ol_mul de_int (de_dget hu (de_var 1) de_str))) de_int)) (dss_cons (ds_set (i := 5) nd rfl (Or.inl rfl) (de_op op_mod ol_I (de_op op_pow ol_I (de_var 5) de_int) de_int)) (dss_one (ds_ret (de_op op_mod ol_I (de_op op_fdiv ol_I (de_op op_mod ol_I (de_op or_add ol_add (de_op or_mul ol_mul (de_op op_fdiv ol_I (de_var 5) de_int) de_int) (de_var 5)) de_int) de_int) (de_var 2))))))))))

abbrev s__law_begun : Stmt := topS 33
abbrev N__law_begun : List Str := []
theorem sc__law_begun : FnScope N__law_begun [] (defScope s__law_begun) := ⟨rfl, rfl, rfl, by decide +kernel, rfl, by decide +kernel, by decide +kernel⟩
theorem ok__law_begun {P : Program} {w : World} {K : PySem.W.Frag} {mg : Str → Option Value} {base : Heap} {f : Addr} {fd : FuncData} (F : Fun K "_law_begun" "_law_begun" s__law_begun f fd)  :
    FnOk P w K mg base (L2.CX P w) 1 f fd [] (spA K mg 0 S__law_begun) := by
  refine fn_mk (den := den__law_begun) F sc__law_begun (fun cdv A outer s H E B hr tk => ?_) (bo__law_begun N__law_begun rfl)
  have nd := sc__law_begun.nd
  exact (dss_one (ds_ret (de_disp (ps := [((dC (.str "count")), (dC (.int 0))), ((dC (.str "rests")), dNewK)]) (pps_cons de_str de_int (pps_cons de_str de_dnewK pps_nil)))))

abbrev s__law_row : Stmt := topS 36
abbrev N__law_row : List Str := ["book", "land", "row"]
theorem sc__law_row : FnScope N__law_row ["book", "land"] (defScope s__law_row) := ⟨rfl, rfl, rfl, by decide +kernel, rfl, by decide +kernel, by decide +kernel⟩
theorem ok__law_row {P : Program} {w : World} {K : PySem.W.Frag} {mg : Str → Option Value} {base : Heap} {f : Addr} {fd : FuncData} (F : Fun K "_law_row" "_law_row" s__law_row f fd)  :
    FnOk P w K mg base (L2.CX P w) 1 f fd ["book", "land"] (spA K mg 2 S__law_row) := by
  refine fn_mk (den := den__law_row) F sc__law_row (fun cdv A outer s H E B hr tk => ?_) (bo__law_row N__law_row rfl)
  have nd := sc__law_row.nd
  exact (dss_one (ds_ret (de_ix (de_lc (own := [("row", 2)]) (t := (.nm 2)) rfl nd (di_any (de_ix (de_var 0) de_int)) (blkOk_by (N := N__law_row) (sc := defScope s__law_row) (by decide +kernel)) (by decide) (fun _ _ _ _ _ => (gt_name (i := 2) nd rfl (Or.inl rfl))) (fun _ _ _ _ _ => (dts_one (dt_cmp (or_eq hr.units) ol_eq (de_ix (de_var 2) de_int) (de_var 1)))) (fun _ _ _ _ _ => (de_var 2))) de_int)))

abbrev s__law_takes : Stmt := topS 37
abbrev N__law_takes : List Str := ["book", "land", "pact"]
theorem sc__law_takes : FnScope N__law_takes ["book", "land"] (defScope s__law_takes) := ⟨rfl, rfl, rfl, by decide +kernel, rfl, by decide +kernel, by decide +kernel⟩
theorem ok__law_takes {P : Program} {w : World} {K : PySem.W.Frag} {mg : Str → Option Value} {base : Heap} {f : Addr} {fd : FuncData} (F : Fun K "_law_takes" "_law_takes" s__law_takes f fd) (m_sorted : mg "sorted" = none) :
    FnOk P w K mg base (L2.CX P w) 1 f fd ["book", "land"] (spA K mg 2 S__law_takes) := by
  refine fn_mk (den := den__law_takes) F sc__law_takes (fun cdv A outer s H E B hr tk => ?_) (bo__law_takes N__law_takes rfl)
  have nd := sc__law_takes.nd
  exact (dss_one (ds_ret (de_callB cr_sortedAll cl_sorted rfl m_sorted bt_sorted (da_cons (de_op or_add ol_add (de_lst (da_cons (de_var 1) da_nil)) (de_lc (own := [("pact", 2)]) (t := (.nm 2)) rfl nd (di_any (de_ix (de_var 0) de_int)) (blkOk_by (N := N__law_takes) (sc := defScope s__law_takes) (by decide +kernel)) (by decide) (fun _ _ _ _ _ => (gt_name (i := 2) nd rfl (Or.inl rfl))) (fun _ _ _ _ _ => (dts_one (dt_cmp (or_eq hr.units) ol_eq (de_ix (de_var 2) de_int) (de_var 1)))) (fun _ _ _ _ _ => (de_ix (de_var 2) de_int)))) da_nil))))

abbrev s_look_land : Stmt := topS 7
abbrev N_look_land : List Str := ["book", "land"]
theorem sc_look_land : FnScope N_look_land ["book", "land"] (defScope s_look_land) := ⟨rfl, rfl, rfl, by decide +kernel, rfl, by decide +kernel, by decide +kernel⟩
theorem ok_look_land {P : Program} {w : World} {K : PySem.W.Frag} {mg : Str → Option Value} {base : Heap} {f : Addr} {fd : FuncData} (F : Fun K "look_land" "look_land" s_look_land f fd) (m_isinstance : mg "isinstance" = none) (m_str : mg "str" = none) (F_names_of : FnR P w K mg base 1 "names_of" 1 S_names_of) (x_NoLand : XcR K mg "NoLand") :
    FnOk P w K mg base (L2.CX P w) 2 f fd ["book", "land"] (spA K mg 2 S_look_land) := by
  refine fn_mk (den := den_look_land) F sc_look_land (fun cdv A outer s H E B hr tk => ?_) (bo_look_land N_look_land rfl)
  have nd := sc_look_land.nd
  exact (dss_one (ds_if (dt_w (dw_or (dt_not (dt_truth (de_callB call_isi cl_isi rfl m_isinstance bt_isinstance (da_cons (de_var 1) (da_cons (de_ty rfl m_str bt_str) da_nil))))) (dw_or1 (dt_cmp op_notIn_seq ol_notIn (de_var 1) (de_call (F_names_of.at hr) tk (da_cons (de_var 0) da_nil)))))) (dss_one (ds_raise x_NoLand tk)) dss_nil))

abbrev s_is_enough : Stmt := topS 10
abbrev N_is_enough : List Str := ["book", "land", "counting", "whole", "name", "part", "parts", "price"]
theorem sc_is_enough : FnScope N_is_enough ["book", "land", "counting", "whole"] (defScope s_is_enough) := ⟨rfl, rfl, rfl, by decide +kernel, rfl, by decide +kernel, by decide +kernel⟩
theorem ok_is_enough {P : Program} {w : World} {K : PySem.W.Frag} {mg : Str → Option Value} {base : Heap} {f : Addr} {fd : FuncData} (F : Fun K "is_enough" "is_enough" s_is_enough f fd) (F_row_of : FnR P w K mg base 1 "row_of" 2 S_row_of) :
    FnOk P w K mg base (L2.CX P w) 2 f fd ["book", "land", "counting", "whole"] (spA K mg 4 S_is_enough) := by
  refine fn_mk (den := den_is_enough) F sc_is_enough (fun cdv A outer s H E B hr tk => ?_) (bo_is_enough N_is_enough rfl)
  have nd := sc_is_enough.nd
  exact (dss_cons (ds_asg (t := (.tp [(.nm 4), (.nm 5), (.nm 6), (.nm 7)])) (de_call (F_row_of.at hr) tk (da_cons (de_var 0) (da_cons (de_var 1) da_nil))) (gt_tup rfl (gts_cons (gt_name (i := 4) nd rfl (Or.inl rfl)) (gts_cons (gt_name (i := 5) nd rfl (Or.inl rfl)) (gts_cons (gt_name (i := 6) nd rfl (Or.inl rfl)) (gts_cons (gt_name (i := 7) nd rfl (Or.inl rfl)) gts_nil)))))) (dss_one (ds_ret (de_cmp op_ge ol_B0 (de_op or_mul ol_mul (de_var 2) (de_var 6)) (de_op or_mul ol_mul (de_var 3) (de_var 5))))))

abbrev s_Groupings_blocks : Stmt := inClass (topS 25) 1
abbrev N_Groupings_blocks : List Str := ["self", "bits", "land", "things", "taken", "own", "found", "one"]
theorem sc_Groupings_blocks : FnScope N_Groupings_blocks ["self", "bits", "land"] (defScope s_Groupings_blocks) := ⟨rfl, rfl, rfl, by decide +kernel, rfl, by decide +kernel, by decide +kernel⟩
theorem ok_Groupings_blocks {P : Program} {w : World} {K : PySem.W.Frag} {mg : Str → Option Value} {base : Heap} {f : Addr} {fd : FuncData} (F : Fun K "blocks" "Groupings.blocks" s_Groupings_blocks f fd) {G : Gx} (m_len : mg "len" = none) (F_set_of : FnR P w K mg base 1 "set_of" 1 S_set_of) (F_takes : FnR P w K mg base 1 "takes" 2 S_takes) (cl_Groupings : Cls K (G.C "Groupings")) (na_Groupings_book : NoAttr K (G.C "Groupings") "book") (na_Groupings_heap : NoAttr K (G.C "Groupings") "heap") (na_Groupings_many : NoAttr K (G.C "Groupings") "many") (na_Groupings_names : NoAttr K (G.C "Groupings") "names") (na_Groupings_weights : NoAttr K (G.C "Groupings") "weights") :
    FnOk P w K mg base (L2.CX P w) 2 f fd ["self", "bits", "land"] (spA K mg 3 (S_Groupings_blocks G)) := by
  refine fn_mk (den := (den_Groupings_blocks G)) F sc_Groupings_blocks (fun cdv A outer s H E B hr tk => ?_) (bo_Groupings_blocks G N_Groupings_blocks rfl)
  have nd := sc_Groupings_blocks.nd
  have hu := hu_of hr
  exact (dss_cons (ds_par2 (i := 3) (j := 4) rfl nd rfl rfl (by decide) rfl rfl (da_cons (de_call (F_set_of.at hr) tk (da_cons (de_var 1) da_nil)) (da_cons (de_call (F_takes.at hr) tk (da_cons (de_fld cl_Groupings na_Groupings_book (de_var 0)) (da_cons (de_var 2) da_nil))) da_nil))) (dss_cons (ds_if (dt_cmp (or_eq hr.units) ol_eq (de_callB call_len cl_len rfl m_len bt_len (da_cons (de_var 3) da_nil)) de_int) (dss_cons (ds_set (i := 5) nd rfl (Or.inl rfl) (de_ix (de_ix (de_fld cl_Groupings na_Groupings_heap (de_var 0)) (de_ix (de_var 3) de_int)) de_int)) (dss_one (ds_ret (de_lst (da_cons (de_tup (da_cons (de_if (dt_w (dw_and (dt_cmp op_notN ol_notN (de_var 5) de_non) (dw_and1 (dt_cmp op_in_seq ol_in (de_var 5) (de_var 4))))) (de_ix (de_fld cl_Groupings na_Groupings_weights (de_var 0)) (de_var 1)) de_int) (da_cons de_int da_nil))) da_nil))))) dss_nil) (dss_cons (ds_set (i := 6) nd rfl (Or.inl rfl) (de_lstH da_nil)) (dss_cons (ds_for (t := (.nm 7)) (passes_of rfl) rfl (di_any (de_fld cl_Groupings na_Groupings_names (de_var 0))) (gt_name (i := 7) nd rfl (Or.inl rfl)) (dss_one (ds_if (dt_truth (de_dget hu (de_fld cl_Groupings na_Groupings_many (de_var 0)) (de_tup (da_cons (de_var 1) (da_cons (de_var 7) da_nil))))) (dss_one (ds_expr (de_bm PySem.F.plainAttrs_list PySem.F.slot_list_append PySem.F.type_list_append mt_append ml_append (de_var 6) (da_cons (de_tup (da_cons (de_if (dt_cmp op_in_seq ol_in (de_var 7) (de_var 4)) (de_ix (de_fld cl_Groupings na_Groupings_weights (de_var 0)) (de_var 1)) de_int) (da_cons (de_dget hu (de_fld cl_Groupings na_Groupings_many (de_var 0)) (de_tup (da_cons (de_var 1) (da_cons (de_var 7) da_nil)))) da_nil))) da_nil)))) dss_nil))) (dss_one (ds_ret (de_var 6)))))))

abbrev s__law_a_book : Stmt := topS 34
abbrev N__law_a_book : List Str := ["script", "town", "names", "lands", "pacts", "name", "parts", "taker", "giver"]
theorem sc__law_a_book : FnScope N__law_a_book ["script", "town"] (defScope s__law_a_book) := ⟨rfl, rfl, rfl, by decide +kernel, rfl, by decide +kernel, by decide +kernel⟩
theorem ok__law_a_book {P : Program} {w : World} {K : PySem.W.Frag} {mg : Str → Option Value} {base : Heap} {f : Addr} {fd : FuncData} (F : Fun K "_law_a_book" "_law_a_book" s__law_a_book f fd) (m_tuple : mg "tuple" = none) (F__law_draw : FnR P w K mg base 1 "_law_draw" 3 S__law_draw) :
    FnOk P w K mg base (L2.CX P w) 2 f fd ["script", "town"] (spA K mg 2 S__law_a_book) := by
  refine fn_mk (den := den__law_a_book) F sc__law_a_book (fun cdv A outer s H E B hr tk => ?_) (bo__law_a_book N__law_a_book rfl)
  have nd := sc__law_a_book.nd
  exact (dss_cons (ds_par3 (i := 2) (j := 3) (l := 4) rfl nd rfl rfl rfl (by decide) (by decide) (by decide) rfl rfl rfl (da_cons (de_slice (de_tup (da_cons de_str (da_cons de_str (da_cons de_str da_nil)))) do_none (do_some (de_op or_add ol_add de_int (de_call (F__law_draw.at hr) tk (da_cons (de_var 0) (da_cons (de_var 1) (da_cons de_int da_nil))))))) (da_cons (de_lstH da_nil) (da_cons (de_lstH da_nil) da_nil)))) (dss_cons (ds_for (t := (.nm 5)) (passes_of rfl) rfl (di_any (de_var 2)) (gt_name (i := 5) nd rfl (Or.inl rfl)) (dss_cons (ds_set (i := 6) nd rfl (Or.inl rfl) (de_op or_add ol_add de_int (de_call (F__law_draw.at hr) tk (da_cons (de_var 0) (da_cons (de_var 1) (da_cons de_int da_nil)))))) (dss_one (ds_expr (de_bm PySem.F.plainAttrs_list PySem.F.slot_list_append PySem.F.type_list_append mt_append ml_append (de_var 3) (da_cons (de_tup (da_cons (de_var 5) (da_cons (de_op or_add ol_add de_int (de_call (F__law_draw.at hr) tk (da_cons (de_var 0) (da_cons (de_var 1) (da_cons (de_var 6) da_nil))))) (da_cons (de_var 6) (da_cons (de_call (F__law_draw.at hr) tk (da_cons (de_var 0) (da_cons (de_var 1) (da_cons de_int da_nil)))) da_nil))))) da_nil)))))) (dss_cons (ds_for (t := (.nm 7)) (passes_of rfl) rfl (di_any (de_var 2)) (gt_name (i := 7) nd rfl (Or.inl rfl)) (dss_one (ds_for (t := (.nm 8)) (passes_of rfl) rfl (di_any (de_var 2)) (gt_name (i := 8) nd rfl (Or.inl rfl)) (dss_one (ds_if (dt_w (dw_and (dt_cmp (or_ne hr.units) ol_ne (de_var 7) (de_var 8)) (dw_and1 (dt_cmp (or_eq hr.units) ol_eq (de_call (F__law_draw.at hr) tk (da_cons (de_var 0) (da_cons (de_var 1) (da_cons de_int da_nil)))) de_int)))) (dss_one (ds_expr (de_bm PySem.F.plainAttrs_list PySem.F.slot_list_append PySem.F.type_list_append mt_append ml_append (de_var 4) (da_cons (de_tup (da_cons (de_var 7) (da_cons (de_var 8) da_nil))) da_nil)))) dss_nil))))) (dss_one (ds_ret (de_tup (da_cons (de_callTy call_tuple_of cl_tuple rfl m_tuple bt_tuple (da_cons (de_var 3) da_nil)) (da_cons (de_callTy call_tuple_of cl_tuple rfl m_tuple bt_tuple (da_cons (de_var 4) da_nil)) da_nil))))))))

abbrev s__law_a_heap : Stmt := topS 35
abbrev N__law_a_heap : List Str := ["script", "town", "book", "most", "found", "names", "k", "worth", "land"]
theorem sc__law_a_heap : FnScope N__law_a_heap ["script", "town", "book", "most"] (defScope s__law_a_heap) := ⟨rfl, rfl, rfl, by decide +kernel, rfl, by decide +kernel, by decide +kernel⟩
theorem ok__law_a_heap {P : Program} {w : World} {K : PySem.W.Frag} {mg : Str → Option Value} {base : Heap} {f : Addr} {fd : FuncData} (F : Fun K "_law_a_heap" "_law_a_heap" s__law_a_heap f fd) (m_len : mg "len" = none) (m_range : mg "range" = none) (m_tuple : mg "tuple" = none) (F__law_draw : FnR P w K mg base 1 "_law_draw" 3 S__law_draw) :
    FnOk P w K mg base (L2.CX P w) 2 f fd ["script", "town", "book", "most"] (spA K mg 4 S__law_a_heap) := by
  refine fn_mk (den := den__law_a_heap) F sc__law_a_heap (fun cdv A outer s H E B hr tk => ?_) (bo__law_a_heap N__law_a_heap rfl)
  have nd := sc__law_a_heap.nd
  exact (dss_cons (ds_par2 (i := 4) (j := 5) rfl nd rfl rfl (by decide) rfl rfl (da_cons (de_lstH da_nil) (da_cons (de_lc (own := [("land", 8)]) (t := (.nm 8)) rfl nd (di_any (de_ix (de_var 2) de_int)) (blkOk_by (N := N__law_a_heap) (sc := defScope s__law_a_heap) (by decide +kernel)) (by decide) (fun _ _ _ _ _ => (gt_name (i := 8) nd rfl (Or.inl rfl))) (fun _ _ _ _ _ => dts_nil) (fun _ _ _ _ _ => (de_ix (de_var 8) de_int))) da_nil))) (dss_cons (ds_for (t := (.nm 6)) (passes_of rfl) rfl (di_range1 rfl m_range (da_cons (de_op or_add ol_add de_int (de_call (F__law_draw.at hr) tk (da_cons (de_var 0) (da_cons (de_var 1) (da_cons (de_var 3) da_nil))))) da_nil)) (gt_name (i := 6) nd rfl (Or.inl rfl)) (dss_cons (ds_set (i := 7) nd rfl (Or.inl rfl) (de_op or_add ol_add de_int (de_call (F__law_draw.at hr) tk (da_cons (de_var 0) (da_cons (de_var 1) (da_cons (de_ix (de_lst (da_cons de_int (da_cons de_int da_nil))) (de_call (F__law_draw.at hr) tk (da_cons (de_var 0) (da_cons (de_var 1) (da_cons de_int da_nil))))) da_nil)))))) (dss_one (ds_expr (de_bm PySem.F.plainAttrs_list PySem.F.slot_list_append PySem.F.type_list_append mt_append ml_append (de_var 4) (da_cons (de_tup (da_cons (de_var 7) (da_cons (de_ix (de_op or_add ol_add (de_op or_add ol_add (de_var 5) (de_var 5)) (de_lst (da_cons de_non da_nil))) (de_call (F__law_draw.at hr) tk (da_cons (de_var 0) (da_cons (de_var 1) (da_cons (de_op or_add ol_add (de_op or_mul ol_mul de_int (de_callB call_len cl_len rfl m_len bt_len (da_cons (de_var 5) da_nil))) de_int) da_nil))))) da_nil))) da_nil)))))) (dss_one (ds_ret (de_callTy call_tuple_of cl_tuple rfl m_tuple bt_tuple (da_cons (de_var 4) da_nil))))))

abbrev s__law_has_share : Stmt := topS 38
abbrev N__law_has_share : List Str := ["book", "land", "counting", "whole", "row"]
theorem sc__law_has_share : FnScope N__law_has_share ["book", "land", "counting", "whole"] (defScope s__law_has_share) := ⟨rfl, rfl, rfl, by decide +kernel, rfl, by decide +kernel, by decide +kernel⟩
theorem ok__law_has_share {P : Program} {w : World} {K : PySem.W.Frag} {mg : Str → Option Value} {base : Heap} {f : Addr} {fd : FuncData} (F : Fun K "_law_has_share" "_law_has_share" s__law_has_share f fd) (F__law_row : FnR P w K mg base 1 "_law_row" 2 S__law_row) :
    FnOk P w K mg base (L2.CX P w) 2 f fd ["book", "land", "counting", "whole"] (spA K mg 4 S__law_has_share) := by
  refine fn_mk (den := den__law_has_share) F sc__law_has_share (fun cdv A outer s H E B hr tk => ?_) (bo__law_has_share N__law_has_share rfl)
  have nd := sc__law_has_share.nd
  exact (dss_cons (ds_set (i := 4) nd rfl (Or.inl rfl) (de_call (F__law_row.at hr) tk (da_cons (de_var 0) (da_cons (de_var 1) da_nil)))) (dss_one (ds_ret (de_cmp op_ge ol_B0 (de_op or_mul ol_mul (de_var 2) (de_ix (de_var 4) de_int)) (de_op or_mul ol_mul (de_var 3) (de_ix (de_var 4) de_int))))))

abbrev s__law_a_tree : Stmt := topS 40
abbrev N__law_a_tree : List Str := ["script", "town", "book", "things", "left", "turns", "many", "some", "k"]
theorem sc__law_a_tree : FnScope N__law_a_tree ["script", "town", "book", "things"] (defScope s__law_a_tree) := ⟨rfl, rfl, rfl, by decide +kernel, rfl, by decide +kernel, by decide +kernel⟩
theorem ok__law_a_tree {P : Program} {w : World} {K : PySem.W.Frag} {mg : Str → Option Value} {base : Heap} {f : Addr} {fd : FuncData} (F : Fun K "_law_a_tree" "_law_a_tree" s__law_a_tree f fd) (m_len : mg "len" = none) (m_list : mg "list" = none) (m_min : mg "min" = none) (m_range : mg "range" = none) (m_tuple : mg "tuple" = none) (F__law_draw : FnR P w K mg base 1 "_law_draw" 3 S__law_draw) :
    FnOk P w K mg base (L2.CX P w) 2 f fd ["script", "town", "book", "things"] (spA K mg 4 S__law_a_tree) := by
  refine fn_mk (den := den__law_a_tree) F sc__law_a_tree (fun cdv A outer s H E B hr tk => ?_) (bo__law_a_tree N__law_a_tree rfl)
  have nd := sc__law_a_tree.nd
  exact (dss_cons (ds_asg (t := (.tp [(.nm 4), (.nm 5)])) (de_tup (da_cons (de_callTy call_list_of cl_listH (by rfl) m_list bt_list (da_cons (de_var 3) da_nil)) (da_cons de_int da_nil))) (gt_tup rfl (gts_cons (gt_name (i := 4) nd rfl (Or.inr rfl)) (gts_cons (gt_name (i := 5) nd rfl (Or.inl rfl)) gts_nil)))) (dss_cons (ds_while (passes_of rfl) (dt_w (dw_or (dt_cmp op_gt ol_B0 (de_callB call_len cl_len rfl m_len bt_len (da_cons (de_var 4) da_nil)) de_int) (dw_or1 (dt_w (dw_and (dt_cmp (or_eq hr.units) ol_eq (de_var 5) de_int) (dw_and1 (dt_cmp (or_eq hr.units) ol_eq (de_call (F__law_draw.at hr) tk (da_cons (de_var 0) (da_cons (de_var 1) (da_cons de_int da_nil)))) de_int))))))) (dss_cons (ds_set (i := 6) nd rfl (Or.inl rfl) (de_callB (call_min2 rfl) cl_min2 rfl m_min bt_min (da_cons (de_callB call_len cl_len rfl m_len bt_len (da_cons (de_var 4) da_nil)) (da_cons (de_op or_add ol_add (de_if (dt_cmp op_lt ol_B0 (de_var 5) de_int) de_int de_int) (de_call (F__law_draw.at hr) tk (da_cons (de_var 0) (da_cons (de_var 1) (da_cons de_int da_nil))))) da_nil)))) (dss_cons (ds_setLc (i := 7) (own := [("k", 8)]) (t := (.nm 8)) false rfl rfl nd rfl rfl (sw_true rfl rfl rfl (by decide +kernel)) (di_range1 rfl m_range (da_cons (de_var 6) da_nil)) (blkOk_by (N := N__law_a_tree) (sc := defScope s__law_a_tree) (by decide +kernel)) (by decide) (fun _ _ _ _ _ => (gt_name (i := 8) nd rfl (Or.inl rfl))) (fun _ _ _ _ _ => dts_nil) (fun _ _ _ _ _ => (de_bm PySem.F.plainAttrs_list PySem.F.slot_list_pop PySem.F.type_list_pop mt_popAt ml_popAt (de_var 4) (da_cons (de_call (F__law_draw.at hr) takesF (da_cons (de_var 0) (da_cons (de_var 1) (da_cons (de_callB call_len cl_len rfl m_len bt_len (da_cons (de_var 4) da_nil)) da_nil)))) da_nil)))) (dss_cons (ds_expr (de_bm PySem.F.plainAttrs_list PySem.F.slot_list_append PySem.F.type_list_append mt_append ml_append (de_var 4) (da_cons (de_tup (da_cons (de_ix (de_ix (de_ix (de_var 2) de_int) (de_call (F__law_draw.at hr) tk (da_cons (de_var 0) (da_cons (de_var 1) (da_cons (de_callB call_len cl_len rfl m_len bt_len (da_cons (de_ix (de_var 2) de_int) da_nil)) da_nil))))) de_int) (da_cons (de_callTy call_tuple_of cl_tuple rfl m_tuple bt_tuple (da_cons (de_var 7) da_nil)) da_nil))) da_nil))) (dss_one (ds_set (i := 5) nd rfl (Or.inl rfl) (de_op or_add ol_add (de_var 5) de_int))))))) (dss_one (ds_ret (de_ix (de_var 4) de_int)))))

abbrev s_Groupings_parted : Stmt := inClass (topS 25) 2
abbrev N_Groupings_parted : List Str := ["self", "bits", "land", "low", "told", "part", "rest", "counting", "many", "more", "other"]
theorem sc_Groupings_parted : FnScope N_Groupings_parted ["self", "bits", "land"] (defScope s_Groupings_parted) := ⟨rfl, rfl, rfl, by decide +kernel, rfl, by decide +kernel, by decide +kernel⟩
theorem ok_Groupings_parted {P : Program} {w : World} {K : PySem.W.Frag} {mg : Str → Option Value} {base : Heap} {f : Addr} {fd : FuncData} (F : Fun K "parted" "Groupings.parted" s_Groupings_parted f fd) {G : Gx} (F_parts_of : FnR P w K mg base 1 "parts_of" 1 S_parts_of) (cl_Groupings : Cls K (G.C "Groupings")) (na_Groupings_ways : NoAttr K (G.C "Groupings") "ways") (M_Groupings_blocks : MtR P w K mg base 2 (G.C "Groupings") "blocks" 3 (S_Groupings_blocks G)) :
    FnOk P w K mg base (L2.CX P w) 3 f fd ["self", "bits", "land"] (spA K mg 3 (S_Groupings_parted G)) := by
  refine fn_mk (den := (den_Groupings_parted G)) F sc_Groupings_parted (fun cdv A outer s H E B hr tk => ?_) (bo_Groupings_parted G N_Groupings_parted rfl)
  have nd := sc_Groupings_parted.nd
  have hu := hu_of hr
  exact (dss_cons (ds_par2 (i := 3) (j := 4) rfl nd rfl rfl (by decide) rfl rfl (da_cons (de_op op_and ol_I0 (de_var 1) (de_un un_neg ul_neg (de_var 1))) (da_cons de_dnewK da_nil))) (dss_cons (ds_for (t := (.nm 5)) (passes_of rfl) rfl (di_any (de_call (F_parts_of.at hr) tk (da_cons (de_var 1) da_nil))) (gt_name (i := 5) nd rfl (Or.inl rfl)) (dss_one (ds_if (dt_truth (de_op op_and ol_I0 (de_var 5) (de_var 3))) (dss_cons (ds_set (i := 6) nd rfl (Or.inl rfl) (de_if (dt_cmp (or_eq hr.units) ol_eq (de_var 5) (de_var 1)) (de_disp (ps := [((dC (.int 0)), (dC (.int 1)))]) (pps_cons de_int de_int pps_nil)) (de_dget hu (de_fld cl_Groupings na_Groupings_ways (de_var 0)) (de_tup (da_cons (de_op op_xor ol_I0 (de_var 1) (de_var 5)) (da_cons (de_var 2) da_nil)))))) (dss_one (ds_for (t := (.tp [(.nm 7), (.nm 8)])) (passes_of rfl) rfl (di_any (de_meth cl_Groupings (M_Groupings_blocks.at hr) tk (de_var 0) (da_cons (de_var 5) (da_cons (de_var 2) da_nil)))) (gt_tup rfl (gts_cons (gt_name (i := 7) nd rfl (Or.inl rfl)) (gts_cons (gt_name (i := 8) nd rfl (Or.inl rfl)) gts_nil))) (dss_one (ds_for (t := (.tp [(.nm 9), (.nm 10)])) (passes_of rfl) rfl (di_items (de_var 6)) (gt_tup rfl (gts_cons (gt_name (i := 9) nd rfl (Or.inl rfl)) (gts_cons (gt_name (i := 10) nd rfl (Or.inl rfl)) gts_nil))) (dss_one (ds_dput hu (de_var 4) (de_op or_add ol_add (de_var 7) (de_var 9)) (de_op or_add ol_add (de_dget2 hu (de_var 4) (de_op or_add ol_add (de_var 7) (de_var 9)) de_int ⟨rfl, rfl, rfl, rfl⟩) (de_op or_mul ol_mul (de_var 8) (de_var 10)))))))))) dss_nil))) (dss_one (ds_ret (de_var 4)))))

abbrev s_Groupings_count : Stmt := inClass (topS 25) 3
abbrev N_Groupings_count : List Str := ["self", "bits", "land", "low", "total", "part", "counting", "many", "more", "other"]
theorem sc_Groupings_count : FnScope N_Groupings_count ["self", "bits", "land"] (defScope s_Groupings_count) := ⟨rfl, rfl, rfl, by decide +kernel, rfl, by decide +kernel, by decide +kernel⟩
theorem ok_Groupings_count {P : Program} {w : World} {K : PySem.W.Frag} {mg : Str → Option Value} {base : Heap} {f : Addr} {fd : FuncData} (F : Fun K "count" "Groupings.count" s_Groupings_count f fd) {G : Gx} (F_is_enough : FnR P w K mg base 2 "is_enough" 4 S_is_enough) (F_parts_of : FnR P w K mg base 1 "parts_of" 1 S_parts_of) (cl_Groupings : Cls K (G.C "Groupings")) (na_Groupings_book : NoAttr K (G.C "Groupings") "book") (na_Groupings_ways : NoAttr K (G.C "Groupings") "ways") (na_Groupings_weights : NoAttr K (G.C "Groupings") "weights") (M_Groupings_blocks : MtR P w K mg base 2 (G.C "Groupings") "blocks" 3 (S_Groupings_blocks G)) :
    FnOk P w K mg base (L2.CX P w) 3 f fd ["self", "bits", "land"] (spA K mg 3 (S_Groupings_count G)) := by
  refine fn_mk (den := (den_Groupings_count G)) F sc_Groupings_count (fun cdv A outer s H E B hr tk => ?_) (bo_Groupings_count G N_Groupings_count rfl)
  have nd := sc_Groupings_count.nd
  have hu := hu_of hr
  exact (dss_cons (ds_par2 (i := 3) (j := 4) rfl nd rfl rfl (by decide) rfl rfl (da_cons (de_op op_and ol_I0 (de_var 1) (de_un un_neg ul_neg (de_var 1))) (da_cons de_int da_nil))) (dss_cons (ds_for (t := (.nm 5)) (passes_of rfl) rfl (di_any (de_call (F_parts_of.at hr) tk (da_cons (de_var 1) da_nil))) (gt_name (i := 5) nd rfl (Or.inl rfl)) (dss_one (ds_if (dt_w (dw_and (dt_truth (de_op op_and ol_I0 (de_var 5) (de_var 3))) (dw_and1 (dt_cmp (or_ne hr.units) ol_ne (de_var 5) (de_var 1))))) (dss_one (ds_for (t := (.tp [(.nm 6), (.nm 7)])) (passes_of rfl) rfl (di_any (de_meth cl_Groupings (M_Groupings_blocks.at hr) tk (de_var 0) (da_cons (de_var 5) (da_cons (de_var 2) da_nil)))) (gt_tup rfl (gts_cons (gt_name (i := 6) nd rfl (Or.inl rfl)) (gts_cons (gt_name (i := 7) nd rfl (Or.inl rfl)) gts_nil))) (dss_one (ds_for (t := (.tp [(.nm 8), (.nm 9)])) (passes_of rfl) rfl (di_items (de_dget hu (de_fld cl_Groupings na_Groupings_ways (de_var 0)) (de_tup (da_cons (de_op op_xor ol_I0 (de_var 1) (de_var 5)) (da_cons (de_var 2) da_nil))))) (gt_tup rfl (gts_cons (gt_name (i := 8) nd rfl (Or.inl rfl)) (gts_cons (gt_name (i := 9) nd rfl (Or.inl rfl)) gts_nil))) (dss_one (ds_if (dt_truth (de_call (F_is_enough.at hr) tk (da_cons (de_fld cl_Groupings na_Groupings_book (de_var 0)) (da_cons (de_var 2) (da_cons (de_op or_add ol_add (de_var 6) (de_var 8)) (da_cons (de_ix (de_fld cl_Groupings na_Groupings_weights (de_var 0)) (de_var 1)) da_nil)))))) (dss_one (ds_augI (i := 4) nd rfl (Or.inl rfl) (de_op or_mul ol_mul (de_var 7) (de_var 9)) iop_add ol_I0)) dss_nil)))))) dss_nil))) (dss_one (ds_ret (de_var 4)))))

abbrev s_Groupings___init__ : Stmt := inClass (topS 25) 0
abbrev N_Groupings___init__ : List Str := ["self", "book", "heap", "bits", "land", "n"]
theorem sc_Groupings___init__ : FnScope N_Groupings___init__ ["self", "book", "heap"] (defScope s_Groupings___init__) := ⟨rfl, rfl, rfl, by decide +kernel, rfl, by decide +kernel, by decide +kernel⟩
theorem ok_Groupings___init__ {P : Program} {w : World} {K : PySem.W.Frag} {mg : Str → Option Value} {base : Heap} {f : Addr} {fd : FuncData} (F : Fun K "__init__" "Groupings.__init__" s_Groupings___init__ f fd) {G : Gx} (m_len : mg "len" = none) (m_list : mg "list" = none) (m_range : mg "range" = none) (m_sorted : mg "sorted" = none) (m_sum : mg "sum" = none) (F_names_of : FnR P w K mg base 1 "names_of" 1 S_names_of) (F_set_of : FnR P w K mg base 1 "set_of" 1 S_set_of) (cl_Groupings : Cls K (G.C "Groupings")) (na_Groupings_book : NoAttr K (G.C "Groupings") "book") (na_Groupings_heap : NoAttr K (G.C "Groupings") "heap") (na_Groupings_many : NoAttr K (G.C "Groupings") "many") (na_Groupings_names : NoAttr K (G.C "Groupings") "names") (na_Groupings_ways : NoAttr K (G.C "Groupings") "ways") (na_Groupings_weights : NoAttr K (G.C "Groupings") "weights") (na_Groupings_whole : NoAttr K (G.C "Groupings") "whole") (M_Groupings_count : MtR P w K mg base 3 (G.C "Groupings") "count" 3 (S_Groupings_count G)) (M_Groupings_parted : MtR P w K mg base 3 (G.C "Groupings") "parted" 3 (S_Groupings_parted G)) {c : Addr} (hcode : ∀ cdv, fd.code = cdv → cdv = .ref c) (TB : LamX.TabB base mg c (G.T "Groupings.__init__")) :
    FnOk P w K mg base (L2.CX P w) 5 f fd ["self", "book", "heap"] (spA K mg 3 (S_Groupings___init__ G)) := by
  refine fn_mkC (den := (den_Groupings___init__ G)) F sc_Groupings___init__ (fun cdv A outer s H E B hc hr tk => ?_) (bo_Groupings___init__ G N_Groupings___init__ rfl)
  have nd := sc_Groupings___init__.nd
  have hu := hu_of hr
  exact (dss_cons (ds_flds (fs := ["book", "heap"]) (i := 0) rfl (da_cons (de_var 1) (da_cons (de_var 2) da_nil)) (pgs_cons (pg_fld cl_Groupings na_Groupings_book (pe_var (i := 0) rfl (by first | exact Or.inl rfl | exact Or.inr (Or.inl rfl) | exact Or.inr (Or.inr rfl)))) (pgs_cons (pg_fld cl_Groupings na_Groupings_heap (pe_var (i := 0) rfl (by first | exact Or.inl rfl | exact Or.inr (Or.inl rfl) | exact Or.inr (Or.inr rfl)))) pgs_nil))) (dss_cons (ds_fld cl_Groupings na_Groupings_names (de_var 0) (de_call (F_names_of.at hr) tk (da_cons (de_var 1) da_nil))) (dss_cons (ds_fld cl_Groupings na_Groupings_whole (de_var 0) (de_op op_sub ol_I0 (de_op op_shl ol_I de_int (de_callB call_len cl_len rfl m_len bt_len (da_cons (de_var 2) da_nil))) de_int)) (dss_cons (ds_fld cl_Groupings na_Groupings_weights (de_var 0) (de_lc (own := [("bits", 3)]) (t := (.nm 3)) rfl nd (di_range1 rfl m_range (da_cons (de_op or_add ol_add (de_fld cl_Groupings na_Groupings_whole (de_var 0)) de_int) da_nil)) (blkOk_by (N := N_Groupings___init__) (sc := defScope s_Groupings___init__) (by decide +kernel)) (by decide) (fun _ _ _ _ _ => (gt_name (i := 3) nd rfl (Or.inl rfl))) (fun _ _ _ _ _ => dts_nil) (fun _ _ _ _ _ => (de_callB (cr_sum rfl) cl_sum rfl m_sum bt_sum (da_cons (de_lc (own := [("n", 5)]) (t := (.nm 5)) rfl nd (di_any (de_call (F_set_of.at hr) takesF (da_cons (de_var 3) da_nil))) (blkOk_by rfl) (by decide) (fun _ _ _ _ _ => (gt_name (i := 5) nd rfl (Or.inl rfl))) (fun _ _ _ _ _ => dts_nil) (fun _ _ _ _ _ => (de_ix (de_ix (de_var 2) (de_var 5)) de_int))) da_nil))))) (dss_cons (ds_fld cl_Groupings na_Groupings_many (de_var 0) de_dnewT) (dss_cons (ds_fld cl_Groupings na_Groupings_ways (de_var 0) de_dnewT) (dss_one (ds_for (t := (.nm 3)) (passes_of rfl) rfl (di_any (de_sortK (a := "one") m_sorted TB (hcode cdv hc) hr (da_cons (de_listRange2 rfl m_list rfl m_range de_int (de_op or_add ol_add (de_fld cl_Groupings na_Groupings_whole (de_var 0)) de_int)) da_nil) ⟨rfl, rfl, rfl, by decide +kernel, rfl, by decide +kernel, by decide +kernel⟩ (fun _ => rfl) (fun A outer s H E f c' B' hr tk => (de_callB call_len cl_len rfl m_len bt_len (da_cons (de_call (F_set_of.at hr) tk (da_cons (de_var 0) da_nil)) da_nil))))) (gt_name (i := 3) nd rfl (Or.inl rfl)) (dss_cons (ds_for (t := (.nm 4)) (passes_of rfl) rfl (di_any (de_fld cl_Groupings na_Groupings_names (de_var 0))) (gt_name (i := 4) nd rfl (Or.inl rfl)) (dss_one (ds_dput hu (de_fld cl_Groupings na_Groupings_many (de_var 0)) (de_tup (da_cons (de_var 3) (da_cons (de_var 4) da_nil))) (de_meth cl_Groupings (M_Groupings_count.at hr) tk (de_var 0) (da_cons (de_var 3) (da_cons (de_var 4) da_nil)))))) (dss_one (ds_for (t := (.nm 4)) (passes_of rfl) rfl (di_any (de_fld cl_Groupings na_Groupings_names (de_var 0))) (gt_name (i := 4) nd rfl (Or.inl rfl)) (dss_one (ds_dput hu (de_fld cl_Groupings na_Groupings_ways (de_var 0)) (de_tup (da_cons (de_var 3) (da_cons (de_var 4) da_nil))) (de_meth cl_Groupings (M_Groupings_parted.at hr) tk (de_var 0) (da_cons (de_var 3) (da_cons (de_var 4) da_nil))))))))))))))))

abbrev s_how_many_tidy : Stmt := topS 26
abbrev N_how_many_tidy : List Str := ["book", "heap", "land", "found"]
theorem sc_how_many_tidy : FnScope N_how_many_tidy ["book", "heap", "land"] (defScope s_how_many_tidy) := ⟨rfl, rfl, rfl, by decide +kernel, rfl, by decide +kernel, by decide +kernel⟩
theorem ok_how_many_tidy {P : Program} {w : World} {K : PySem.W.Frag} {mg : Str → Option Value} {base : Heap} {f : Addr} {fd : FuncData} (F : Fun K "how_many_tidy" "how_many_tidy" s_how_many_tidy f fd) {G : Gx} (m_int : mg "int" = none) (m_len : mg "len" = none) (F_look_land : FnR P w K mg base 2 "look_land" 2 S_look_land) (cl_Groupings : Cls K (G.C "Groupings")) (na_Groupings_many : NoAttr K (G.C "Groupings") "many") (na_Groupings_whole : NoAttr K (G.C "Groupings") "whole") (MK_Groupings : MkR P w K mg base 5 "Groupings" (G.C "Groupings") 3 (S_Groupings___init__ G)) :
    FnOk P w K mg base (L2.CX P w) 7 f fd ["book", "heap", "land"] (spA K mg 3 (S_how_many_tidy G)) := by
  refine fn_mk (den := (den_how_many_tidy G)) F sc_how_many_tidy (fun cdv A outer s H E B hr tk => ?_) (bo_how_many_tidy G N_how_many_tidy rfl)
  have nd := sc_how_many_tidy.nd
  have hu := hu_of hr
  exact (dss_cons (ds_expr (de_call (F_look_land.at hr) tk (da_cons (de_var 0) (da_cons (de_var 2) da_nil)))) (dss_cons (ds_if (dt_cmp (or_eq hr.units) ol_eq (de_callB call_len cl_len rfl m_len bt_len (da_cons (de_var 1) da_nil)) de_int) (dss_one (ds_ret (de_callTy call_int1 cl_intB rfl m_int bt_int (da_cons (de_cmp (or_eq hr.units) ol_eq (de_ix (de_ix (de_var 1) de_int) de_int) (de_var 2)) da_nil)))) dss_nil) (dss_cons (ds_set (i := 3) nd rfl (Or.inl rfl) (de_new (MK_Groupings.at hr) tk (da_cons (de_var 0) (da_cons (de_var 1) da_nil)))) (dss_one (ds_ret (de_dget hu (de_fld cl_Groupings na_Groupings_many (de_var 3)) (de_tup (da_cons (de_fld cl_Groupings na_Groupings_whole (de_var 3)) (da_cons (de_var 2) da_nil)))))))))

abbrev s_all_things : Stmt := topS 16
abbrev N_all_things : List Str := ["tree", "found", "one"]
theorem sc_all_things : FnScope N_all_things ["tree"] (defScope s_all_things) := ⟨rfl, rfl, rfl, by decide +kernel, rfl, by decide +kernel, by decide +kernel⟩
theorem ok_all_things {P : Program} {w : World} {K : PySem.W.Frag} {mg : Str → Option Value} {base : Heap} {f : Addr} {fd : FuncData} (F : Fun K "all_things" "all_things" s_all_things f fd) {R S : SpF} {d : Nat} (bo : ∀ as h Q E, as.length = 1 → S as h Q E → den_all_things R (startA N_all_things as) h (endsR Q) (RX E)) (F_R : FnR P w K mg base (0 + d) "all_things" 1 R) (m_isinstance : mg "isinstance" = none) (m_tuple : mg "tuple" = none) :
    FnOk P w K mg base (L2.CX P w) (0 + d + 1) f fd ["tree"] (spA K mg 1 S) := by
  refine fn_mk (den := den_all_things R) F sc_all_things (fun cdv A outer s H E B hr tk => ?_) bo
  have nd := sc_all_things.nd
  exact (dss_cons (ds_if (dt_not (dt_truth (de_callB call_isi cl_isi rfl m_isinstance bt_isinstance (da_cons (de_var 0) (da_cons (de_ty rfl m_tuple bt_tuple) da_nil))))) (dss_one (ds_ret (de_lst (da_cons (de_var 0) da_nil)))) dss_nil) (dss_cons (ds_set (i := 1) nd rfl (Or.inl rfl) (de_lstH da_nil)) (dss_cons (ds_for (t := (.nm 2)) (passes_of rfl) rfl (di_any (de_ix (de_var 0) de_int)) (gt_name (i := 2) nd rfl (Or.inl rfl)) (dss_one (ds_expr (de_bm PySem.F.plainAttrs_list PySem.F.slot_list_extend PySem.F.type_list_extend mt_extend ml_extend (de_var 1) (da_cons (de_call (F_R.at hr (Nat.le_refl _)) tk (da_cons (de_var 2) da_nil)) da_nil))))) (dss_one (ds_ret (de_var 1))))))

abbrev s_text_of : Stmt := topS 27
abbrev N_text_of : List Str := ["tree", "one"]
theorem sc_text_of : FnScope N_text_of ["tree"] (defScope s_text_of) := ⟨rfl, rfl, rfl, by decide +kernel, rfl, by decide +kernel, by decide +kernel⟩
theorem ok_text_of {P : Program} {w : World} {K : PySem.W.Frag} {mg : Str → Option Value} {base : Heap} {f : Addr} {fd : FuncData} (F : Fun K "text_of" "text_of" s_text_of f fd) {R S : SpF} {d : Nat} (bo : ∀ as h Q E, as.length = 1 → S as h Q E → den_text_of R (startA N_text_of as) h (endsR Q) (RX E)) (F_R : FnR P w K mg base (0 + d) "text_of" 1 R) (m_isinstance : mg "isinstance" = none) (m_str : mg "str" = none) (m_tuple : mg "tuple" = none) :
    FnOk P w K mg base (L2.CX P w) (0 + d + 1) f fd ["tree"] (spA K mg 1 S) := by
  refine fn_mk (den := den_text_of R) F sc_text_of (fun cdv A outer s H E B hr tk => ?_) bo
  have nd := sc_text_of.nd
  exact (dss_cons (ds_if (dt_not (dt_truth (de_callB call_isi cl_isi rfl m_isinstance bt_isinstance (da_cons (de_var 0) (da_cons (de_ty rfl m_tuple bt_tuple) da_nil))))) (dss_one (ds_ret (de_callTy call_str_int cl_strI rfl m_str bt_str (da_cons (de_var 0) da_nil)))) dss_nil) (dss_one (ds_ret (de_op or_add ol_add (de_op or_add ol_add (de_op or_add ol_add (de_ix (de_var 0) de_int) de_str) (de_bm PySem.F.plainAttrs_str PySem.F.slot_str_join PySem.F.type_str_join mt_joinD ml_join de_str (da_cons (de_lc (own := [("one", 1)]) (t := (.nm 1)) rfl nd (di_any (de_ix (de_var 0) de_int)) (blkOk_by (N := N_text_of) (sc := defScope s_text_of) (by decide +kernel)) (by decide) (fun _ _ _ _ _ => (gt_name (i := 1) nd rfl (Or.inl rfl))) (fun _ _ _ _ _ => dts_nil) (fun _ _ _ _ _ => (de_call (F_R.at hr (Nat.le_refl _)) takesF (da_cons (de_var 1) da_nil)))) da_nil))) de_str))))

abbrev s_levels_of : Stmt := topS 29
abbrev N_levels_of : List Str := ["tree", "one"]
theorem sc_levels_of : FnScope N_levels_of ["tree"] (defScope s_levels_of) := ⟨rfl, rfl, rfl, by decide +kernel, rfl, by decide +kernel, by decide +kernel⟩
theorem ok_levels_of {P : Program} {w : World} {K : PySem.W.Frag} {mg : Str → Option Value} {base : Heap} {f : Addr} {fd : FuncData} (F : Fun K "levels_of" "levels_of" s_levels_of f fd) {R S : SpF} {d : Nat} (bo : ∀ as h Q E, as.length = 1 → S as h Q E → den_levels_of R (startA N_levels_of as) h (endsR Q) (RX E)) (F_R : FnR P w K mg base (0 + d) "levels_of" 1 R) (m_isinstance : mg "isinstance" = none) (m_max : mg "max" = none) (m_tuple : mg "tuple" = none) :
    FnOk P w K mg base (L2.CX P w) (0 + d + 1) f fd ["tree"] (spA K mg 1 S) := by
  refine fn_mk (den := den_levels_of R) F sc_levels_of (fun cdv A outer s H E B hr tk => ?_) bo
  have nd := sc_levels_of.nd
  exact (dss_one (ds_ret (de_if (dt_truth (de_callB call_isi cl_isi rfl m_isinstance bt_isinstance (da_cons (de_var 0) (da_cons (de_ty rfl m_tuple bt_tuple) da_nil)))) (de_op or_add ol_add de_int (de_callB (cr_max rfl) cl_maxL rfl m_max bt_max (da_cons (de_lc (own := [("one", 1)]) (t := (.nm 1)) rfl nd (di_any (de_ix (de_var 0) de_int)) (blkOk_by (N := N_levels_of) (sc := defScope s_levels_of) (by decide +kernel)) (by decide) (fun _ _ _ _ _ => (gt_name (i := 1) nd rfl (Or.inl rfl))) (fun _ _ _ _ _ => dts_nil) (fun _ _ _ _ _ => (de_call (F_R.at hr (Nat.le_refl _)) takesF (da_cons (de_var 1) da_nil)))) da_nil))) de_int)))

abbrev s__law_things : Stmt := topS 43
abbrev N__law_things : List Str := ["tree_here", "found", "one"]
theorem sc__law_things : FnScope N__law_things ["tree_here"] (defScope s__law_things) := ⟨rfl, rfl, rfl, by decide +kernel, rfl, by decide +kernel, by decide +kernel⟩
theorem ok__law_things {P : Program} {w : World} {K : PySem.W.Frag} {mg : Str → Option Value} {base : Heap} {f : Addr} {fd : FuncData} (F : Fun K "_law_things" "_law_things" s__law_things f fd) {R S : SpF} {d : Nat} (bo : ∀ as h Q E, as.length = 1 → S as h Q E → den__law_things R (startA N__law_things as) h (endsR Q) (RX E)) (F_R : FnR P w K mg base (0 + d) "_law_things" 1 R) (m_isinstance : mg "isinstance" = none) (m_tuple : mg "tuple" = none) :
    FnOk P w K mg base (L2.CX P w) (0 + d + 1) f fd ["tree_here"] (spA K mg 1 S) := by
  refine fn_mk (den := den__law_things R) F sc__law_things (fun cdv A outer s H E B hr tk => ?_) bo
  have nd := sc__law_things.nd
  exact (dss_cons (ds_if (dt_not (dt_truth (de_callB call_isi cl_isi rfl m_isinstance bt_isinstance (da_cons (de_var 0) (da_cons (de_ty rfl m_tuple bt_tuple) da_nil))))) (dss_one (ds_ret (de_lst (da_cons (de_var 0) da_nil)))) dss_nil) (dss_cons (ds_set (i := 1) nd rfl (Or.inl rfl) (de_lst da_nil)) (dss_cons (ds_for (t := (.nm 2)) (passes_of rfl) rfl (di_any (de_ix (de_var 0) de_int)) (gt_name (i := 2) nd rfl (Or.inl rfl)) (dss_one (ds_set (i := 1) nd rfl (Or.inl rfl) (de_op or_add ol_add (de_var 1) (de_call (F_R.at hr (Nat.le_refl _)) tk (da_cons (de_var 2) da_nil)))))) (dss_one (ds_ret (de_var 1))))))

abbrev s__law_level : Stmt := topS 45
abbrev N__law_level : List Str := ["tree_here", "one"]
theorem sc__law_level : FnScope N__law_level ["tree_here"] (defScope s__law_level) := ⟨rfl, rfl, rfl, by decide +kernel, rfl, by decide +kernel, by decide +kernel⟩
theorem ok__law_level {P : Program} {w : World} {K : PySem.W.Frag} {mg : Str → Option Value} {base : Heap} {f : Addr} {fd : FuncData} (F : Fun K "_law_level" "_law_level" s__law_level f fd) {R S : SpF} {d : Nat} (bo : ∀ as h Q E, as.length = 1 → S as h Q E → den__law_level R (startA N__law_level as) h (endsR Q) (RX E)) (F_R : FnR P w K mg base (0 + d) "_law_level" 1 R) (m_isinstance : mg "isinstance" = none) (m_max : mg "max" = none) (m_tuple : mg "tuple" = none) :
    FnOk P w K mg base (L2.CX P w) (0 + d + 1) f fd ["tree_here"] (spA K mg 1 S) := by
  refine fn_mk (den := den__law_level R) F sc__law_level (fun cdv A outer s H E B hr tk => ?_) bo
  have nd := sc__law_level.nd
  exact (dss_one (ds_ret (de_if (dt_truth (de_callB call_isi cl_isi rfl m_isinstance bt_isinstance (da_cons (de_var 0) (da_cons (de_ty rfl m_tuple bt_tuple) da_nil)))) (de_op or_add ol_add de_int (de_callB (cr_max rfl) cl_maxL rfl m_max bt_max (da_cons (de_lc (own := [("one", 1)]) (t := (.nm 1)) rfl nd (di_any (de_ix (de_var 0) de_int)) (blkOk_by (N := N__law_level) (sc := defScope s__law_level) (by decide +kernel)) (by decide) (fun _ _ _ _ _ => (gt_name (i := 1) nd rfl (Or.inl rfl))) (fun _ _ _ _ _ => dts_nil) (fun _ _ _ _ _ => (de_call (F_R.at hr (Nat.le_refl _)) takesF (da_cons (de_var 1) da_nil)))) da_nil))) de_int)))

abbrev s_is_shape : Stmt := topS 15
abbrev N_is_shape : List Str := ["book", "many", "thing", "one"]
theorem sc_is_shape : FnScope N_is_shape ["book", "many", "thing"] (defScope s_is_shape) := ⟨rfl, rfl, rfl, by decide +kernel, rfl, by decide +kernel, by decide +kernel⟩
theorem ok_is_shape {P : Program} {w : World} {K : PySem.W.Frag} {mg : Str → Option Value} {base : Heap} {f : Addr} {fd : FuncData} (F : Fun K "is_shape" "is_shape" s_is_shape f fd) {R S : SpF} {d : Nat} (bo : ∀ as h Q E, as.length = 3 → S as h Q E → den_is_shape R (startA N_is_shape as) h (endsR Q) (RX E)) (F_R : FnR P w K mg base (1 + d) "is_shape" 3 R) (m_all : mg "all" = none) (m_isinstance : mg "isinstance" = none) (m_len : mg "len" = none) (m_str : mg "str" = none) (m_tuple : mg "tuple" = none) (F_is_number : FnR P w K mg base 1 "is_number" 3 S_is_number) (F_names_of : FnR P w K mg base 1 "names_of" 1 S_names_of) :
    FnOk P w K mg base (L2.CX P w) (1 + d + 1) f fd ["book", "many", "thing"] (spA K mg 3 S) := by
  refine fn_mk (den := den_is_shape R) F sc_is_shape (fun cdv A outer s H E B hr tk => ?_) bo
  have nd := sc_is_shape.nd
  exact (dss_cons (ds_if (dt_not (dt_truth (de_callB call_isi cl_isi rfl m_isinstance bt_isinstance (da_cons (de_var 2) (da_cons (de_ty rfl m_tuple bt_tuple) da_nil))))) (dss_one (ds_ret (de_call (F_is_number.at hr (Nat.le_add_right_of_le (by decide))) tk (da_cons (de_var 2) (da_cons de_int (da_cons (de_op op_sub ol_I0 (de_var 1) de_int) da_nil)))))) dss_nil) (dss_cons (ds_if (dt_w (dw_or (dt_cmp (or_ne hr.units) ol_ne (de_callB call_len cl_len rfl m_len bt_len (da_cons (de_var 2) da_nil)) de_int) (dw_or (dt_not (dt_truth (de_callB call_isi cl_isi rfl m_isinstance bt_isinstance (da_cons (de_ix (de_var 2) de_int) (da_cons (de_ty rfl m_str bt_str) da_nil))))) (dw_or1 (dt_cmp op_notIn_seq ol_notIn (de_ix (de_var 2) de_int) (de_call (F_names_of.at hr (Nat.le_add_right_of_le (by decide))) tk (da_cons (de_var 0) da_nil))))))) (dss_one (ds_ret de_bl)) dss_nil) (dss_one (ds_ret (de_and (de_callB call_isi cl_isi rfl m_isinstance bt_isinstance (da_cons (de_ix (de_var 2) de_int) (da_cons (de_ty rfl m_tuple bt_tuple) da_nil))) (de_and (de_cmp (or_ne hr.units) ol_ne (de_ix (de_var 2) de_int) (de_tup da_nil)) (de_one (de_callB (cr_all rfl) cl_all rfl m_all bt_all (da_cons (de_lc (own := [("one", 3)]) (t := (.nm 3)) rfl nd (di_any (de_ix (de_var 2) de_int)) (blkOk_by (N := N_is_shape) (sc := defScope s_is_shape) (by decide +kernel)) (by decide) (fun _ _ _ _ _ => (gt_name (i := 3) nd rfl (Or.inl rfl))) (fun _ _ _ _ _ => dts_nil) (fun _ _ _ _ _ => (de_call (F_R.at hr (Nat.le_refl _)) takesF (da_cons (de_var 0) (da_cons (de_var 1) (da_cons (de_var 3) da_nil)))))) da_nil)))))))))

abbrev s_things_in : Stmt := topS 18
abbrev N_things_in : List Str := ["tree"]
theorem sc_things_in : FnScope N_things_in ["tree"] (defScope s_things_in) := ⟨rfl, rfl, rfl, by decide +kernel, rfl, by decide +kernel, by decide +kernel⟩
theorem ok_things_in {P : Program} {w : World} {K : PySem.W.Frag} {mg : Str → Option Value} {base : Heap} {f : Addr} {fd : FuncData} (F : Fun K "things_in" "things_in" s_things_in f fd) (m_sorted : mg "sorted" = none) (m_tuple : mg "tuple" = none) (F_all_things : FnR P w K mg base 24 "all_things" 1 S_all_things) :
    FnOk P w K mg base (L2.CX P w) 25 f fd ["tree"] (spA K mg 1 S_things_in) := by
  refine fn_mk (den := den_things_in) F sc_things_in (fun cdv A outer s H E B hr tk => ?_) (bo_things_in N_things_in rfl)
  have nd := sc_things_in.nd
  exact (dss_one (ds_ret (de_callTy call_tuple_of cl_tuple rfl m_tuple bt_tuple (da_cons (de_callB cr_sortedAll cl_sorted rfl m_sorted bt_sorted (da_cons (de_call (F_all_things.at hr) tk (da_cons (de_var 0) da_nil)) da_nil)) da_nil))))

abbrev s_is_tree : Stmt := topS 17
abbrev N_is_tree : List Str := ["book", "heap", "thing", "things"]
theorem sc_is_tree : FnScope N_is_tree ["book", "heap", "thing"] (defScope s_is_tree) := ⟨rfl, rfl, rfl, by decide +kernel, rfl, by decide +kernel, by decide +kernel⟩
theorem ok_is_tree {P : Program} {w : World} {K : PySem.W.Frag} {mg : Str → Option Value} {base : Heap} {f : Addr} {fd : FuncData} (F : Fun K "is_tree" "is_tree" s_is_tree f fd) (m_len : mg "len" = none) (m_set : mg "set" = none) (F_all_things : FnR P w K mg base 24 "all_things" 1 S_all_things) (F_is_shape : FnR P w K mg base 25 "is_shape" 3 S_is_shape) :
    FnOk P w K mg base (L2.CX P w) 26 f fd ["book", "heap", "thing"] (spA K mg 3 S_is_tree) := by
  refine fn_mk (den := den_is_tree) F sc_is_tree (fun cdv A outer s H E B hr tk => ?_) (bo_is_tree N_is_tree rfl)
  have nd := sc_is_tree.nd
  exact (dss_cons (ds_if (dt_not (dt_truth (de_call (F_is_shape.at hr) tk (da_cons (de_var 0) (da_cons (de_callB call_len cl_len rfl m_len bt_len (da_cons (de_var 1) da_nil)) (da_cons (de_var 2) da_nil)))))) (dss_one (ds_ret de_bl)) dss_nil) (dss_cons (ds_set (i := 3) nd rfl (Or.inl rfl) (de_call (F_all_things.at hr) tk (da_cons (de_var 2) da_nil))) (dss_one (ds_ret (de_cmp (or_eq hr.units) ol_eq (de_lenSet rfl m_len rfl m_set (de_var 3)) (de_callB call_len cl_len rfl m_len bt_len (da_cons (de_var 3) da_nil)))))))

abbrev s_valued : Stmt := topS 19
abbrev N_valued : List Str := ["book", "heap", "tree", "path", "rows", "worth", "land", "at", "whole", "counting", "place", "one", "inner"]
theorem sc_valued : FnScope N_valued ["book", "heap", "tree", "path", "rows"] (defScope s_valued) := ⟨rfl, rfl, rfl, by decide +kernel, rfl, by decide +kernel, by decide +kernel⟩
theorem ok_valued {P : Program} {w : World} {K : PySem.W.Frag} {mg : Str → Option Value} {base : Heap} {f : Addr} {fd : FuncData} (F : Fun K "valued" "valued" s_valued f fd) {R S : SpF} {d : Nat} (bo : ∀ as h Q E, as.length = 5 → S as h Q E → den_valued R (startA N_valued as) h (endsR Q) (RX E)) (F_R : FnR P w K mg base (2 + d) "valued" 5 R) (m_enumerate : mg "enumerate" = none) (m_isinstance : mg "isinstance" = none) (m_len : mg "len" = none) (m_tuple : mg "tuple" = none) (F_is_enough : FnR P w K mg base 2 "is_enough" 4 S_is_enough) (F_takes : FnR P w K mg base 1 "takes" 2 S_takes) :
    FnOk P w K mg base (L2.CX P w) (2 + d + 1) f fd ["book", "heap", "tree", "path", "rows"] (spA K mg 5 S) := by
  refine fn_mk (den := den_valued R) F sc_valued (fun cdv A outer s H E B hr tk => ?_) bo
  have nd := sc_valued.nd
  exact (dss_cons (ds_if (dt_not (dt_truth (de_callB call_isi cl_isi rfl m_isinstance bt_isinstance (da_cons (de_var 2) (da_cons (de_ty rfl m_tuple bt_tuple) da_nil))))) (dss_cons (ds_asg (t := (.tp [(.nm 5), (.nm 6)])) (de_ix (de_var 1) (de_var 2)) (gt_tup rfl (gts_cons (gt_name (i := 5) nd rfl (Or.inl rfl)) (gts_cons (gt_name (i := 6) nd rfl (Or.inl rfl)) gts_nil)))) (dss_cons (ds_expr (de_bm PySem.F.plainAttrs_list PySem.F.slot_list_append PySem.F.type_list_append mt_append ml_append (de_var 4) (da_cons (de_tup (da_cons (de_var 3) (da_cons (de_var 6) da_nil))) da_nil))) (dss_one (ds_ret (de_tup (da_cons (de_var 5) (da_cons (de_var 5) (da_cons (de_var 6) da_nil)))))))) dss_nil) (dss_cons (ds_par3 (i := 7) (j := 8) (l := 9) rfl nd rfl rfl rfl (by decide) (by decide) (by decide) rfl rfl rfl (da_cons (de_callB call_len cl_len rfl m_len bt_len (da_cons (de_var 4) da_nil)) (da_cons de_int (da_cons de_int da_nil)))) (dss_cons (ds_expr (de_bm PySem.F.plainAttrs_list PySem.F.slot_list_append PySem.F.type_list_append mt_append ml_append (de_var 4) (da_cons (de_tup (da_cons (de_var 3) (da_cons de_non da_nil))) da_nil))) (dss_cons (ds_for (t := (.tp [(.nm 10), (.nm 11)])) (passes_of rfl) rfl (di_enum rfl m_enumerate (da_cons (de_ix (de_var 2) de_int) da_nil)) (gt_tup rfl (gts_cons (gt_name (i := 10) nd rfl (Or.inl rfl)) (gts_cons (gt_name (i := 11) nd rfl (Or.inl rfl)) gts_nil))) (dss_cons (ds_asg (t := (.tp [(.nm 5), (.nm 12), (.nm 6)])) (de_call (F_R.at hr (Nat.le_refl _)) tk (da_cons (de_var 0) (da_cons (de_var 1) (da_cons (de_var 11) (da_cons (de_op or_add ol_add (de_var 3) (de_tup (da_cons (de_var 10) da_nil))) (da_cons (de_var 4) da_nil)))))) (gt_tup rfl (gts_cons (gt_name (i := 5) nd rfl (Or.inl rfl)) (gts_cons (gt_name (i := 12) nd rfl (Or.inl rfl)) (gts_cons (gt_name (i := 6) nd rfl (Or.inl rfl)) gts_nil))))) (dss_cons (ds_augI (i := 8) nd rfl (Or.inl rfl) (de_var 5) iop_add ol_I0) (dss_one (ds_augI (i := 9) nd rfl (Or.inl rfl) (de_if (dt_w (dw_and (dt_cmp op_notN ol_notN (de_var 6) de_non) (dw_and1 (dt_cmp op_in_seq ol_in (de_var 6) (de_call (F_takes.at hr (Nat.le_add_right_of_le (by decide))) tk (da_cons (de_var 0) (da_cons (de_ix (de_var 2) de_int) da_nil))))))) (de_var 5) de_int) iop_add ol_I0))))) (dss_cons (ds_set (i := 6) nd rfl (Or.inl rfl) (de_if (dt_truth (de_call (F_is_enough.at hr (Nat.le_add_right_of_le (by decide))) tk (da_cons (de_var 0) (da_cons (de_ix (de_var 2) de_int) (da_cons (de_var 9) (da_cons (de_var 8) da_nil)))))) (de_ix (de_var 2) de_int) de_non)) (dss_cons (ds_lput (de_var 4) (de_var 7) (de_tup (da_cons (de_var 3) (da_cons (de_var 6) da_nil)))) (dss_one (ds_ret (de_tup (da_cons (de_var 8) (da_cons (de_var 9) (da_cons (de_var 6) da_nil))))))))))))

abbrev s__law_valued : Stmt := topS 39
abbrev N__law_valued : List Str := ["book", "heap", "tree_here", "whole", "counting", "one", "worth", "inner", "land"]
theorem sc__law_valued : FnScope N__law_valued ["book", "heap", "tree_here"] (defScope s__law_valued) := ⟨rfl, rfl, rfl, by decide +kernel, rfl, by decide +kernel, by decide +kernel⟩
theorem ok__law_valued {P : Program} {w : World} {K : PySem.W.Frag} {mg : Str → Option Value} {base : Heap} {f : Addr} {fd : FuncData} (F : Fun K "_law_valued" "_law_valued" s__law_valued f fd) {R S : SpF} {d : Nat} (bo : ∀ as h Q E, as.length = 3 → S as h Q E → den__law_valued R (startA N__law_valued as) h (endsR Q) (RX E)) (F_R : FnR P w K mg base (2 + d) "_law_valued" 3 R) (m_isinstance : mg "isinstance" = none) (m_tuple : mg "tuple" = none) (F__law_has_share : FnR P w K mg base 2 "_law_has_share" 4 S__law_has_share) (F__law_takes : FnR P w K mg base 1 "_law_takes" 2 S__law_takes) :
    FnOk P w K mg base (L2.CX P w) (2 + d + 1) f fd ["book", "heap", "tree_here"] (spA K mg 3 S) := by
  refine fn_mk (den := den__law_valued R) F sc__law_valued (fun cdv A outer s H E B hr tk => ?_) bo
  have nd := sc__law_valued.nd
  exact (dss_cons (ds_if (dt_not (dt_truth (de_callB call_isi cl_isi rfl m_isinstance bt_isinstance (da_cons (de_var 2) (da_cons (de_ty rfl m_tuple bt_tuple) da_nil))))) (dss_one (ds_ret (de_tup (da_cons (de_ix (de_ix (de_var 1) (de_var 2)) de_int) (da_cons (de_ix (de_ix (de_var 1) (de_var 2)) de_int) (da_cons (de_ix (de_ix (de_var 1) (de_var 2)) de_int) da_nil)))))) dss_nil) (dss_cons (ds_asg (t := (.tp [(.nm 3), (.nm 4)])) (de_tup (da_cons de_int (da_cons de_int da_nil))) (gt_tup rfl (gts_cons (gt_name (i := 3) nd rfl (Or.inl rfl)) (gts_cons (gt_name (i := 4) nd rfl (Or.inl rfl)) gts_nil)))) (dss_cons (ds_for (t := (.nm 5)) (passes_of rfl) rfl (di_any (de_ix (de_var 2) de_int)) (gt_name (i := 5) nd rfl (Or.inl rfl)) (dss_cons (ds_asg (t := (.tp [(.nm 6), (.nm 7), (.nm 8)])) (de_call (F_R.at hr (Nat.le_refl _)) tk (da_cons (de_var 0) (da_cons (de_var 1) (da_cons (de_var 5) da_nil)))) (gt_tup rfl (gts_cons (gt_name (i := 6) nd rfl (Or.inl rfl)) (gts_cons (gt_name (i := 7) nd rfl (Or.inl rfl)) (gts_cons (gt_name (i := 8) nd rfl (Or.inl rfl)) gts_nil))))) (dss_cons (ds_set (i := 3) nd rfl (Or.inl rfl) (de_op or_add ol_add (de_var 3) (de_var 6))) (dss_one (ds_if (dt_w (dw_and (dt_cmp op_notN ol_notN (de_var 8) de_non) (dw_and1 (dt_cmp op_in_seq ol_in (de_var 8) (de_call (F__law_takes.at hr (Nat.le_add_right_of_le (by decide))) tk (da_cons (de_var 0) (da_cons (de_ix (de_var 2) de_int) da_nil))))))) (dss_one (ds_set (i := 4) nd rfl (Or.inl rfl) (de_op or_add ol_add (de_var 4) (de_var 6)))) dss_nil))))) (dss_one (ds_ret (de_tup (da_cons (de_var 3) (da_cons (de_var 4) (da_cons (de_if (dt_truth (de_call (F__law_has_share.at hr (Nat.le_add_right_of_le (by decide))) tk (da_cons (de_var 0) (da_cons (de_ix (de_var 2) de_int) (da_cons (de_var 4) (da_cons (de_var 3) da_nil)))))) (de_ix (de_var 2) de_int) de_non) da_nil)))))))))

abbrev s_counts_as : Stmt := topS 20
abbrev N_counts_as : List Str := ["book", "heap", "tree"]
theorem sc_counts_as : FnScope N_counts_as ["book", "heap", "tree"] (defScope s_counts_as) := ⟨rfl, rfl, rfl, by decide +kernel, rfl, by decide +kernel, by decide +kernel⟩
theorem ok_counts_as {P : Program} {w : World} {K : PySem.W.Frag} {mg : Str → Option Value} {base : Heap} {f : Addr} {fd : FuncData} (F : Fun K "counts_as" "counts_as" s_counts_as f fd) (F_valued : FnR P w K mg base 26 "valued" 5 S_valued) :
    FnOk P w K mg base (L2.CX P w) 27 f fd ["book", "heap", "tree"] (spA K mg 3 S_counts_as) := by
  refine fn_mk (den := den_counts_as) F sc_counts_as (fun cdv A outer s H E B hr tk => ?_) (bo_counts_as N_counts_as rfl)
  have nd := sc_counts_as.nd
  exact (dss_one (ds_ret (de_ix (de_call (F_valued.at hr) tk (da_cons (de_var 0) (da_cons (de_var 1) (da_cons (de_var 2) (da_cons (de_tup da_nil) (da_cons (de_lstH da_nil) da_nil)))))) de_int)))

abbrev s__law_is_tidy : Stmt := topS 44
abbrev N__law_is_tidy : List Str := ["book", "heap", "tree_here", "least", "one"]
theorem sc__law_is_tidy : FnScope N__law_is_tidy ["book", "heap", "tree_here"] (defScope s__law_is_tidy) := ⟨rfl, rfl, rfl, by decide +kernel, rfl, by decide +kernel, by decide +kernel⟩
theorem ok__law_is_tidy {P : Program} {w : World} {K : PySem.W.Frag} {mg : Str → Option Value} {base : Heap} {f : Addr} {fd : FuncData} (F : Fun K "_law_is_tidy" "_law_is_tidy" s__law_is_tidy f fd) {R S : SpF} {d : Nat} (bo : ∀ as h Q E, as.length = 3 → S as h Q E → den__law_is_tidy R (startA N__law_is_tidy as) h (endsR Q) (RX E)) (F_R : FnR P w K mg base (26 + d) "_law_is_tidy" 3 R) (m_isinstance : mg "isinstance" = none) (m_len : mg "len" = none) (m_min : mg "min" = none) (m_sorted : mg "sorted" = none) (m_tuple : mg "tuple" = none) (F__law_things : FnR P w K mg base 24 "_law_things" 1 S__law_things) (F__law_valued : FnR P w K mg base 26 "_law_valued" 3 S__law_valued) :
    FnOk P w K mg base (L2.CX P w) (26 + d + 1) f fd ["book", "heap", "tree_here"] (spA K mg 3 S) := by
  refine fn_mk (den := den__law_is_tidy R) F sc__law_is_tidy (fun cdv A outer s H E B hr tk => ?_) bo
  have nd := sc__law_is_tidy.nd
  exact (dss_cons (ds_if (dt_not (dt_truth (de_callB call_isi cl_isi rfl m_isinstance bt_isinstance (da_cons (de_var 2) (da_cons (de_ty rfl m_tuple bt_tuple) da_nil))))) (dss_one (ds_ret de_bl)) dss_nil) (dss_cons (ds_setLc (i := 3) (own := [("one", 4)]) (t := (.nm 4)) false rfl rfl nd rfl rfl (sw_true rfl rfl rfl (by decide +kernel)) (di_any (de_ix (de_var 2) de_int)) (blkOk_by (N := N__law_is_tidy) (sc := defScope s__law_is_tidy) (by decide +kernel)) (by decide) (fun _ _ _ _ _ => (gt_name (i := 4) nd rfl (Or.inl rfl))) (fun _ _ _ _ _ => dts_nil) (fun _ _ _ _ _ => (de_callB (cr_min rfl) cl_minL rfl m_min bt_min (da_cons (de_call (F__law_things.at hr (Nat.le_add_right_of_le (by decide))) takesF (da_cons (de_var 4) da_nil)) da_nil)))) (dss_cons (ds_if (dt_w (dw_or (dt_cmp op_lt ol_B0 (de_callB call_len cl_len rfl m_len bt_len (da_cons (de_var 3) da_nil)) de_int) (dw_or (dt_cmp (or_ne hr.units) ol_ne (de_var 3) (de_callB cr_sortedAll cl_sorted rfl m_sorted bt_sorted (da_cons (de_var 3) da_nil))) (dw_or1 (dt_cmp (or_ne hr.units) ol_ne (de_ix (de_call (F__law_valued.at hr (Nat.le_add_right_of_le (by decide))) tk (da_cons (de_var 0) (da_cons (de_var 1) (da_cons (de_var 2) da_nil)))) de_int) (de_ix (de_var 2) de_int)))))) (dss_one (ds_ret de_bl)) dss_nil) (dss_one (ds_ret (de_cmp (or_eq hr.units) ol_eq (de_lc (own := [("one", 4)]) (t := (.nm 4)) rfl nd (di_any (de_ix (de_var 2) de_int)) (blkOk_by (N := N__law_is_tidy) (sc := defScope s__law_is_tidy) (by decide +kernel)) (by decide) (fun _ _ _ _ _ => (gt_name (i := 4) nd rfl (Or.inl rfl))) (fun _ _ _ _ _ => (dts_one (dt_not (dt_truth (de_call (F_R.at hr (Nat.le_refl _)) takesF (da_cons (de_var 0) (da_cons (de_var 1) (da_cons (de_var 4) da_nil)))))))) (fun _ _ _ _ _ => (de_var 4))) (de_lst da_nil)))))))

abbrev s_is_tidy_so : Stmt := topS 23
abbrev N_is_tidy_so : List Str := ["book", "heap", "tree", "least", "one"]
theorem sc_is_tidy_so : FnScope N_is_tidy_so ["book", "heap", "tree"] (defScope s_is_tidy_so) := ⟨rfl, rfl, rfl, by decide +kernel, rfl, by decide +kernel, by decide +kernel⟩
theorem ok_is_tidy_so {P : Program} {w : World} {K : PySem.W.Frag} {mg : Str → Option Value} {base : Heap} {f : Addr} {fd : FuncData} (F : Fun K "is_tidy_so" "is_tidy_so" s_is_tidy_so f fd) {R S : SpF} {d : Nat} (bo : ∀ as h Q E, as.length = 3 → S as h Q E → den_is_tidy_so R (startA N_is_tidy_so as) h (endsR Q) (RX E)) (F_R : FnR P w K mg base (27 + d) "is_tidy_so" 3 R) (m_all : mg "all" = none) (m_isinstance : mg "isinstance" = none) (m_len : mg "len" = none) (m_sorted : mg "sorted" = none) (m_tuple : mg "tuple" = none) (F_counts_as : FnR P w K mg base 27 "counts_as" 3 S_counts_as) (F_things_in : FnR P w K mg base 25 "things_in" 1 S_things_in) :
    FnOk P w K mg base (L2.CX P w) (27 + d + 1) f fd ["book", "heap", "tree"] (spA K mg 3 S) := by
  refine fn_mk (den := den_is_tidy_so R) F sc_is_tidy_so (fun cdv A outer s H E B hr tk => ?_) bo
  have nd := sc_is_tidy_so.nd
  exact (dss_cons (ds_if (dt_not (dt_truth (de_callB call_isi cl_isi rfl m_isinstance bt_isinstance (da_cons (de_var 2) (da_cons (de_ty rfl m_tuple bt_tuple) da_nil))))) (dss_one (ds_ret de_bl)) dss_nil) (dss_cons (ds_if (dt_w (dw_or (dt_cmp op_lt ol_B0 (de_callB call_len cl_len rfl m_len bt_len (da_cons (de_ix (de_var 2) de_int) da_nil)) de_int) (dw_or1 (dt_cmp (or_ne hr.units) ol_ne (de_call (F_counts_as.at hr (Nat.le_add_right_of_le (by decide))) tk (da_cons (de_var 0) (da_cons (de_var 1) (da_cons (de_var 2) da_nil)))) (de_ix (de_var 2) de_int))))) (dss_one (ds_ret de_bl)) dss_nil) (dss_cons (ds_setLc (i := 3) (own := [("one", 4)]) (t := (.nm 4)) false rfl rfl nd rfl rfl (sw_true rfl rfl rfl (by decide +kernel)) (di_any (de_ix (de_var 2) de_int)) (blkOk_by (N := N_is_tidy_so) (sc := defScope s_is_tidy_so) (by decide +kernel)) (by decide) (fun _ _ _ _ _ => (gt_name (i := 4) nd rfl (Or.inl rfl))) (fun _ _ _ _ _ => dts_nil) (fun _ _ _ _ _ => (de_ix (de_call (F_things_in.at hr (Nat.le_add_right_of_le (by decide))) takesF (da_cons (de_var 4) da_nil)) de_int))) (dss_one (ds_ret (de_and (de_cmp (or_eq hr.units) ol_eq (de_var 3) (de_callB cr_sortedAll cl_sorted rfl m_sorted bt_sorted (da_cons (de_var 3) da_nil))) (de_one (de_callB (cr_all rfl) cl_all rfl m_all bt_all (da_cons (de_lc (own := [("one", 4)]) (t := (.nm 4)) rfl nd (di_any (de_ix (de_var 2) de_int)) (blkOk_by (N := N_is_tidy_so) (sc := defScope s_is_tidy_so) (by decide +kernel)) (by decide) (fun _ _ _ _ _ => (gt_name (i := 4) nd rfl (Or.inl rfl))) (fun _ _ _ _ _ => dts_nil) (fun _ _ _ _ _ => (de_call (F_R.at hr (Nat.le_refl _)) takesF (da_cons (de_var 0) (da_cons (de_var 1) (da_cons (de_var 4) da_nil)))))) da_nil)))))))))

abbrev s_is_tidy : Stmt := topS 24
abbrev N_is_tidy : List Str := ["book", "heap", "thing"]
theorem sc_is_tidy : FnScope N_is_tidy ["book", "heap", "thing"] (defScope s_is_tidy) := ⟨rfl, rfl, rfl, by decide +kernel, rfl, by decide +kernel, by decide +kernel⟩
theorem ok_is_tidy {P : Program} {w : World} {K : PySem.W.Frag} {mg : Str → Option Value} {base : Heap} {f : Addr} {fd : FuncData} (F : Fun K "is_tidy" "is_tidy" s_is_tidy f fd) (F_is_tidy_so : FnR P w K mg base 51 "is_tidy_so" 3 S_is_tidy_so) (F_is_tree : FnR P w K mg base 26 "is_tree" 3 S_is_tree) :
    FnOk P w K mg base (L2.CX P w) 52 f fd ["book", "heap", "thing"] (spA K mg 3 S_is_tidy) := by
  refine fn_mk (den := den_is_tidy) F sc_is_tidy (fun cdv A outer s H E B hr tk => ?_) (bo_is_tidy N_is_tidy rfl)
  have nd := sc_is_tidy.nd
  exact (dss_one (ds_ret (de_and (de_call (F_is_tree.at hr) tk (da_cons (de_var 0) (da_cons (de_var 1) (da_cons (de_var 2) da_nil)))) (de_one (de_call (F_is_tidy_so.at hr) tk (da_cons (de_var 0) (da_cons (de_var 1) (da_cons (de_var 2) da_nil))))))))

abbrev s_Groupings_trees : Stmt := inClass (topS 25) 4
abbrev N_Groupings_trees : List Str := ["self", "bits", "land", "low", "found", "part", "rows", "tree", "work"]
theorem sc_Groupings_trees : FnScope N_Groupings_trees ["self", "bits", "land"] (defScope s_Groupings_trees) := ⟨rfl, rfl, rfl, by decide +kernel, rfl, by decide +kernel, by decide +kernel⟩
theorem ok_Groupings_trees {P : Program} {w : World} {K : PySem.W.Frag} {mg : Str → Option Value} {base : Heap} {f : Addr} {fd : FuncData} (F : Fun K "trees" "Groupings.trees" s_Groupings_trees f fd) {G : Gx} {R_trees R_block_trees R_rows S : SpF} {d : Nat} (bo : ∀ as h Q E, as.length = 3 → S as h Q E → den_Groupings_trees G R_trees R_block_trees R_rows (startA N_Groupings_trees as) h (endsR Q) (RX E)) (MR_trees : MtR P w K mg base (28 + d) (G.C "Groupings") "trees" 3 R_trees) (MR_block_trees : MtR P w K mg base (28 + d) (G.C "Groupings") "block_trees" 2 R_block_trees) (MR_rows : MtR P w K mg base (28 + d) (G.C "Groupings") "rows" 2 R_rows) (F_counts_as : FnR P w K mg base 27 "counts_as" 3 S_counts_as) (F_parts_of : FnR P w K mg base 1 "parts_of" 1 S_parts_of) (cl_Groupings : Cls K (G.C "Groupings")) (na_Groupings_book : NoAttr K (G.C "Groupings") "book") (na_Groupings_heap : NoAttr K (G.C "Groupings") "heap") :
    FnOk P w K mg base (L2.CX P w) (28 + d + 1) f fd ["self", "bits", "land"] (spA K mg 3 S) := by
  refine fn_mk (den := den_Groupings_trees G R_trees R_block_trees R_rows) F sc_Groupings_trees (fun cdv A outer s H E B hr tk => ?_) bo
  have nd := sc_Groupings_trees.nd
  exact (dss_cons (ds_par2 (i := 3) (j := 4) rfl nd rfl rfl (by decide) rfl rfl (da_cons (de_op op_and ol_I0 (de_var 1) (de_un un_neg ul_neg (de_var 1))) (da_cons (de_lstH da_nil) da_nil))) (dss_cons (ds_for (t := (.nm 5)) (passes_of rfl) rfl (di_any (de_call (F_parts_of.at hr (Nat.le_add_right_of_le (by decide))) tk (da_cons (de_var 1) da_nil))) (gt_name (i := 5) nd rfl (Or.inl rfl)) (dss_one (ds_if (dt_w (dw_and (dt_truth (de_op op_and ol_I0 (de_var 5) (de_var 3))) (dw_and1 (dt_cmp (or_ne hr.units) ol_ne (de_var 5) (de_var 1))))) (dss_one (ds_for (t := (.nm 6)) (passes_of rfl) rfl (di_any (de_meth cl_Groupings (MR_rows.at hr (Nat.le_refl _)) tk (de_var 0) (da_cons (de_op op_xor ol_I0 (de_var 1) (de_var 5)) da_nil))) (gt_name (i := 6) nd rfl (Or.inl rfl)) (dss_one (ds_for (t := (.nm 7)) (passes_of rfl) rfl (di_any (de_meth cl_Groupings (MR_block_trees.at hr (Nat.le_refl _)) tk (de_var 0) (da_cons (de_var 5) da_nil))) (gt_name (i := 7) nd rfl (Or.inl rfl)) (dss_cons (ds_set (i := 8) nd rfl (Or.inl rfl) (de_tup (da_cons (de_var 2) (da_cons (de_op or_add ol_add (de_tup (da_cons (de_var 7) da_nil)) (de_var 6)) da_nil)))) (dss_one (ds_if (dt_cmp (or_eq hr.units) ol_eq (de_call (F_counts_as.at hr (Nat.le_add_right_of_le (by decide))) tk (da_cons (de_fld cl_Groupings na_Groupings_book (de_var 0)) (da_cons (de_fld cl_Groupings na_Groupings_heap (de_var 0)) (da_cons (de_var 8) da_nil)))) (de_var 2)) (dss_one (ds_expr (de_bm PySem.F.plainAttrs_list PySem.F.slot_list_append PySem.F.type_list_append mt_append ml_append (de_var 4) (da_cons (de_var 8) da_nil)))) dss_nil))))))) dss_nil))) (dss_one (ds_ret (de_var 4)))))

abbrev s_Groupings_block_trees : Stmt := inClass (topS 25) 5
abbrev N_Groupings_block_trees : List Str := ["self", "bits", "things", "land", "tree"]
theorem sc_Groupings_block_trees : FnScope N_Groupings_block_trees ["self", "bits"] (defScope s_Groupings_block_trees) := ⟨rfl, rfl, rfl, by decide +kernel, rfl, by decide +kernel, by decide +kernel⟩
theorem ok_Groupings_block_trees {P : Program} {w : World} {K : PySem.W.Frag} {mg : Str → Option Value} {base : Heap} {f : Addr} {fd : FuncData} (F : Fun K "block_trees" "Groupings.block_trees" s_Groupings_block_trees f fd) {G : Gx} {R_trees R_block_trees R_rows S : SpF} {d : Nat} (bo : ∀ as h Q E, as.length = 2 → S as h Q E → den_Groupings_block_trees G R_trees R_block_trees R_rows (startA N_Groupings_block_trees as) h (endsR Q) (RX E)) (MR_trees : MtR P w K mg base (28 + d) (G.C "Groupings") "trees" 3 R_trees) (MR_block_trees : MtR P w K mg base (28 + d) (G.C "Groupings") "block_trees" 2 R_block_trees) (MR_rows : MtR P w K mg base (28 + d) (G.C "Groupings") "rows" 2 R_rows) (m_len : mg "len" = none) (F_set_of : FnR P w K mg base 1 "set_of" 1 S_set_of) (cl_Groupings : Cls K (G.C "Groupings")) (na_Groupings_many : NoAttr K (G.C "Groupings") "many") (na_Groupings_names : NoAttr K (G.C "Groupings") "names") :
    FnOk P w K mg base (L2.CX P w) (28 + d + 1) f fd ["self", "bits"] (spA K mg 2 S) := by
  refine fn_mk (den := den_Groupings_block_trees G R_trees R_block_trees R_rows) F sc_Groupings_block_trees (fun cdv A outer s H E B hr tk => ?_) bo
  have nd := sc_Groupings_block_trees.nd
  have hu := hu_of hr
  exact (dss_cons (ds_set (i := 2) nd rfl (Or.inl rfl) (de_call (F_set_of.at hr (Nat.le_add_right_of_le (by decide))) tk (da_cons (de_var 1) da_nil))) (dss_cons (ds_if (dt_cmp (or_eq hr.units) ol_eq (de_callB call_len cl_len rfl m_len bt_len (da_cons (de_var 2) da_nil)) de_int) (dss_one (ds_ret (de_lst (da_cons (de_ix (de_var 2) de_int) da_nil)))) dss_nil) (dss_one (ds_ret (de_lc2 (own := [("land", 3), ("tree", 4)]) (vs1 := [4]) (t := (.nm 3)) (t1 := (.nm 4)) rfl nd (di_any (de_fld cl_Groupings na_Groupings_names (de_var 0))) (blkOk_by (N := N_Groupings_block_trees) (sc := defScope s_Groupings_block_trees) (by decide +kernel)) (by decide) (by decide) (by decide) (fun _ _ _ _ _ => (gt_name (i := 3) nd rfl (Or.inl rfl))) (fun _ _ _ _ _ => (dts_one (dt_truth (de_dget hu (de_fld cl_Groupings na_Groupings_many (de_var 0)) (de_tup (da_cons (de_var 1) (da_cons (de_var 3) da_nil))))))) (fun _ _ _ _ _ => (di_any (de_meth cl_Groupings (MR_trees.at hr (Nat.le_refl _)) takesF (de_var 0) (da_cons (de_var 1) (da_cons (de_var 3) da_nil))))) (fun _ _ _ _ _ => (gt_name (i := 4) nd rfl (Or.inl rfl))) (fun _ _ _ _ _ => dts_nil) (fun _ _ _ _ _ => (de_var 4)))))))

abbrev s_Groupings_rows : Stmt := inClass (topS 25) 6
abbrev N_Groupings_rows : List Str := ["self", "bits", "low", "found", "part", "rest", "tree", "row"]
theorem sc_Groupings_rows : FnScope N_Groupings_rows ["self", "bits"] (defScope s_Groupings_rows) := ⟨rfl, rfl, rfl, by decide +kernel, rfl, by decide +kernel, by decide +kernel⟩
theorem ok_Groupings_rows {P : Program} {w : World} {K : PySem.W.Frag} {mg : Str → Option Value} {base : Heap} {f : Addr} {fd : FuncData} (F : Fun K "rows" "Groupings.rows" s_Groupings_rows f fd) {G : Gx} {R_trees R_block_trees R_rows S : SpF} {d : Nat} (bo : ∀ as h Q E, as.length = 2 → S as h Q E → den_Groupings_rows G R_trees R_block_trees R_rows (startA N_Groupings_rows as) h (endsR Q) (RX E)) (MR_trees : MtR P w K mg base (28 + d) (G.C "Groupings") "trees" 3 R_trees) (MR_block_trees : MtR P w K mg base (28 + d) (G.C "Groupings") "block_trees" 2 R_block_trees) (MR_rows : MtR P w K mg base (28 + d) (G.C "Groupings") "rows" 2 R_rows) (F_parts_of : FnR P w K mg base 1 "parts_of" 1 S_parts_of) (cl_Groupings : Cls K (G.C "Groupings")) :
    FnOk P w K mg base (L2.CX P w) (28 + d + 1) f fd ["self", "bits"] (spA K mg 2 S) := by
  refine fn_mk (den := den_Groupings_rows G R_trees R_block_trees R_rows) F sc_Groupings_rows (fun cdv A outer s H E B hr tk => ?_) bo
  have nd := sc_Groupings_rows.nd
  exact (dss_cons (ds_if (dt_not (dt_truth (de_var 1))) (dss_one (ds_ret (de_lst (da_cons (de_tup da_nil) da_nil)))) dss_nil) (dss_cons (ds_par2 (i := 2) (j := 3) rfl nd rfl rfl (by decide) rfl rfl (da_cons (de_op op_and ol_I0 (de_var 1) (de_un un_neg ul_neg (de_var 1))) (da_cons (de_lstH da_nil) da_nil))) (dss_cons (ds_for (t := (.nm 4)) (passes_of rfl) rfl (di_any (de_call (F_parts_of.at hr (Nat.le_add_right_of_le (by decide))) tk (da_cons (de_var 1) da_nil))) (gt_name (i := 4) nd rfl (Or.inl rfl)) (dss_one (ds_if (dt_truth (de_op op_and ol_I0 (de_var 4) (de_var 2))) (dss_cons (ds_set (i := 5) nd rfl (Or.inr rfl) (de_meth cl_Groupings (MR_rows.at hr (Nat.le_refl _)) tk (de_var 0) (da_cons (de_op op_xor ol_I0 (de_var 1) (de_var 4)) da_nil))) (dss_one (ds_expr (de_bm PySem.F.plainAttrs_list PySem.F.slot_list_extend PySem.F.type_list_extend mt_extend ml_extend (de_var 3) (da_cons (de_lc2 (own := [("tree", 6), ("row", 7)]) (vs1 := [7]) (t := (.nm 6)) (t1 := (.nm 7)) rfl nd (di_any (de_meth cl_Groupings (MR_block_trees.at hr (Nat.le_refl _)) tk (de_var 0) (da_cons (de_var 4) da_nil))) (blkOk_by (N := N_Groupings_rows) (sc := defScope s_Groupings_rows) (by decide +kernel)) (by decide) (by decide) (by decide) (fun _ _ _ _ _ => (gt_name (i := 6) nd rfl (Or.inl rfl))) (fun _ _ _ _ _ => dts_nil) (fun _ _ _ _ _ => (di_any (de_var 5))) (fun _ _ _ _ _ => (gt_name (i := 7) nd rfl (Or.inl rfl))) (fun _ _ _ _ _ => dts_nil) (fun _ _ _ _ _ => (de_op or_add ol_add (de_tup (da_cons (de_var 6) da_nil)) (de_var 7)))) da_nil))))) dss_nil))) (dss_one (ds_ret (de_var 3))))))

abbrev s_all_tidy : Stmt := topS 28
abbrev N_all_tidy : List Str := ["book", "heap", "land", "many", "found"]
theorem sc_all_tidy : FnScope N_all_tidy ["book", "heap", "land"] (defScope s_all_tidy) := ⟨rfl, rfl, rfl, by decide +kernel, rfl, by decide +kernel, by decide +kernel⟩
theorem ok_all_tidy {P : Program} {w : World} {K : PySem.W.Frag} {mg : Str → Option Value} {base : Heap} {f : Addr} {fd : FuncData} (F : Fun K "all_tidy" "all_tidy" s_all_tidy f fd) {G : Gx} (m_len : mg "len" = none) (m_sorted : mg "sorted" = none) (m_tuple : mg "tuple" = none) {t_MANY : Tok} (c_MANY : mg "MANY" = some (.int 300 t_MANY)) (F_how_many_tidy : FnR P w K mg base 7 "how_many_tidy" 3 (S_how_many_tidy G)) (F_text_of : FnR P w K mg base 24 "text_of" 1 S_text_of) (cl_Groupings : Cls K (G.C "Groupings")) (na_Groupings_whole : NoAttr K (G.C "Groupings") "whole") (M_Groupings_trees : MtR P w K mg base 52 (G.C "Groupings") "trees" 3 (S_Groupings_trees G)) (MK_Groupings : MkR P w K mg base 5 "Groupings" (G.C "Groupings") 3 (S_Groupings___init__ G)) (x_TooMany : XcR K mg "TooMany") :
    FnOk P w K mg base (L2.CX P w) 53 f fd ["book", "heap", "land"] (spA K mg 3 (S_all_tidy G)) := by
  refine fn_mk (den := (den_all_tidy G)) F sc_all_tidy (fun cdv A outer s H E B hr tk => ?_) (bo_all_tidy G N_all_tidy rfl)
  have nd := sc_all_tidy.nd
  exact (dss_cons (ds_set (i := 3) nd rfl (Or.inl rfl) (de_call (F_how_many_tidy.at hr) tk (da_cons (de_var 0) (da_cons (de_var 1) (da_cons (de_var 2) da_nil))))) (dss_cons (ds_if (dt_cmp op_gt ol_B0 (de_var 3) (de_gint rfl c_MANY)) (dss_one (ds_raise x_TooMany tk)) dss_nil) (dss_cons (ds_if (dt_cmp (or_eq hr.units) ol_eq (de_callB call_len cl_len rfl m_len bt_len (da_cons (de_var 1) da_nil)) de_int) (dss_one (ds_ret (de_op or_mul ol_mul (de_tup (da_cons de_int da_nil)) (de_var 3)))) dss_nil) (dss_cons (ds_set (i := 4) nd rfl (Or.inl rfl) (de_new (MK_Groupings.at hr) tk (da_cons (de_var 0) (da_cons (de_var 1) da_nil)))) (dss_one (ds_ret (de_if (dt_truth (de_var 3)) (de_callTy call_tuple_of cl_tuple rfl m_tuple bt_tuple (da_cons (de_sortKD m_sorted F_text_of (hr.mono (by decide)) (da_cons (de_meth cl_Groupings (M_Groupings_trees.at hr) tk (de_var 4) (da_cons (de_fld cl_Groupings na_Groupings_whole (de_var 4)) (da_cons (de_var 2) da_nil))) da_nil)) da_nil)) (de_tup da_nil))))))))

abbrev s_law : Stmt := topS 46
abbrev N_law : List Str := ["script", "town", "k", "book", "heap", "name", "some", "told", "tree_here", "odd", "j"]
theorem sc_law : FnScope N_law ["script"] (defScope s_law) := ⟨rfl, rfl, rfl, by decide +kernel, rfl, by decide +kernel, by decide +kernel⟩
theorem ok_law {P : Program} {w : World} {K : PySem.W.Frag} {mg : Str → Option Value} {base : Heap} {f : Addr} {fd : FuncData} (F : Fun K "law" "law" s_law f fd) {G : Gx} (m_isinstance : mg "isinstance" = none) (m_len : mg "len" = none) (m_list : mg "list" = none) (m_range : mg "range" = none) (m_tuple : mg "tuple" = none) (F__law_a_book : FnR P w K mg base 2 "_law_a_book" 2 S__law_a_book) (F__law_a_heap : FnR P w K mg base 2 "_law_a_heap" 4 S__law_a_heap) (F__law_a_tree : FnR P w K mg base 2 "_law_a_tree" 4 S__law_a_tree) (F__law_begun : FnR P w K mg base 1 "_law_begun" 0 S__law_begun) (F__law_draw : FnR P w K mg base 1 "_law_draw" 3 S__law_draw) (F__law_is : FnR P w K mg base 1 "_law_is" 2 S__law_is) (F__law_is_tidy : FnR P w K mg base 50 "_law_is_tidy" 3 S__law_is_tidy) (F__law_level : FnR P w K mg base 24 "_law_level" 1 S__law_level) (F_all_tidy : FnR P w K mg base 53 "all_tidy" 3 (S_all_tidy G)) (F_how_many_tidy : FnR P w K mg base 7 "how_many_tidy" 3 (S_how_many_tidy G)) (F_is_tidy : FnR P w K mg base 52 "is_tidy" 3 S_is_tidy) (K_is_tidy_thing : FnKR P w K mg base 52 "is_tidy" 2 ["thing"] S_is_tidy) (K_levels_of_tree : FnKR P w K mg base 24 "levels_of" 0 ["tree"] S_levels_of) :
    FnOk P w K mg base (L2.CX P w) 54 f fd ["script"] (spA K mg 1 (S_lawN ["Groupings.__init__"] G)) := by
  refine fn_mk (den := (den_law G)) F sc_law (fun cdv A outer s H E B hr tk => ?_) (bo_law G N_law rfl)
  have nd := sc_law.nd
  exact (dss_cons (ds_set (i := 1) nd rfl (Or.inr rfl) (de_call0 (F__law_begun.at hr) tk)) (dss_cons (ds_for (t := (.nm 2)) (passes_of rfl) rfl (di_range1 rfl m_range (da_cons de_int da_nil)) (gt_name (i := 2) nd rfl (Or.inl rfl)) (dss_cons (ds_set (i := 3) nd rfl (Or.inr rfl) (de_call (F__law_a_book.at hr) tk (da_cons (de_var 0) (da_cons (de_var 1) da_nil)))) (dss_cons (ds_set (i := 4) nd rfl (Or.inr rfl) (de_call (F__law_a_heap.at hr) tk (da_cons (de_var 0) (da_cons (de_var 1) (da_cons (de_var 3) (da_cons de_int da_nil)))))) (dss_cons (ds_set (i := 5) nd rfl (Or.inl rfl) (de_ix (de_ix (de_ix (de_var 3) de_int) (de_call (F__law_draw.at hr) tk (da_cons (de_var 0) (da_cons (de_var 1) (da_cons (de_callB call_len cl_len rfl m_len bt_len (da_cons (de_ix (de_var 3) de_int) da_nil)) da_nil))))) de_int)) (dss_cons (ds_setLc (i := 6) (own := [("j", 10)]) (t := (.nm 10)) true rfl rfl nd rfl rfl (sw_true rfl rfl rfl (by decide +kernel)) (di_range1 rfl m_range (da_cons de_int da_nil)) (blkOk_by (N := N_law) (sc := defScope s_law) (by decide +kernel)) (by decide) (fun _ _ _ _ _ => (gt_name (i := 10) nd rfl (Or.inl rfl))) (fun _ _ _ _ _ => dts_nil) (fun _ _ _ _ _ => (de_call (F__law_a_tree.at hr) takesF (da_cons (de_var 0) (da_cons (de_var 1) (da_cons (de_var 3) (da_cons (de_listRange rfl m_list rfl m_range (de_callB call_len cl_len rfl m_len bt_len (da_cons (de_var 4) da_nil))) da_nil))))))) (dss_cons (ds_if (dt_cmp op_le ol_B0 (de_call (F_how_many_tidy.at hr) tk (da_cons (de_var 3) (da_cons (de_var 4) (da_cons (de_var 5) da_nil)))) de_int) (dss_cons (ds_set (i := 7) nd rfl (Or.inl rfl) (de_call (F_all_tidy.at hr) tk (da_cons (de_var 3) (da_cons (de_var 4) (da_cons (de_var 5) da_nil))))) (dss_one (ds_if (dt_cmp (or_ne hr.units) ol_ne (de_var 7) (de_tup da_nil)) (dss_cons (ds_set (i := 8) nd rfl (Or.inl rfl) (de_ix (de_var 7) (de_call (F__law_draw.at hr) tk (da_cons (de_var 0) (da_cons (de_var 1) (da_cons (de_callB call_len cl_len rfl m_len bt_len (da_cons (de_var 7) da_nil)) da_nil)))))) (dss_cons (ds_set (i := 6) nd rfl (Or.inl rfl) (de_op or_add ol_addH (de_var 6) (de_lst (da_cons (de_var 8) (da_cons (de_tup (da_cons (de_var 5) (da_cons (de_tup (da_cons (de_var 8) da_nil)) da_nil))) da_nil))))) (dss_one (ds_if (dt_truth (de_callB call_isi cl_isi rfl m_isinstance bt_isinstance (da_cons (de_var 8) (da_cons (de_ty rfl m_tuple bt_tuple) da_nil)))) (dss_one (ds_expr (de_bm PySem.F.plainAttrs_list PySem.F.slot_list_append PySem.F.type_list_append mt_append ml_append (de_var 6) (da_cons (de_tup (da_cons (de_ix (de_var 8) de_int) (da_cons (de_rev (de_ix (de_var 8) de_int)) da_nil))) da_nil)))) dss_nil)))) dss_nil))) dss_nil) (dss_cons (ds_for (t := (.nm 8)) (passes_of rfl) rfl (di_any (de_var 6)) (gt_name (i := 8) nd rfl (Or.inl rfl)) (dss_cons (ds_if (dt_not (dt_truth (de_call (F__law_is.at hr) tk (da_cons (de_callK (K_is_tidy_thing.at hr) tk (da_cons (de_var 3) (da_cons (de_var 4) da_nil)) (dk_cons (de_var 8) dk_nil)) (da_cons (de_call (F__law_is_tidy.at hr) tk (da_cons (de_var 3) (da_cons (de_var 4) (da_cons (de_var 8) da_nil)))) da_nil))))) (dss_one (ds_ret de_bl)) dss_nil) (dss_one (ds_if (dt_cmp (or_ne hr.units) ol_ne (de_callK0 (K_levels_of_tree.at hr) tk (dk_cons (de_var 8) dk_nil)) (de_call (F__law_level.at hr) tk (da_cons (de_var 8) da_nil))) (dss_one (ds_ret de_bl)) dss_nil)))) (dss_cons (ds_for (t := (.nm 9)) (passes_of rfl) rfl (di_any (de_tup (da_cons de_non (da_cons de_str (da_cons (de_tup da_nil) (da_cons (de_lst (da_cons de_int da_nil)) (da_cons (de_callB call_len cl_len rfl m_len bt_len (da_cons (de_var 4) da_nil)) (da_cons (de_tup (da_cons (de_var 5) (da_cons (de_tup (da_cons de_int (da_cons de_int da_nil))) da_nil))) (da_cons (de_tup (da_cons de_str (da_cons (de_tup (da_cons de_int da_nil)) da_nil))) (da_cons (de_tup (da_cons (de_var 5) (da_cons (de_tup da_nil) da_nil))) da_nil)))))))))) (gt_name (i := 9) nd rfl (Or.inl rfl)) (dss_one (ds_if (dt_not (dt_truth (de_call (F__law_is.at hr) tk (da_cons (de_call (F_is_tidy.at hr) tk (da_cons (de_var 3) (da_cons (de_var 4) (da_cons (de_var 9) da_nil)))) (da_cons de_bl da_nil))))) (dss_one (ds_ret de_bl)) dss_nil))) (dss_one (ds_if (dt_not (dt_truth (de_call (F__law_is.at hr) tk (da_cons (de_call (F_is_tidy.at hr) tk (da_cons (de_var 3) (da_cons (de_var 4) (da_cons de_int da_nil)))) (da_cons de_bl da_nil))))) (dss_one (ds_ret de_bl)) dss_nil)))))))))) (dss_one (ds_ret de_bl))))

abbrev hFa : List He.Fa := [.glo "is_number", .glo "names_of", .glo "row_of", .glo "takes", .glo "set_of", .glo "parts_of", .glo "_law_is", .glo "_law_draw", .glo "_law_begun", .glo "_law_row", .glo "_law_takes", .glo "look_land", .glo "is_enough", .glo "_law_a_book", .glo "_law_a_heap", .glo "_law_has_share", .glo "_law_a_tree", .glo "how_many_tidy", .glo "all_things", .glo "text_of", .glo "levels_of", .glo "_law_things", .glo "_law_level", .glo "is_shape", .glo "things_in", .glo "is_tree", .glo "valued", .glo "_law_valued", .glo "counts_as", .glo "_law_is_tidy", .glo "is_tidy_so", .glo "is_tidy", .glo "all_tidy", .glo "law", .free "all", .free "bool", .free "enumerate", .free "int", .free "isinstance", .free "len", .free "list", .free "max", .free "min", .free "range", .free "set", .free "sorted", .free "str", .free "sum", .free "tuple", .int "MANY" 300, .cls "Groupings", .noat "Groupings" "book", .noat "Groupings" "heap", .noat "Groupings" "many", .noat "Groupings" "names", .noat "Groupings" "ways", .noat "Groupings" "weights", .noat "Groupings" "whole", .meth "Groupings" "blocks", .meth "Groupings" "parted", .meth "Groupings" "count", .meth "Groupings" "trees", .meth "Groupings" "block_trees", .meth "Groupings" "rows", .mkr "Groupings", .glo "Groupings"]
abbrev dd_is_number : He.DefD := ⟨("is_number", none), "is_number", "is_number", defArgs s_is_number, defBody s_is_number, defScope s_is_number, [], []⟩
abbrev dd_names_of : He.DefD := ⟨("names_of", none), "names_of", "names_of", defArgs s_names_of, defBody s_names_of, defScope s_names_of, [], []⟩
abbrev dd_row_of : He.DefD := ⟨("row_of", none), "row_of", "row_of", defArgs s_row_of, defBody s_row_of, defScope s_row_of, [], []⟩
abbrev dd_takes : He.DefD := ⟨("takes", none), "takes", "takes", defArgs s_takes, defBody s_takes, defScope s_takes, [], []⟩
abbrev dd_set_of : He.DefD := ⟨("set_of", none), "set_of", "set_of", defArgs s_set_of, defBody s_set_of, defScope s_set_of, [], []⟩
abbrev dd_parts_of : He.DefD := ⟨("parts_of", none), "parts_of", "parts_of", defArgs s_parts_of, defBody s_parts_of, defScope s_parts_of, [], []⟩
abbrev dd__law_is : He.DefD := ⟨("_law_is", none), "_law_is", "_law_is", defArgs s__law_is, defBody s__law_is, defScope s__law_is, [], []⟩
abbrev dd__law_draw : He.DefD := ⟨("_law_draw", none), "_law_draw", "_law_draw", defArgs s__law_draw, defBody s__law_draw, defScope s__law_draw, [], []⟩
abbrev dd__law_begun : He.DefD := ⟨("_law_begun", none), "_law_begun", "_law_begun", defArgs s__law_begun, defBody s__law_begun, defScope s__law_begun, [], []⟩
abbrev dd__law_row : He.DefD := ⟨("_law_row", none), "_law_row", "_law_row", defArgs s__law_row, defBody s__law_row, defScope s__law_row, [], []⟩
abbrev dd__law_takes : He.DefD := ⟨("_law_takes", none), "_law_takes", "_law_takes", defArgs s__law_takes, defBody s__law_takes, defScope s__law_takes, [], []⟩
abbrev dd_look_land : He.DefD := ⟨("look_land", none), "look_land", "look_land", defArgs s_look_land, defBody s_look_land, defScope s_look_land, [], []⟩
abbrev dd_is_enough : He.DefD := ⟨("is_enough", none), "is_enough", "is_enough", defArgs s_is_enough, defBody s_is_enough, defScope s_is_enough, [], []⟩
abbrev dd_Groupings_blocks : He.DefD := ⟨("Groupings", some "blocks"), "blocks", "Groupings.blocks", defArgs s_Groupings_blocks, defBody s_Groupings_blocks, defScope s_Groupings_blocks, [], []⟩
abbrev dd__law_a_book : He.DefD := ⟨("_law_a_book", none), "_law_a_book", "_law_a_book", defArgs s__law_a_book, defBody s__law_a_book, defScope s__law_a_book, [], []⟩
abbrev dd__law_a_heap : He.DefD := ⟨("_law_a_heap", none), "_law_a_heap", "_law_a_heap", defArgs s__law_a_heap, defBody s__law_a_heap, defScope s__law_a_heap, [], []⟩
abbrev dd__law_has_share : He.DefD := ⟨("_law_has_share", none), "_law_has_share", "_law_has_share", defArgs s__law_has_share, defBody s__law_has_share, defScope s__law_has_share, [], []⟩
abbrev dd__law_a_tree : He.DefD := ⟨("_law_a_tree", none), "_law_a_tree", "_law_a_tree", defArgs s__law_a_tree, defBody s__law_a_tree, defScope s__law_a_tree, [], []⟩
abbrev dd_Groupings_parted : He.DefD := ⟨("Groupings", some "parted"), "parted", "Groupings.parted", defArgs s_Groupings_parted, defBody s_Groupings_parted, defScope s_Groupings_parted, [], []⟩
abbrev dd_Groupings_count : He.DefD := ⟨("Groupings", some "count"), "count", "Groupings.count", defArgs s_Groupings_count, defBody s_Groupings_count, defScope s_Groupings_count, [], []⟩
abbrev dd_Groupings___init__ : He.DefD := ⟨("Groupings", some "__init__"), "__init__", "Groupings.__init__", defArgs s_Groupings___init__, defBody s_Groupings___init__, defScope s_Groupings___init__, [], []⟩
abbrev dd_how_many_tidy : He.DefD := ⟨("how_many_tidy", none), "how_many_tidy", "how_many_tidy", defArgs s_how_many_tidy, defBody s_how_many_tidy, defScope s_how_many_tidy, [], []⟩
abbrev dd_all_things : He.DefD := ⟨("all_things", none), "all_things", "all_things", defArgs s_all_things, defBody s_all_things, defScope s_all_things, [], []⟩
abbrev dd_text_of : He.DefD := ⟨("text_of", none), "text_of", "text_of", defArgs s_text_of, defBody s_text_of, defScope s_text_of, [], []⟩
abbrev dd_levels_of : He.DefD := ⟨("levels_of", none), "levels_of", "levels_of", defArgs s_levels_of, defBody s_levels_of, defScope s_levels_of, [], []⟩
abbrev dd__law_things : He.DefD := ⟨("_law_things", none), "_law_things", "_law_things", defArgs s__law_things, defBody s__law_things, defScope s__law_things, [], []⟩
abbrev dd__law_level : He.DefD := ⟨("_law_level", none), "_law_level", "_law_level", defArgs s__law_level, defBody s__law_level, defScope s__law_level, [], []⟩
abbrev dd_is_shape : He.DefD := ⟨("is_shape", none), "is_shape", "is_shape", defArgs s_is_shape, defBody s_is_shape, defScope s_is_shape, [], []⟩
abbrev dd_things_in : He.DefD := ⟨("things_in", none), "things_in", "things_in", defArgs s_things_in, defBody s_things_in, defScope s_things_in, [], []⟩
abbrev dd_is_tree : He.DefD := ⟨("is_tree", none), "is_tree", "is_tree", defArgs s_is_tree, defBody s_is_tree, defScope s_is_tree, [], []⟩
abbrev dd_valued : He.DefD := ⟨("valued", none), "valued", "valued", defArgs s_valued, defBody s_valued, defScope s_valued, [], []⟩
abbrev dd__law_valued : He.DefD := ⟨("_law_valued", none), "_law_valued", "_law_valued", defArgs s__law_valued, defBody s__law_valued, defScope s__law_valued, [], []⟩
abbrev dd_counts_as : He.DefD := ⟨("counts_as", none), "counts_as", "counts_as", defArgs s_counts_as, defBody s_counts_as, defScope s_counts_as, [], []⟩
abbrev dd__law_is_tidy : He.DefD := ⟨("_law_is_tidy", none), "_law_is_tidy", "_law_is_tidy", defArgs s__law_is_tidy, defBody s__law_is_tidy, defScope s__law_is_tidy, [], []⟩
abbrev dd_is_tidy_so : He.DefD := ⟨("is_tidy_so", none), "is_tidy_so", "is_tidy_so", defArgs s_is_tidy_so, defBody s_is_tidy_so, defScope s_is_tidy_so, [], []⟩
abbrev dd_is_tidy : He.DefD := ⟨("is_tidy", none), "is_tidy", "is_tidy", defArgs s_is_tidy, defBody s_is_tidy, defScope s_is_tidy, [], []⟩
abbrev dd_Groupings_trees : He.DefD := ⟨("Groupings", some "trees"), "trees", "Groupings.trees", defArgs s_Groupings_trees, defBody s_Groupings_trees, defScope s_Groupings_trees, [], []⟩
abbrev dd_Groupings_block_trees : He.DefD := ⟨("Groupings", some "block_trees"), "block_trees", "Groupings.block_trees", defArgs s_Groupings_block_trees, defBody s_Groupings_block_trees, defScope s_Groupings_block_trees, [], []⟩
abbrev dd_Groupings_rows : He.DefD := ⟨("Groupings", some "rows"), "rows", "Groupings.rows", defArgs s_Groupings_rows, defBody s_Groupings_rows, defScope s_Groupings_rows, [], []⟩
abbrev dd_all_tidy : He.DefD := ⟨("all_tidy", none), "all_tidy", "all_tidy", defArgs s_all_tidy, defBody s_all_tidy, defScope s_all_tidy, [], []⟩
abbrev dd_law : He.DefD := ⟨("law", none), "law", "law", defArgs s_law, defBody s_law, defScope s_law, [], []⟩
abbrev hFn : List He.DefD := [dd_is_number, dd_names_of, dd_row_of, dd_takes, dd_set_of, dd_parts_of, dd__law_is, dd__law_draw, dd__law_begun, dd__law_row, dd__law_takes, dd_look_land, dd_is_enough, dd_Groupings_blocks, dd__law_a_book, dd__law_a_heap, dd__law_has_share, dd__law_a_tree, dd_Groupings_parted, dd_Groupings_count, dd_Groupings___init__, dd_how_many_tidy, dd_all_things, dd_text_of, dd_levels_of, dd__law_things, dd__law_level, dd_is_shape, dd_things_in, dd_is_tree, dd_valued, dd__law_valued, dd_counts_as, dd__law_is_tidy, dd_is_tidy_so, dd_is_tidy, dd_Groupings_trees, dd_Groupings_block_trees, dd_Groupings_rows, dd_all_tidy, dd_law]
abbrev hTf : List He.Defn := [("Groupings", some "__init__")]
abbrev gDn (n : Str) : He.Defn := if n = "Groupings.__init__" then ("Groupings", some "__init__") else (n, none)
abbrev gNs : List Str := ["Groupings.__init__"]
abbrev gx (w : World) (K : PySem.W.Frag) : Gx := ⟨gNs, fun n => (He.cT K (gDn n)).2, He.ga K, w⟩
theorem gx_ts (w : World) (K : PySem.W.Frag) : (gx w K).Ts.map (·.1) = hTf.map fun p => (He.cT K p).2 := rfl
theorem all_mk {l : PySem.W.OpenLaw} {w : World} {K : PySem.W.Frag} {h : Heap} {mg : Str → Option Value} {f : Addr} (X : K.In h) (G : h.Ns mainGlobals mg) (hfa : mg "law" = some (.ref f)) (c : He.SaysX hFa hFn [] hTf (exX ["NoLand", "TooMany"] hTf) w h K) :
    ∃ fd : FuncData, (∀ (s : Shared) (u : Value), BindsTo s fd ⟨[u], []⟩ [("script", u)]) ∧ ∀ base : Heap, K.In base → base.Ns mainGlobals mg → (∀ p ∈ hTf, LamX.TabB base mg (He.cT K p).1 (He.cT K p).2) → FnOk l.prog w K mg base (L2.CX l.prog w) 54 f fd ["script"] (spLawT K (hTf.map fun p => (He.cT K p).2)) := by
  have cd : He.SaysD hFa hFn K := congrArg Prod.fst c.t
  obtain ⟨xc, cnd⟩ := exX_ok X G c.more
  have g_is_number : mg "is_number" = some (.ref (He.fAd K ("is_number", none))) := He.glo_ok X G (cd.fact 0 (f := .glo "is_number") rfl)
  have g_names_of : mg "names_of" = some (.ref (He.fAd K ("names_of", none))) := He.glo_ok X G (cd.fact 1 (f := .glo "names_of") rfl)
  have g_row_of : mg "row_of" = some (.ref (He.fAd K ("row_of", none))) := He.glo_ok X G (cd.fact 2 (f := .glo "row_of") rfl)
  have g_takes : mg "takes" = some (.ref (He.fAd K ("takes", none))) := He.glo_ok X G (cd.fact 3 (f := .glo "takes") rfl)
  have g_set_of : mg "set_of" = some (.ref (He.fAd K ("set_of", none))) := He.glo_ok X G (cd.fact 4 (f := .glo "set_of") rfl)
  have g_parts_of : mg "parts_of" = some (.ref (He.fAd K ("parts_of", none))) := He.glo_ok X G (cd.fact 5 (f := .glo "parts_of") rfl)
  have g__law_is : mg "_law_is" = some (.ref (He.fAd K ("_law_is", none))) := He.glo_ok X G (cd.fact 6 (f := .glo "_law_is") rfl)
  have g__law_draw : mg "_law_draw" = some (.ref (He.fAd K ("_law_draw", none))) := He.glo_ok X G (cd.fact 7 (f := .glo "_law_draw") rfl)
  have g__law_begun : mg "_law_begun" = some (.ref (He.fAd K ("_law_begun", none))) := He.glo_ok X G (cd.fact 8 (f := .glo "_law_begun") rfl)
  have g__law_row : mg "_law_row" = some (.ref (He.fAd K ("_law_row", none))) := He.glo_ok X G (cd.fact 9 (f := .glo "_law_row") rfl)
  have g__law_takes : mg "_law_takes" = some (.ref (He.fAd K ("_law_takes", none))) := He.glo_ok X G (cd.fact 10 (f := .glo "_law_takes") rfl)
  have g_look_land : mg "look_land" = some (.ref (He.fAd K ("look_land", none))) := He.glo_ok X G (cd.fact 11 (f := .glo "look_land") rfl)
  have g_is_enough : mg "is_enough" = some (.ref (He.fAd K ("is_enough", none))) := He.glo_ok X G (cd.fact 12 (f := .glo "is_enough") rfl)
  have g__law_a_book : mg "_law_a_book" = some (.ref (He.fAd K ("_law_a_book", none))) := He.glo_ok X G (cd.fact 13 (f := .glo "_law_a_book") rfl)
  have g__law_a_heap : mg "_law_a_heap" = some (.ref (He.fAd K ("_law_a_heap", none))) := He.glo_ok X G (cd.fact 14 (f := .glo "_law_a_heap") rfl)
  have g__law_has_share : mg "_law_has_share" = some (.ref (He.fAd K ("_law_has_share", none))) := He.glo_ok X G (cd.fact 15 (f := .glo "_law_has_share") rfl)
  have g__law_a_tree : mg "_law_a_tree" = some (.ref (He.fAd K ("_law_a_tree", none))) := He.glo_ok X G (cd.fact 16 (f := .glo "_law_a_tree") rfl)
  have g_how_many_tidy : mg "how_many_tidy" = some (.ref (He.fAd K ("how_many_tidy", none))) := He.glo_ok X G (cd.fact 17 (f := .glo "how_many_tidy") rfl)
  have g_all_things : mg "all_things" = some (.ref (He.fAd K ("all_things", none))) := He.glo_ok X G (cd.fact 18 (f := .glo "all_things") rfl)
  have g_text_of : mg "text_of" = some (.ref (He.fAd K ("text_of", none))) := He.glo_ok X G (cd.fact 19 (f := .glo "text_of") rfl)
  have g_levels_of : mg "levels_of" = some (.ref (He.fAd K ("levels_of", none))) := He.glo_ok X G (cd.fact 20 (f := .glo "levels_of") rfl)
  have g__law_things : mg "_law_things" = some (.ref (He.fAd K ("_law_things", none))) := He.glo_ok X G (cd.fact 21 (f := .glo "_law_things") rfl)
  have g__law_level : mg "_law_level" = some (.ref (He.fAd K ("_law_level", none))) := He.glo_ok X G (cd.fact 22 (f := .glo "_law_level") rfl)
  have g_is_shape : mg "is_shape" = some (.ref (He.fAd K ("is_shape", none))) := He.glo_ok X G (cd.fact 23 (f := .glo "is_shape") rfl)
  have g_things_in : mg "things_in" = some (.ref (He.fAd K ("things_in", none))) := He.glo_ok X G (cd.fact 24 (f := .glo "things_in") rfl)
  have g_is_tree : mg "is_tree" = some (.ref (He.fAd K ("is_tree", none))) := He.glo_ok X G (cd.fact 25 (f := .glo "is_tree") rfl)
  have g_valued : mg "valued" = some (.ref (He.fAd K ("valued", none))) := He.glo_ok X G (cd.fact 26 (f := .glo "valued") rfl)
  have g__law_valued : mg "_law_valued" = some (.ref (He.fAd K ("_law_valued", none))) := He.glo_ok X G (cd.fact 27 (f := .glo "_law_valued") rfl)
  have g_counts_as : mg "counts_as" = some (.ref (He.fAd K ("counts_as", none))) := He.glo_ok X G (cd.fact 28 (f := .glo "counts_as") rfl)
  have g__law_is_tidy : mg "_law_is_tidy" = some (.ref (He.fAd K ("_law_is_tidy", none))) := He.glo_ok X G (cd.fact 29 (f := .glo "_law_is_tidy") rfl)
  have g_is_tidy_so : mg "is_tidy_so" = some (.ref (He.fAd K ("is_tidy_so", none))) := He.glo_ok X G (cd.fact 30 (f := .glo "is_tidy_so") rfl)
  have g_is_tidy : mg "is_tidy" = some (.ref (He.fAd K ("is_tidy", none))) := He.glo_ok X G (cd.fact 31 (f := .glo "is_tidy") rfl)
  have g_all_tidy : mg "all_tidy" = some (.ref (He.fAd K ("all_tidy", none))) := He.glo_ok X G (cd.fact 32 (f := .glo "all_tidy") rfl)
  have g_law : mg "law" = some (.ref (He.fAd K ("law", none))) := He.glo_ok X G (cd.fact 33 (f := .glo "law") rfl)
  have m_all := He.free_ok X G (cd.fact 34 (f := .free "all") rfl)
  have m_bool := He.free_ok X G (cd.fact 35 (f := .free "bool") rfl)
  have m_enumerate := He.free_ok X G (cd.fact 36 (f := .free "enumerate") rfl)
  have m_int := He.free_ok X G (cd.fact 37 (f := .free "int") rfl)
  have m_isinstance := He.free_ok X G (cd.fact 38 (f := .free "isinstance") rfl)
  have m_len := He.free_ok X G (cd.fact 39 (f := .free "len") rfl)
  have m_list := He.free_ok X G (cd.fact 40 (f := .free "list") rfl)
  have m_max := He.free_ok X G (cd.fact 41 (f := .free "max") rfl)
  have m_min := He.free_ok X G (cd.fact 42 (f := .free "min") rfl)
  have m_range := He.free_ok X G (cd.fact 43 (f := .free "range") rfl)
  have m_set := He.free_ok X G (cd.fact 44 (f := .free "set") rfl)
  have m_sorted := He.free_ok X G (cd.fact 45 (f := .free "sorted") rfl)
  have m_str := He.free_ok X G (cd.fact 46 (f := .free "str") rfl)
  have m_sum := He.free_ok X G (cd.fact 47 (f := .free "sum") rfl)
  have m_tuple := He.free_ok X G (cd.fact 48 (f := .free "tuple") rfl)
  obtain ⟨t_MANY, c_MANY⟩ := He.int_ok X G (cd.fact 49 (f := .int "MANY" 300) rfl)
  have cl_Groupings : Cls K ((gx w K).C "Groupings") := He.cls_ok (cd.fact 50 (f := .cls "Groupings") rfl)
  have na_Groupings_book : NoAttr K ((gx w K).C "Groupings") "book" := He.noat_ok (cd.fact 51 (f := .noat "Groupings" "book") rfl)
  have na_Groupings_heap : NoAttr K ((gx w K).C "Groupings") "heap" := He.noat_ok (cd.fact 52 (f := .noat "Groupings" "heap") rfl)
  have na_Groupings_many : NoAttr K ((gx w K).C "Groupings") "many" := He.noat_ok (cd.fact 53 (f := .noat "Groupings" "many") rfl)
  have na_Groupings_names : NoAttr K ((gx w K).C "Groupings") "names" := He.noat_ok (cd.fact 54 (f := .noat "Groupings" "names") rfl)
  have na_Groupings_ways : NoAttr K ((gx w K).C "Groupings") "ways" := He.noat_ok (cd.fact 55 (f := .noat "Groupings" "ways") rfl)
  have na_Groupings_weights : NoAttr K ((gx w K).C "Groupings") "weights" := He.noat_ok (cd.fact 56 (f := .noat "Groupings" "weights") rfl)
  have na_Groupings_whole : NoAttr K ((gx w K).C "Groupings") "whole" := He.noat_ok (cd.fact 57 (f := .noat "Groupings" "whole") rfl)
  have mt_Groupings_blocks := He.meth_ok (cd.fact 58 (f := .meth "Groupings" "blocks") rfl)
  have mt_Groupings_parted := He.meth_ok (cd.fact 59 (f := .meth "Groupings" "parted") rfl)
  have mt_Groupings_count := He.meth_ok (cd.fact 60 (f := .meth "Groupings" "count") rfl)
  have mt_Groupings_trees := He.meth_ok (cd.fact 61 (f := .meth "Groupings" "trees") rfl)
  have mt_Groupings_block_trees := He.meth_ok (cd.fact 62 (f := .meth "Groupings" "block_trees") rfl)
  have mt_Groupings_rows := He.meth_ok (cd.fact 63 (f := .meth "Groupings" "rows") rfl)
  have mk_Groupings := He.mkr_ok (cd.fact 64 (f := .mkr "Groupings") rfl)
  have gc_Groupings : mg "Groupings" = some (.ref ((gx w K).C "Groupings")) := He.glo_ok X G (cd.fact 65 (f := .glo "Groupings") rfl)
  have x_NoLand := xc "NoLand" (by decide +kernel)
  have x_TooMany := xc "TooMany" (by decide +kernel)
  obtain ⟨fd_is_number, D_is_number⟩ := cd.def_ 0 (d := dd_is_number) rfl
  have G_is_number : Fun K "is_number" "is_number" s_is_number (He.fAd K ("is_number", none)) fd_is_number := fun_of D_is_number
  obtain ⟨fd_names_of, D_names_of⟩ := cd.def_ 1 (d := dd_names_of) rfl
  have G_names_of : Fun K "names_of" "names_of" s_names_of (He.fAd K ("names_of", none)) fd_names_of := fun_of D_names_of
  obtain ⟨fd_row_of, D_row_of⟩ := cd.def_ 2 (d := dd_row_of) rfl
  have G_row_of : Fun K "row_of" "row_of" s_row_of (He.fAd K ("row_of", none)) fd_row_of := fun_of D_row_of
  obtain ⟨fd_takes, D_takes⟩ := cd.def_ 3 (d := dd_takes) rfl
  have G_takes : Fun K "takes" "takes" s_takes (He.fAd K ("takes", none)) fd_takes := fun_of D_takes
  obtain ⟨fd_set_of, D_set_of⟩ := cd.def_ 4 (d := dd_set_of) rfl
  have G_set_of : Fun K "set_of" "set_of" s_set_of (He.fAd K ("set_of", none)) fd_set_of := fun_of D_set_of
  obtain ⟨fd_parts_of, D_parts_of⟩ := cd.def_ 5 (d := dd_parts_of) rfl
  have G_parts_of : Fun K "parts_of" "parts_of" s_parts_of (He.fAd K ("parts_of", none)) fd_parts_of := fun_of D_parts_of
  obtain ⟨fd__law_is, D__law_is⟩ := cd.def_ 6 (d := dd__law_is) rfl
  have G__law_is : Fun K "_law_is" "_law_is" s__law_is (He.fAd K ("_law_is", none)) fd__law_is := fun_of D__law_is
  obtain ⟨fd__law_draw, D__law_draw⟩ := cd.def_ 7 (d := dd__law_draw) rfl
  have G__law_draw : Fun K "_law_draw" "_law_draw" s__law_draw (He.fAd K ("_law_draw", none)) fd__law_draw := fun_of D__law_draw
  obtain ⟨fd__law_begun, D__law_begun⟩ := cd.def_ 8 (d := dd__law_begun) rfl
  have G__law_begun : Fun K "_law_begun" "_law_begun" s__law_begun (He.fAd K ("_law_begun", none)) fd__law_begun := fun_of D__law_begun
  obtain ⟨fd__law_row, D__law_row⟩ := cd.def_ 9 (d := dd__law_row) rfl
  have G__law_row : Fun K "_law_row" "_law_row" s__law_row (He.fAd K ("_law_row", none)) fd__law_row := fun_of D__law_row
  obtain ⟨fd__law_takes, D__law_takes⟩ := cd.def_ 10 (d := dd__law_takes) rfl
  have G__law_takes : Fun K "_law_takes" "_law_takes" s__law_takes (He.fAd K ("_law_takes", none)) fd__law_takes := fun_of D__law_takes
  obtain ⟨fd_look_land, D_look_land⟩ := cd.def_ 11 (d := dd_look_land) rfl
  have G_look_land : Fun K "look_land" "look_land" s_look_land (He.fAd K ("look_land", none)) fd_look_land := fun_of D_look_land
  obtain ⟨fd_is_enough, D_is_enough⟩ := cd.def_ 12 (d := dd_is_enough) rfl
  have G_is_enough : Fun K "is_enough" "is_enough" s_is_enough (He.fAd K ("is_enough", none)) fd_is_enough := fun_of D_is_enough
  obtain ⟨fd_Groupings_blocks, D_Groupings_blocks⟩ := cd.def_ 13 (d := dd_Groupings_blocks) rfl
  have G_Groupings_blocks : Fun K "blocks" "Groupings.blocks" s_Groupings_blocks (He.fAd K ("Groupings", some "blocks")) fd_Groupings_blocks := fun_of D_Groupings_blocks
  obtain ⟨fd__law_a_book, D__law_a_book⟩ := cd.def_ 14 (d := dd__law_a_book) rfl
  have G__law_a_book : Fun K "_law_a_book" "_law_a_book" s__law_a_book (He.fAd K ("_law_a_book", none)) fd__law_a_book := fun_of D__law_a_book
  obtain ⟨fd__law_a_heap, D__law_a_heap⟩ := cd.def_ 15 (d := dd__law_a_heap) rfl
  have G__law_a_heap : Fun K "_law_a_heap" "_law_a_heap" s__law_a_heap (He.fAd K ("_law_a_heap", none)) fd__law_a_heap := fun_of D__law_a_heap
  obtain ⟨fd__law_has_share, D__law_has_share⟩ := cd.def_ 16 (d := dd__law_has_share) rfl
  have G__law_has_share : Fun K "_law_has_share" "_law_has_share" s__law_has_share (He.fAd K ("_law_has_share", none)) fd__law_has_share := fun_of D__law_has_share
  obtain ⟨fd__law_a_tree, D__law_a_tree⟩ := cd.def_ 17 (d := dd__law_a_tree) rfl
  have G__law_a_tree : Fun K "_law_a_tree" "_law_a_tree" s__law_a_tree (He.fAd K ("_law_a_tree", none)) fd__law_a_tree := fun_of D__law_a_tree
  obtain ⟨fd_Groupings_parted, D_Groupings_parted⟩ := cd.def_ 18 (d := dd_Groupings_parted) rfl
  have G_Groupings_parted : Fun K "parted" "Groupings.parted" s_Groupings_parted (He.fAd K ("Groupings", some "parted")) fd_Groupings_parted := fun_of D_Groupings_parted
  obtain ⟨fd_Groupings_count, D_Groupings_count⟩ := cd.def_ 19 (d := dd_Groupings_count) rfl
  have G_Groupings_count : Fun K "count" "Groupings.count" s_Groupings_count (He.fAd K ("Groupings", some "count")) fd_Groupings_count := fun_of D_Groupings_count
  obtain ⟨fd_Groupings___init__, D_Groupings___init__⟩ := cd.def_ 20 (d := dd_Groupings___init__) rfl
  have G_Groupings___init__ : Fun K "__init__" "Groupings.__init__" s_Groupings___init__ (He.fAd K ("Groupings", some "__init__")) fd_Groupings___init__ := fun_of D_Groupings___init__
  obtain ⟨fd_how_many_tidy, D_how_many_tidy⟩ := cd.def_ 21 (d := dd_how_many_tidy) rfl
  have G_how_many_tidy : Fun K "how_many_tidy" "how_many_tidy" s_how_many_tidy (He.fAd K ("how_many_tidy", none)) fd_how_many_tidy := fun_of D_how_many_tidy
  obtain ⟨fd_all_things, D_all_things⟩ := cd.def_ 22 (d := dd_all_things) rfl
  have G_all_things : Fun K "all_things" "all_things" s_all_things (He.fAd K ("all_things", none)) fd_all_things := fun_of D_all_things
  obtain ⟨fd_text_of, D_text_of⟩ := cd.def_ 23 (d := dd_text_of) rfl
  have G_text_of : Fun K "text_of" "text_of" s_text_of (He.fAd K ("text_of", none)) fd_text_of := fun_of D_text_of
  obtain ⟨fd_levels_of, D_levels_of⟩ := cd.def_ 24 (d := dd_levels_of) rfl
  have G_levels_of : Fun K "levels_of" "levels_of" s_levels_of (He.fAd K ("levels_of", none)) fd_levels_of := fun_of D_levels_of
  obtain ⟨fd__law_things, D__law_things⟩ := cd.def_ 25 (d := dd__law_things) rfl
  have G__law_things : Fun K "_law_things" "_law_things" s__law_things (He.fAd K ("_law_things", none)) fd__law_things := fun_of D__law_things
  obtain ⟨fd__law_level, D__law_level⟩ := cd.def_ 26 (d := dd__law_level) rfl
  have G__law_level : Fun K "_law_level" "_law_level" s__law_level (He.fAd K ("_law_level", none)) fd__law_level := fun_of D__law_level
  obtain ⟨fd_is_shape, D_is_shape⟩ := cd.def_ 27 (d := dd_is_shape) rfl
  have G_is_shape : Fun K "is_shape" "is_shape" s_is_shape (He.fAd K ("is_shape", none)) fd_is_shape := fun_of D_is_shape
  obtain ⟨fd_things_in, D_things_in⟩ := cd.def_ 28 (d := dd_things_in) rfl
  have G_things_in : Fun K "things_in" "things_in" s_things_in (He.fAd K ("things_in", none)) fd_things_in := fun_of D_things_in
  obtain ⟨fd_is_tree, D_is_tree⟩ := cd.def_ 29 (d := dd_is_tree) rfl
  have G_is_tree : Fun K "is_tree" "is_tree" s_is_tree (He.fAd K ("is_tree", none)) fd_is_tree := fun_of D_is_tree
  obtain ⟨fd_valued, D_valued⟩ := cd.def_ 30 (d := dd_valued) rfl
  have G_valued : Fun K "valued" "valued" s_valued (He.fAd K ("valued", none)) fd_valued := fun_of D_valued
  obtain ⟨fd__law_valued, D__law_valued⟩ := cd.def_ 31 (d := dd__law_valued) rfl
  have G__law_valued : Fun K "_law_valued" "_law_valued" s__law_valued (He.fAd K ("_law_valued", none)) fd__law_valued := fun_of D__law_valued
  obtain ⟨fd_counts_as, D_counts_as⟩ := cd.def_ 32 (d := dd_counts_as) rfl
  have G_counts_as : Fun K "counts_as" "counts_as" s_counts_as (He.fAd K ("counts_as", none)) fd_counts_as := fun_of D_counts_as
  obtain ⟨fd__law_is_tidy, D__law_is_tidy⟩ := cd.def_ 33 (d := dd__law_is_tidy) rfl
  have G__law_is_tidy : Fun K "_law_is_tidy" "_law_is_tidy" s__law_is_tidy (He.fAd K ("_law_is_tidy", none)) fd__law_is_tidy := fun_of D__law_is_tidy
  obtain ⟨fd_is_tidy_so, D_is_tidy_so⟩ := cd.def_ 34 (d := dd_is_tidy_so) rfl
  have G_is_tidy_so : Fun K "is_tidy_so" "is_tidy_so" s_is_tidy_so (He.fAd K ("is_tidy_so", none)) fd_is_tidy_so := fun_of D_is_tidy_so
  obtain ⟨fd_is_tidy, D_is_tidy⟩ := cd.def_ 35 (d := dd_is_tidy) rfl
  have G_is_tidy : Fun K "is_tidy" "is_tidy" s_is_tidy (He.fAd K ("is_tidy", none)) fd_is_tidy := fun_of D_is_tidy
  obtain ⟨fd_Groupings_trees, D_Groupings_trees⟩ := cd.def_ 36 (d := dd_Groupings_trees) rfl
  have G_Groupings_trees : Fun K "trees" "Groupings.trees" s_Groupings_trees (He.fAd K ("Groupings", some "trees")) fd_Groupings_trees := fun_of D_Groupings_trees
  obtain ⟨fd_Groupings_block_trees, D_Groupings_block_trees⟩ := cd.def_ 37 (d := dd_Groupings_block_trees) rfl
  have G_Groupings_block_trees : Fun K "block_trees" "Groupings.block_trees" s_Groupings_block_trees (He.fAd K ("Groupings", some "block_trees")) fd_Groupings_block_trees := fun_of D_Groupings_block_trees
  obtain ⟨fd_Groupings_rows, D_Groupings_rows⟩ := cd.def_ 38 (d := dd_Groupings_rows) rfl
  have G_Groupings_rows : Fun K "rows" "Groupings.rows" s_Groupings_rows (He.fAd K ("Groupings", some "rows")) fd_Groupings_rows := fun_of D_Groupings_rows
  obtain ⟨fd_all_tidy, D_all_tidy⟩ := cd.def_ 39 (d := dd_all_tidy) rfl
  have G_all_tidy : Fun K "all_tidy" "all_tidy" s_all_tidy (He.fAd K ("all_tidy", none)) fd_all_tidy := fun_of D_all_tidy
  obtain ⟨fd_law, D_law⟩ := cd.def_ 40 (d := dd_law) rfl
  have G_law : Fun K "law" "law" s_law (He.fAd K ("law", none)) fd_law := fun_of D_law
  cases hfa.symm.trans g_law
  have bl := FunD.bindsA (ps := ["script"]) D_law fun _ _ _ _ _ _ us hl => match us, hl with | [_], _ => rfl
  refine ⟨fd_law, fun s v => bl s [v] rfl, fun base _ _ TB => ?_⟩
  have O_is_number : FnOk l.prog w K mg base (L2.CX l.prog w) 1 _ _ ["thing", "least", "most"] (spA K mg 3 S_is_number) := ok_is_number G_is_number m_bool m_int m_isinstance
  have F_is_number : FnR l.prog w K mg base 1 "is_number" 3 S_is_number := ⟨_, _, _, O_is_number, g_is_number, G_is_number.kp, G_is_number.binds (ps := ["thing", "least", "most"]) fun _ _ _ _ _ _ us hl => match us, hl with | [_, _, _], _ => rfl⟩
  have O_names_of : FnOk l.prog w K mg base (L2.CX l.prog w) 1 _ _ ["book"] (spA K mg 1 S_names_of) := ok_names_of G_names_of 
  have F_names_of : FnR l.prog w K mg base 1 "names_of" 1 S_names_of := ⟨_, _, _, O_names_of, g_names_of, G_names_of.kp, G_names_of.binds (ps := ["book"]) fun _ _ _ _ _ _ us hl => match us, hl with | [_], _ => rfl⟩
  have O_row_of : FnOk l.prog w K mg base (L2.CX l.prog w) 1 _ _ ["book", "land"] (spA K mg 2 S_row_of) := ok_row_of G_row_of 
  have F_row_of : FnR l.prog w K mg base 1 "row_of" 2 S_row_of := ⟨_, _, _, O_row_of, g_row_of, G_row_of.kp, G_row_of.binds (ps := ["book", "land"]) fun _ _ _ _ _ _ us hl => match us, hl with | [_, _], _ => rfl⟩
  have O_takes : FnOk l.prog w K mg base (L2.CX l.prog w) 1 _ _ ["book", "land"] (spA K mg 2 S_takes) := ok_takes G_takes m_sorted m_tuple
  have F_takes : FnR l.prog w K mg base 1 "takes" 2 S_takes := ⟨_, _, _, O_takes, g_takes, G_takes.kp, G_takes.binds (ps := ["book", "land"]) fun _ _ _ _ _ _ us hl => match us, hl with | [_, _], _ => rfl⟩
  have O_set_of : FnOk l.prog w K mg base (L2.CX l.prog w) 1 _ _ ["bits"] (spA K mg 1 S_set_of) := ok_set_of G_set_of m_range m_tuple
  have F_set_of : FnR l.prog w K mg base 1 "set_of" 1 S_set_of := ⟨_, _, _, O_set_of, g_set_of, G_set_of.kp, G_set_of.binds (ps := ["bits"]) fun _ _ _ _ _ _ us hl => match us, hl with | [_], _ => rfl⟩
  have O_parts_of : FnOk l.prog w K mg base (L2.CX l.prog w) 1 _ _ ["bits"] (spA K mg 1 S_parts_of) := ok_parts_of G_parts_of 
  have F_parts_of : FnR l.prog w K mg base 1 "parts_of" 1 S_parts_of := ⟨_, _, _, O_parts_of, g_parts_of, G_parts_of.kp, G_parts_of.binds (ps := ["bits"]) fun _ _ _ _ _ _ us hl => match us, hl with | [_], _ => rfl⟩
  have O__law_is : FnOk l.prog w K mg base (L2.CX l.prog w) 1 _ _ ["told", "due"] (spA K mg 2 S__law_is) := ok__law_is G__law_is m_bool m_isinstance
  have F__law_is : FnR l.prog w K mg base 1 "_law_is" 2 S__law_is := ⟨_, _, _, O__law_is, g__law_is, G__law_is.kp, G__law_is.binds (ps := ["told", "due"]) fun _ _ _ _ _ _ us hl => match us, hl with | [_, _], _ => rfl⟩
  have O__law_draw : FnOk l.prog w K mg base (L2.CX l.prog w) 1 _ _ ["script", "town", "many"] (spA K mg 3 S__law_draw) := ok__law_draw G__law_draw m_len
  have F__law_draw : FnR l.prog w K mg base 1 "_law_draw" 3 S__law_draw := ⟨_, _, _, O__law_draw, g__law_draw, G__law_draw.kp, G__law_draw.binds (ps := ["script", "town", "many"]) fun _ _ _ _ _ _ us hl => match us, hl with | [_, _, _], _ => rfl⟩
  have O__law_begun : FnOk l.prog w K mg base (L2.CX l.prog w) 1 _ _ [] (spA K mg 0 S__law_begun) := ok__law_begun G__law_begun 
  have F__law_begun : FnR l.prog w K mg base 1 "_law_begun" 0 S__law_begun := ⟨_, _, _, O__law_begun, g__law_begun, G__law_begun.kp, G__law_begun.binds (ps := []) fun _ _ _ _ _ _ us hl => match us, hl with | [], _ => rfl⟩
  have O__law_row : FnOk l.prog w K mg base (L2.CX l.prog w) 1 _ _ ["book", "land"] (spA K mg 2 S__law_row) := ok__law_row G__law_row 
  have F__law_row : FnR l.prog w K mg base 1 "_law_row" 2 S__law_row := ⟨_, _, _, O__law_row, g__law_row, G__law_row.kp, G__law_row.binds (ps := ["book", "land"]) fun _ _ _ _ _ _ us hl => match us, hl with | [_, _], _ => rfl⟩
  have O__law_takes : FnOk l.prog w K mg base (L2.CX l.prog w) 1 _ _ ["book", "land"] (spA K mg 2 S__law_takes) := ok__law_takes G__law_takes m_sorted
  have F__law_takes : FnR l.prog w K mg base 1 "_law_takes" 2 S__law_takes := ⟨_, _, _, O__law_takes, g__law_takes, G__law_takes.kp, G__law_takes.binds (ps := ["book", "land"]) fun _ _ _ _ _ _ us hl => match us, hl with | [_, _], _ => rfl⟩
  have O_look_land : FnOk l.prog w K mg base (L2.CX l.prog w) 2 _ _ ["book", "land"] (spA K mg 2 S_look_land) := ok_look_land G_look_land m_isinstance m_str F_names_of x_NoLand
  have F_look_land : FnR l.prog w K mg base 2 "look_land" 2 S_look_land := ⟨_, _, _, O_look_land, g_look_land, G_look_land.kp, G_look_land.binds (ps := ["book", "land"]) fun _ _ _ _ _ _ us hl => match us, hl with | [_, _], _ => rfl⟩
  have O_is_enough : FnOk l.prog w K mg base (L2.CX l.prog w) 2 _ _ ["book", "land", "counting", "whole"] (spA K mg 4 S_is_enough) := ok_is_enough G_is_enough F_row_of
  have F_is_enough : FnR l.prog w K mg base 2 "is_enough" 4 S_is_enough := ⟨_, _, _, O_is_enough, g_is_enough, G_is_enough.kp, G_is_enough.binds (ps := ["book", "land", "counting", "whole"]) fun _ _ _ _ _ _ us hl => match us, hl with | [_, _, _, _], _ => rfl⟩
  have O_Groupings_blocks : FnOk l.prog w K mg base (L2.CX l.prog w) 2 _ _ ["self", "bits", "land"] (spA K mg 3 (S_Groupings_blocks (gx w K))) := ok_Groupings_blocks (G := gx w K) G_Groupings_blocks m_len F_set_of F_takes cl_Groupings na_Groupings_book na_Groupings_heap na_Groupings_many na_Groupings_names na_Groupings_weights
  have M_Groupings_blocks : MtR l.prog w K mg base 2 ((gx w K).C "Groupings") "blocks" 3 (S_Groupings_blocks (gx w K)) := ⟨_, _, _, O_Groupings_blocks, mt_Groupings_blocks, G_Groupings_blocks.binds (ps := ["self", "bits", "land"]) fun _ _ _ _ _ _ us hl => match us, hl with | [_, _, _], _ => rfl⟩
  have O__law_a_book : FnOk l.prog w K mg base (L2.CX l.prog w) 2 _ _ ["script", "town"] (spA K mg 2 S__law_a_book) := ok__law_a_book G__law_a_book m_tuple F__law_draw
  have F__law_a_book : FnR l.prog w K mg base 2 "_law_a_book" 2 S__law_a_book := ⟨_, _, _, O__law_a_book, g__law_a_book, G__law_a_book.kp, G__law_a_book.binds (ps := ["script", "town"]) fun _ _ _ _ _ _ us hl => match us, hl with | [_, _], _ => rfl⟩
  have O__law_a_heap : FnOk l.prog w K mg base (L2.CX l.prog w) 2 _ _ ["script", "town", "book", "most"] (spA K mg 4 S__law_a_heap) := ok__law_a_heap G__law_a_heap m_len m_range m_tuple F__law_draw
  have F__law_a_heap : FnR l.prog w K mg base 2 "_law_a_heap" 4 S__law_a_heap := ⟨_, _, _, O__law_a_heap, g__law_a_heap, G__law_a_heap.kp, G__law_a_heap.binds (ps := ["script", "town", "book", "most"]) fun _ _ _ _ _ _ us hl => match us, hl with | [_, _, _, _], _ => rfl⟩
  have O__law_has_share : FnOk l.prog w K mg base (L2.CX l.prog w) 2 _ _ ["book", "land", "counting", "whole"] (spA K mg 4 S__law_has_share) := ok__law_has_share G__law_has_share F__law_row
  have F__law_has_share : FnR l.prog w K mg base 2 "_law_has_share" 4 S__law_has_share := ⟨_, _, _, O__law_has_share, g__law_has_share, G__law_has_share.kp, G__law_has_share.binds (ps := ["book", "land", "counting", "whole"]) fun _ _ _ _ _ _ us hl => match us, hl with | [_, _, _, _], _ => rfl⟩
  have O__law_a_tree : FnOk l.prog w K mg base (L2.CX l.prog w) 2 _ _ ["script", "town", "book", "things"] (spA K mg 4 S__law_a_tree) := ok__law_a_tree G__law_a_tree m_len m_list m_min m_range m_tuple F__law_draw
  have F__law_a_tree : FnR l.prog w K mg base 2 "_law_a_tree" 4 S__law_a_tree := ⟨_, _, _, O__law_a_tree, g__law_a_tree, G__law_a_tree.kp, G__law_a_tree.binds (ps := ["script", "town", "book", "things"]) fun _ _ _ _ _ _ us hl => match us, hl with | [_, _, _, _], _ => rfl⟩
  have O_Groupings_parted : FnOk l.prog w K mg base (L2.CX l.prog w) 3 _ _ ["self", "bits", "land"] (spA K mg 3 (S_Groupings_parted (gx w K))) := ok_Groupings_parted (G := gx w K) G_Groupings_parted F_parts_of cl_Groupings na_Groupings_ways M_Groupings_blocks
  have M_Groupings_parted : MtR l.prog w K mg base 3 ((gx w K).C "Groupings") "parted" 3 (S_Groupings_parted (gx w K)) := ⟨_, _, _, O_Groupings_parted, mt_Groupings_parted, G_Groupings_parted.binds (ps := ["self", "bits", "land"]) fun _ _ _ _ _ _ us hl => match us, hl with | [_, _, _], _ => rfl⟩
  have O_Groupings_count : FnOk l.prog w K mg base (L2.CX l.prog w) 3 _ _ ["self", "bits", "land"] (spA K mg 3 (S_Groupings_count (gx w K))) := ok_Groupings_count (G := gx w K) G_Groupings_count F_is_enough F_parts_of cl_Groupings na_Groupings_book na_Groupings_ways na_Groupings_weights M_Groupings_blocks
  have M_Groupings_count : MtR l.prog w K mg base 3 ((gx w K).C "Groupings") "count" 3 (S_Groupings_count (gx w K)) := ⟨_, _, _, O_Groupings_count, mt_Groupings_count, G_Groupings_count.binds (ps := ["self", "bits", "land"]) fun _ _ _ _ _ _ us hl => match us, hl with | [_, _, _], _ => rfl⟩
  have O_Groupings___init__ : FnOk l.prog w K mg base (L2.CX l.prog w) 5 _ _ ["self", "book", "heap"] (spA K mg 3 (S_Groupings___init__ (gx w K))) := ok_Groupings___init__ (G := gx w K) G_Groupings___init__ m_len m_list m_range m_sorted m_sum F_names_of F_set_of cl_Groupings na_Groupings_book na_Groupings_heap na_Groupings_many na_Groupings_names na_Groupings_ways na_Groupings_weights na_Groupings_whole M_Groupings_count M_Groupings_parted (fun cdv e => code_law G_Groupings___init__ e) (TB ("Groupings", some "__init__") (by simp [hTf]))
  have MK_Groupings : MkR l.prog w K mg base 5 "Groupings" ((gx w K).C "Groupings") 3 (S_Groupings___init__ (gx w K)) := ⟨_, _, _, O_Groupings___init__, mk_Groupings, gc_Groupings, G_Groupings___init__.binds (ps := ["self", "book", "heap"]) fun _ _ _ _ _ _ us hl => match us, hl with | [_, _, _], _ => rfl⟩
  have O_how_many_tidy : FnOk l.prog w K mg base (L2.CX l.prog w) 7 _ _ ["book", "heap", "land"] (spA K mg 3 (S_how_many_tidy (gx w K))) := ok_how_many_tidy (G := gx w K) G_how_many_tidy m_int m_len F_look_land cl_Groupings na_Groupings_many na_Groupings_whole MK_Groupings
  have F_how_many_tidy : FnR l.prog w K mg base 7 "how_many_tidy" 3 (S_how_many_tidy (gx w K)) := ⟨_, _, _, O_how_many_tidy, g_how_many_tidy, G_how_many_tidy.kp, G_how_many_tidy.binds (ps := ["book", "heap", "land"]) fun _ _ _ _ _ _ us hl => match us, hl with | [_, _, _], _ => rfl⟩
  have R_all_things : ∀ d, FnR l.prog w K mg base (0 + d) "all_things" 1 (SR_all_things d) := fun d => by
    have hb := G_all_things.binds (ps := ["tree"]) fun _ _ _ _ _ _ us hl => match us, hl with | [_], _ => rfl
    induction d with
    | zero => exact ⟨_, _, ["tree"], fn_no no_all_things, g_all_things, G_all_things.kp, hb⟩
    | succ d ih => exact ⟨_, _, _, ok_all_things G_all_things (bo_all_things N_all_things rfl d) ih m_isinstance m_tuple, g_all_things, G_all_things.kp, hb⟩
  have F_all_things : FnR l.prog w K mg base 24 "all_things" 1 S_all_things := R_all_things 24
  have R_text_of : ∀ d, FnR l.prog w K mg base (0 + d) "text_of" 1 (SR_text_of d) := fun d => by
    have hb := G_text_of.binds (ps := ["tree"]) fun _ _ _ _ _ _ us hl => match us, hl with | [_], _ => rfl
    induction d with
    | zero => exact ⟨_, _, ["tree"], fn_no no_text_of, g_text_of, G_text_of.kp, hb⟩
    | succ d ih => exact ⟨_, _, _, ok_text_of G_text_of (bo_text_of N_text_of rfl d) ih m_isinstance m_str m_tuple, g_text_of, G_text_of.kp, hb⟩
  have F_text_of : FnR l.prog w K mg base 24 "text_of" 1 S_text_of := R_text_of 24
  have R_levels_of : ∀ d, FnR l.prog w K mg base (0 + d) "levels_of" 1 (SR_levels_of d) := fun d => by
    have hb := G_levels_of.binds (ps := ["tree"]) fun _ _ _ _ _ _ us hl => match us, hl with | [_], _ => rfl
    induction d with
    | zero => exact ⟨_, _, ["tree"], fn_no no_levels_of, g_levels_of, G_levels_of.kp, hb⟩
    | succ d ih => exact ⟨_, _, _, ok_levels_of G_levels_of (bo_levels_of N_levels_of rfl d) ih m_isinstance m_max m_tuple, g_levels_of, G_levels_of.kp, hb⟩
  have F_levels_of : FnR l.prog w K mg base 24 "levels_of" 1 S_levels_of := R_levels_of 24
  have K_levels_of_tree : FnKR l.prog w K mg base 24 "levels_of" 0 ["tree"] S_levels_of := ⟨_, _, _, ok_levels_of G_levels_of (bo_levels_of N_levels_of rfl 23) (R_levels_of 23) m_isinstance m_max m_tuple, g_levels_of, G_levels_of.kp, kbinds (ks := ["tree"]) (np := 0) G_levels_of (by simp) fun _ _ _ _ _ _ us ws h1 h2 => match us, ws, h1, h2 with | [], [_], _, _ => rfl⟩
  have R__law_things : ∀ d, FnR l.prog w K mg base (0 + d) "_law_things" 1 (SR__law_things d) := fun d => by
    have hb := G__law_things.binds (ps := ["tree_here"]) fun _ _ _ _ _ _ us hl => match us, hl with | [_], _ => rfl
    induction d with
    | zero => exact ⟨_, _, ["tree_here"], fn_no no__law_things, g__law_things, G__law_things.kp, hb⟩
    | succ d ih => exact ⟨_, _, _, ok__law_things G__law_things (bo__law_things N__law_things rfl d) ih m_isinstance m_tuple, g__law_things, G__law_things.kp, hb⟩
  have F__law_things : FnR l.prog w K mg base 24 "_law_things" 1 S__law_things := R__law_things 24
  have R__law_level : ∀ d, FnR l.prog w K mg base (0 + d) "_law_level" 1 (SR__law_level d) := fun d => by
    have hb := G__law_level.binds (ps := ["tree_here"]) fun _ _ _ _ _ _ us hl => match us, hl with | [_], _ => rfl
    induction d with
    | zero => exact ⟨_, _, ["tree_here"], fn_no no__law_level, g__law_level, G__law_level.kp, hb⟩
    | succ d ih => exact ⟨_, _, _, ok__law_level G__law_level (bo__law_level N__law_level rfl d) ih m_isinstance m_max m_tuple, g__law_level, G__law_level.kp, hb⟩
  have F__law_level : FnR l.prog w K mg base 24 "_law_level" 1 S__law_level := R__law_level 24
  have R_is_shape : ∀ d, FnR l.prog w K mg base (1 + d) "is_shape" 3 (SR_is_shape d) := fun d => by
    have hb := G_is_shape.binds (ps := ["book", "many", "thing"]) fun _ _ _ _ _ _ us hl => match us, hl with | [_, _, _], _ => rfl
    induction d with
    | zero => exact ⟨_, _, ["book", "many", "thing"], fn_no no_is_shape, g_is_shape, G_is_shape.kp, hb⟩
    | succ d ih => exact ⟨_, _, _, ok_is_shape G_is_shape (bo_is_shape N_is_shape rfl d) ih m_all m_isinstance m_len m_str m_tuple F_is_number F_names_of, g_is_shape, G_is_shape.kp, hb⟩
  have F_is_shape : FnR l.prog w K mg base 25 "is_shape" 3 S_is_shape := R_is_shape 24
  have O_things_in : FnOk l.prog w K mg base (L2.CX l.prog w) 25 _ _ ["tree"] (spA K mg 1 S_things_in) := ok_things_in G_things_in m_sorted m_tuple F_all_things
  have F_things_in : FnR l.prog w K mg base 25 "things_in" 1 S_things_in := ⟨_, _, _, O_things_in, g_things_in, G_things_in.kp, G_things_in.binds (ps := ["tree"]) fun _ _ _ _ _ _ us hl => match us, hl with | [_], _ => rfl⟩
  have O_is_tree : FnOk l.prog w K mg base (L2.CX l.prog w) 26 _ _ ["book", "heap", "thing"] (spA K mg 3 S_is_tree) := ok_is_tree G_is_tree m_len m_set F_all_things F_is_shape
  have F_is_tree : FnR l.prog w K mg base 26 "is_tree" 3 S_is_tree := ⟨_, _, _, O_is_tree, g_is_tree, G_is_tree.kp, G_is_tree.binds (ps := ["book", "heap", "thing"]) fun _ _ _ _ _ _ us hl => match us, hl with | [_, _, _], _ => rfl⟩
  have R_valued : ∀ d, FnR l.prog w K mg base (2 + d) "valued" 5 (SR_valued d) := fun d => by
    have hb := G_valued.binds (ps := ["book", "heap", "tree", "path", "rows"]) fun _ _ _ _ _ _ us hl => match us, hl with | [_, _, _, _, _], _ => rfl
    induction d with
    | zero => exact ⟨_, _, ["book", "heap", "tree", "path", "rows"], fn_no no_valued, g_valued, G_valued.kp, hb⟩
    | succ d ih => exact ⟨_, _, _, ok_valued G_valued (bo_valued N_valued rfl d) ih m_enumerate m_isinstance m_len m_tuple F_is_enough F_takes, g_valued, G_valued.kp, hb⟩
  have F_valued : FnR l.prog w K mg base 26 "valued" 5 S_valued := R_valued 24
  have R__law_valued : ∀ d, FnR l.prog w K mg base (2 + d) "_law_valued" 3 (SR__law_valued d) := fun d => by
    have hb := G__law_valued.binds (ps := ["book", "heap", "tree_here"]) fun _ _ _ _ _ _ us hl => match us, hl with | [_, _, _], _ => rfl
    induction d with
    | zero => exact ⟨_, _, ["book", "heap", "tree_here"], fn_no no__law_valued, g__law_valued, G__law_valued.kp, hb⟩
    | succ d ih => exact ⟨_, _, _, ok__law_valued G__law_valued (bo__law_valued N__law_valued rfl d) ih m_isinstance m_tuple F__law_has_share F__law_takes, g__law_valued, G__law_valued.kp, hb⟩
  have F__law_valued : FnR l.prog w K mg base 26 "_law_valued" 3 S__law_valued := R__law_valued 24
  have O_counts_as : FnOk l.prog w K mg base (L2.CX l.prog w) 27 _ _ ["book", "heap", "tree"] (spA K mg 3 S_counts_as) := ok_counts_as G_counts_as F_valued
  have F_counts_as : FnR l.prog w K mg base 27 "counts_as" 3 S_counts_as := ⟨_, _, _, O_counts_as, g_counts_as, G_counts_as.kp, G_counts_as.binds (ps := ["book", "heap", "tree"]) fun _ _ _ _ _ _ us hl => match us, hl with | [_, _, _], _ => rfl⟩
  have R__law_is_tidy : ∀ d, FnR l.prog w K mg base (26 + d) "_law_is_tidy" 3 (SR__law_is_tidy d) := fun d => by
    have hb := G__law_is_tidy.binds (ps := ["book", "heap", "tree_here"]) fun _ _ _ _ _ _ us hl => match us, hl with | [_, _, _], _ => rfl
    induction d with
    | zero => exact ⟨_, _, ["book", "heap", "tree_here"], fn_no no__law_is_tidy, g__law_is_tidy, G__law_is_tidy.kp, hb⟩
    | succ d ih => exact ⟨_, _, _, ok__law_is_tidy G__law_is_tidy (bo__law_is_tidy N__law_is_tidy rfl d) ih m_isinstance m_len m_min m_sorted m_tuple F__law_things F__law_valued, g__law_is_tidy, G__law_is_tidy.kp, hb⟩
  have F__law_is_tidy : FnR l.prog w K mg base 50 "_law_is_tidy" 3 S__law_is_tidy := R__law_is_tidy 24
  have R_is_tidy_so : ∀ d, FnR l.prog w K mg base (27 + d) "is_tidy_so" 3 (SR_is_tidy_so d) := fun d => by
    have hb := G_is_tidy_so.binds (ps := ["book", "heap", "tree"]) fun _ _ _ _ _ _ us hl => match us, hl with | [_, _, _], _ => rfl
    induction d with
    | zero => exact ⟨_, _, ["book", "heap", "tree"], fn_no no_is_tidy_so, g_is_tidy_so, G_is_tidy_so.kp, hb⟩
    | succ d ih => exact ⟨_, _, _, ok_is_tidy_so G_is_tidy_so (bo_is_tidy_so N_is_tidy_so rfl d) ih m_all m_isinstance m_len m_sorted m_tuple F_counts_as F_things_in, g_is_tidy_so, G_is_tidy_so.kp, hb⟩
  have F_is_tidy_so : FnR l.prog w K mg base 51 "is_tidy_so" 3 S_is_tidy_so := R_is_tidy_so 24
  have O_is_tidy : FnOk l.prog w K mg base (L2.CX l.prog w) 52 _ _ ["book", "heap", "thing"] (spA K mg 3 S_is_tidy) := ok_is_tidy G_is_tidy F_is_tidy_so F_is_tree
  have F_is_tidy : FnR l.prog w K mg base 52 "is_tidy" 3 S_is_tidy := ⟨_, _, _, O_is_tidy, g_is_tidy, G_is_tidy.kp, G_is_tidy.binds (ps := ["book", "heap", "thing"]) fun _ _ _ _ _ _ us hl => match us, hl with | [_, _, _], _ => rfl⟩
  have K_is_tidy_thing : FnKR l.prog w K mg base 52 "is_tidy" 2 ["thing"] S_is_tidy := ⟨_, _, _, O_is_tidy, g_is_tidy, G_is_tidy.kp, kbinds (ks := ["thing"]) (np := 2) G_is_tidy (by simp) fun _ _ _ _ _ _ us ws h1 h2 => match us, ws, h1, h2 with | [_, _], [_], _, _ => rfl⟩
  have R_MUTG : ∀ d, MtR l.prog w K mg base (28 + d) ((gx w K).C "Groupings") "trees" 3 (SR_Groupings_trees (gx w K) d) ∧ MtR l.prog w K mg base (28 + d) ((gx w K).C "Groupings") "block_trees" 2 (SR_Groupings_block_trees (gx w K) d) ∧ MtR l.prog w K mg base (28 + d) ((gx w K).C "Groupings") "rows" 2 (SR_Groupings_rows (gx w K) d) := fun d => by
    have hb_trees := G_Groupings_trees.binds (ps := ["self", "bits", "land"]) fun _ _ _ _ _ _ us hl => match us, hl with | [_, _, _], _ => rfl
    have hb_block_trees := G_Groupings_block_trees.binds (ps := ["self", "bits"]) fun _ _ _ _ _ _ us hl => match us, hl with | [_, _], _ => rfl
    have hb_rows := G_Groupings_rows.binds (ps := ["self", "bits"]) fun _ _ _ _ _ _ us hl => match us, hl with | [_, _], _ => rfl
    induction d with
    | zero => exact ⟨⟨_, _, ["self", "bits", "land"], fn_no (no_Groupings_trees (gx w K)), mt_Groupings_trees, hb_trees⟩, ⟨_, _, ["self", "bits"], fn_no (no_Groupings_block_trees (gx w K)), mt_Groupings_block_trees, hb_block_trees⟩, ⟨_, _, ["self", "bits"], fn_no (no_Groupings_rows (gx w K)), mt_Groupings_rows, hb_rows⟩⟩
    | succ d ih =>
      obtain ⟨i_trees, i_block_trees, i_rows⟩ := ih
      exact ⟨⟨_, _, _, ok_Groupings_trees (G := gx w K) G_Groupings_trees (bo_Groupings_trees (gx w K) N_Groupings_trees rfl d) i_trees i_block_trees i_rows F_counts_as F_parts_of cl_Groupings na_Groupings_book na_Groupings_heap, mt_Groupings_trees, hb_trees⟩, ⟨_, _, _, ok_Groupings_block_trees (G := gx w K) G_Groupings_block_trees (bo_Groupings_block_trees (gx w K) N_Groupings_block_trees rfl d) i_trees i_block_trees i_rows m_len F_set_of cl_Groupings na_Groupings_many na_Groupings_names, mt_Groupings_block_trees, hb_block_trees⟩, ⟨_, _, _, ok_Groupings_rows (G := gx w K) G_Groupings_rows (bo_Groupings_rows (gx w K) N_Groupings_rows rfl d) i_trees i_block_trees i_rows F_parts_of cl_Groupings, mt_Groupings_rows, hb_rows⟩⟩
  have M_Groupings_trees : MtR l.prog w K mg base 52 ((gx w K).C "Groupings") "trees" 3 (S_Groupings_trees (gx w K)) := (R_MUTG 24).1
  have M_Groupings_block_trees : MtR l.prog w K mg base 52 ((gx w K).C "Groupings") "block_trees" 2 (S_Groupings_block_trees (gx w K)) := (R_MUTG 24).2.1
  have M_Groupings_rows : MtR l.prog w K mg base 52 ((gx w K).C "Groupings") "rows" 2 (S_Groupings_rows (gx w K)) := (R_MUTG 24).2.2
  have O_all_tidy : FnOk l.prog w K mg base (L2.CX l.prog w) 53 _ _ ["book", "heap", "land"] (spA K mg 3 (S_all_tidy (gx w K))) := ok_all_tidy (G := gx w K) G_all_tidy m_len m_sorted m_tuple c_MANY F_how_many_tidy F_text_of cl_Groupings na_Groupings_whole M_Groupings_trees MK_Groupings x_TooMany
  have F_all_tidy : FnR l.prog w K mg base 53 "all_tidy" 3 (S_all_tidy (gx w K)) := ⟨_, _, _, O_all_tidy, g_all_tidy, G_all_tidy.kp, G_all_tidy.binds (ps := ["book", "heap", "land"]) fun _ _ _ _ _ _ us hl => match us, hl with | [_, _, _], _ => rfl⟩
  exact ok_endT (G := gx w K) rfl (by rw [gx_ts]; exact cnd) (ok_law (G := gx w K) G_law m_isinstance m_len m_list m_range m_tuple F__law_a_book F__law_a_heap F__law_a_tree F__law_begun F__law_draw F__law_is F__law_is_tidy F__law_level F_all_tidy F_how_many_tidy F_is_tidy K_is_tidy_thing K_levels_of_tree)
def loose0 : List PySem.Str := ["CountError", "NoLand", "TooMany", "is_number", "names_of", "look_land", "row_of", "takes", "is_enough", "set_of", "parts_of", "is_shape", "all_things", "is_tree", "things_in", "valued", "counts_as", "MANY", "is_tidy_so", "is_tidy", "Groupings", "how_many_tidy", "text_of", "all_tidy", "levels_of", "_law_is", "_law_draw", "_law_begun", "_law_a_book", "_law_a_heap"]
def loose1 : List PySem.Str := ["_law_row", "_law_takes", "_law_has_share", "_law_valued", "_law_a_tree", "_law_paths", "_law_at", "_law_things", "_law_is_tidy", "_law_level"]
def loose : List PySem.Str := loose0 ++ loose1
abbrev hk : PySem.W.Hook := He.hookX 4 hFa hFn [] hTf (exX ["NoLand", "TooMany"] hTf)
def ob (s : PySem.W.SharedT) : He.AlX := He.obsX 4 hFa hFn [] hTf (exX ["NoLand", "TooMany"] hTf) (HandSHeadRun.getT s)
theorem ob_eq (s : PySem.W.SharedT) : ob s = hk.obs s.abs := He.obsX_eq (HandSHeadRun.getT_eq s)
set_option maxHeartbeats 0 in
theorem run (w : World) : HandSHeadRun.RunEq (PySem.W.OpenLaw.row PySem.Challenge.rw_countsfrom_k26_judged) (PySem.W.view (PySem.W.OpenLaw.row PySem.Challenge.rw_countsfrom_k26_judged).prog [46]) hk ob 20000 loose w := by
  intro os
  kernel_rfl
end DL
open PySem PySem.W PySem.Calls PyProof.Rows
set_option maxRecDepth 100000 in
set_option maxHeartbeats 0 in
theorem PySem.Challenge.cw_countsfrom_k26_judged_holds : PySem.Challenge.rw_countsfrom_k26_judged.Holds := by
  w_on; o_law
  refine HandSHeadRun.head_any (r := (PySem.W.OpenLaw.row PySem.Challenge.rw_countsfrom_k26_judged)) (q := view (PySem.W.OpenLaw.row PySem.Challenge.rw_countsfrom_k26_judged).prog [46]) (H := DL.hk) (ob := DL.ob) (M := 20000) (loose := DL.loose) (d := HandSHeadRun.topDef (PySem.W.OpenLaw.row PySem.Challenge.rw_countsfrom_k26_judged).prog 46) (kwd := []) DL.ob_eq
    (by kernel_rfl) (fun s => by kernel_rfl) DL.run (by kernel_rfl) (by kernel_rfl) (by kernel_rfl) (by rfl) (by first | assumption | decide +kernel) (by decide +kernel) ⟨rfl, rfl, rfl, rfl, rfl, by decide +kernel⟩ ?hw ?hc
  case hw => w_witness2
  case hc =>
    refine DL.walkT (l := PySem.Challenge.rw_countsfrom_k26_judged) (k := 54) rfl (by kernel_rfl) (by kernel_rfl) ⟨rfl, by decide, by decide⟩ ?F
    intro w K mg f h KX G hmg c
    exact DL.all_mk KX G hmg c

