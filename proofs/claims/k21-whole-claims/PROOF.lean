import PyProof.Rows.All
import Wide.All
import OpenK.AllK
import Wide.FinOn
import HandS.Conv
import HandS.Dict
import HandS.Style
import HandS.Lambda
import KE.KDictKeyed
import HandS.ForMost
import HandS.ForExc
import HandS.IsInst
import HandS.TupAny
import HandS.TupMul
import HandS.Zip
import HandS.Deep
import HandS.Flow
import HandS.TupLe
import HandS.SortInts
import KE.GoesEnum
import KE.GoesMore
import HandS.ExcIs
import PyProof.ExcBaseAll.ValueError
import HandS.SortRule
import HandS.SetFor
import HandS.More
import KE.SortKeyHeap
import HandS.DictComp
import KE.KDictPairs
import HandS.Strs
import HandS.DictTup
import KE.KSortTupAny
import KE.KItemsList
import KE.DataMinMax
import KE.KMinKey
import HandS.EndTab
import HandS.HeadWalk
import HandS.HeadHook4
import HandS.HeadEnd
import HandS.NestedK
import KE.BitLaws
import HandS.Head0
import HandS.Head1
import HandS.Head2
import PySem.Challenge.RW_countsfrom_k21_whole_claims
set_option Elab.async false
set_option linter.all false
set_option maxRecDepth 100000
set_option maxHeartbeats 4000000
namespace DL
open PySem PySem.Spec PyProof.Rows L2
mutual
def NK (H : Hp) : NestedKey → V → Prop
  | .none, x => x = .non
  | .num i, x => x = .int i
  | .text z, x => x = .str z
  | .tup ks, x => ∃ a xs, x = .ref a ∧ H a = some (.tup xs) ∧ NKs H ks xs
def NKs (H : Hp) : List NestedKey → List V → Prop
  | [], xs => xs = []
  | k :: ks, xs => ∃ y ys, xs = y :: ys ∧ NK H k y ∧ NKs H ks ys
end
mutual
theorem NK.is {P : Program} {w : World} {H : Hp} {hp : Heap} (ok : HOk P w H hp) : ∀ {k : NestedKey} {x : V} {u : Value}, NK H k x → RelV x u → NestedIs hp k u
  | .none, x, u, h, r => by
    rw [NK] at h; subst h
    obtain rfl : u = Value.none := r
    exact .none
  | .num i, x, u, h, r => by
    rw [NK] at h; subst h
    obtain ⟨t, rfl⟩ : ∃ t, u = Value.int i t := r
    exact .int i t
  | .text z, x, u, h, r => by
    rw [NK] at h; subst h
    obtain ⟨t, rfl⟩ : ∃ t, u = Value.str z t := r
    exact .text z t
  | .tup ks, x, u, h, r => by
    rw [NK] at h
    obtain ⟨a, xs, rfl, ha, hk⟩ := h
    obtain rfl : u = Value.ref a := r
    obtain ⟨_, its, rv, o, h1, h2, n, h3⟩ := (show ObjOk P w H hp a (.tup xs) from ok a _ ha)
    exact .tup h1 h2 h3 (by simpa using NKs.is ok hk rv)
theorem NKs.is {P : Program} {w : World} {H : Hp} {hp : Heap} (ok : HOk P w H hp) : ∀ {ks : List NestedKey} {xs : List V} {us : List Value}, NKs H ks xs → Vals xs us → NestedAll hp ks us
  | [], xs, us, h, r => by
    rw [NKs] at h; subst h
    cases r
    exact .nil
  | k :: ks, xs, us, h, r => by
    rw [NKs] at h
    obtain ⟨y, ys, rfl, h1, h2⟩ := h
    cases r with
    | cons r1 r2 => exact .cons (NK.is ok h1 r1) (NKs.is ok h2 r2)
end
mutual
theorem NK.keeps {H H' : Hp} (ht : ∀ b xs, H b = some (.tup xs) → H' b = some (.tup xs)) : ∀ {k : NestedKey} {x : V}, NK H k x → NK H' k x
  | .none, x, h => by rw [NK] at h ⊢; exact h
  | .num i, x, h => by rw [NK] at h ⊢; exact h
  | .text i, x, h => by rw [NK] at h ⊢; exact h
  | .tup ks, x, h => by
    rw [NK] at h ⊢
    obtain ⟨a, xs, e, ha, hk⟩ := h
    exact ⟨a, xs, e, ht _ _ ha, NKs.keeps ht hk⟩
theorem NKs.keeps {H H' : Hp} (ht : ∀ b xs, H b = some (.tup xs) → H' b = some (.tup xs)) : ∀ {ks : List NestedKey} {xs : List V}, NKs H ks xs → NKs H' ks xs
  | [], xs, h => by rw [NKs] at h ⊢; exact h
  | k :: ks, xs, h => by
    rw [NKs] at h ⊢
    obtain ⟨y, ys, e, h1, h2⟩ := h
    exact ⟨y, ys, e, NK.keeps ht h1, NKs.keeps ht h2⟩
end
abbrev NE := NestedKey × Addr × V
abbrev NEs : List NE → List (NestedKey × Addr × Value) → Prop := Paired fun p q => p.1 = q.1 ∧ p.2.1 = q.2.1 ∧ RelV p.2.2 q.2.2
def entryN (w : World) (x : NestedKey × Addr × Value) : DictEntry := ⟨x.1.hash w, .ref x.2.1, x.2.2⟩
def DNp (w : World) (a : Addr) (xs : List NE) (hp : Heap) : Prop := xs.length ≤ sizeLine ∧ (a == sysModules) = false ∧ ∃ vs, NEs xs vs ∧ ∃ o es ep, hp.get? a = some o ∧ o.ExactDict ∧ o.data = .dict es ep ∧ es.toList = vs.map (entryN w) ∧ (vs.map (·.1)).Nodup
def DNO (w : World) (a : Addr) (xs : List NE) : HO := .ext (DNp w a xs)
def KeyE (H : Hp) (xs : List NE) : Prop := ∀ e ∈ xs, NK H e.1 (.ref e.2.1) ∧ e.1.depth ≤ 8
def valN (xs : List NE) (k : NestedKey) : Option V := (xs.find? fun x => decide (x.1 = k)).map (·.2.2)
def putN (xs : List NE) (k : NestedKey) (b : Addr) (v : V) : List NE := if (valN xs k).isSome then xs.map (fun x => if x.1 = k then (x.1, x.2.1, v) else x) else xs ++ [(k, b, v)]
section
variable {X : Cx} {pins : List (Addr × Obj)} {σ : L2.St} {H : Hp} {s : Shared} {a b : Addr} {v : V} {u r : Value} {A : Around} {E : Value → Shared → Prop} {xs : List NE} {k : NestedKey}
theorem RelO.getD {o : Option V} {o' : Option Value} {x : V} {u : Value} (r : RelO o o') (rx : RelV x u) : RelV (o.getD x) (o'.getD u) := by
  cases o with
  | none => cases o' with
    | none => exact rx
    | some _ => exact r.elim
  | some _ => cases o' with
    | none => exact r.elim
    | some _ => exact r
end
section
variable {X : Cx} {o i e f value : Expr} {pos pos' tpos apos cpos : Pos} {td ty tv tx : TE}
end
end DL
namespace DL
open PySem PySem.Spec PyProof.Rows L2
inductive Val where
  | non | bl (b : Bool) | int (i : Int) | str (x : Str) | tup (vs : List Val) | tpo (vs : List Val) | lst (vs : List Val) | scr (ns : List Int) | ref (a : Addr) | ty (n : String)

inductive Ob where
  | lst (vs : List Val)
  | dK (kvs : List (Key × Val))
  | dT (kvs : List (List Key × Val))
  | ins (C : Addr) (fs : List (Str × Val))
  /-- a dict that is walked, and changed no more -/
  | dF (o : Obj) (xs : List (Key × V)) (kvs : List (Key × Val))
  /-- .. of tuple keys -/
  | dFT (o : Obj) (xs : List (List Key × V)) (kvs : List (List Key × Val))
  /-- an exception that was caught, of the class at C -/
  | exc (C : Addr)
  /-- a table of code objects -/
  | tab (q : Str)
  /-- a dict whose keys are tuples, nested -/
  | dN (w : World) (kvs : List (NestedKey × Val))
  /-- a place that is being filled: nothing is known of it here -/
  | busy

abbrev Hv := Addr → Option Ob
def put (h : Hv) (a : Addr) (o : Ob) : Hv := fun b => if b = a then some o else h b
theorem put_same {h : Hv} {a : Addr} {o : Ob} : put h a o a = some o := by unfold put; rw [if_pos rfl]
theorem put_ne {h : Hv} {a b : Addr} {o : Ob} (e : b ≠ a) : put h a o b = h b := by unfold put; rw [if_neg e]
theorem put_put {h : Hv} {a : Addr} {o u : Ob} : put (put h a o) a u = put h a u := by
  funext b; unfold put; split <;> rfl

def KL (K : PySem.W.Frag) (a : Addr) (xs : List V) : Prop :=
  ∃ (o : Obj) (its : Array Value) (n : Nat), K.lookup a = some o ∧ o.cls = .type "list" ∧ o.dict = none ∧ o.data = .seq its n ∧ its.size ≤ sizeLine ∧ Vals xs its.toList

mutual
def RV (K : PySem.W.Frag) (H : Hp) (h : Hv) : Val → V → Prop
  | .non, x => x = .non
  | .bl b, x => x = .bl b
  | .int i, x => x = .int i
  | .str s, x => x = .str s
  | .tup vs, x => ∃ a xs, x = .ref a ∧ h a = none ∧ H a = some (.tup xs) ∧ RVs K H h vs xs
  | .tpo vs, x => ∃ a xs o, x = .ref a ∧ h a = none ∧ H a = some (.frz o (.tup xs)) ∧ o.dict = none ∧ RVs K H h vs xs
  | .lst vs, x => ∃ a xs, x = .ref a ∧ h a = none ∧ H a = some (.lst xs) ∧ RVs K H h vs xs
  | .scr ns, x => ∃ a, x = .ref a ∧ ((h a = none ∧ Rd H a (.lst (ns.map V.int))) ∨ KL K a (ns.map V.int))
  | .ref a, x => x = .ref a
  | .ty n, x => x = .ty n
def RVs (K : PySem.W.Frag) (H : Hp) (h : Hv) : List Val → List V → Prop
  | [], xs => xs = []
  | v :: vs, xs => ∃ y ys, xs = y :: ys ∧ RV K H h v y ∧ RVs K H h vs ys
end
def NT (o : HO) : Prop := ∀ ps, o ≠ .tbl ps
def StepN (h : Hv) (H : Hp) (h' : Hv) (H' : Hp) : Prop := ∀ a o, H a = some o → h a = none → NT o → H' a = some o ∧ h' a = none
structure Step (h : Hv) (H : Hp) (h' : Hv) (H' : Hp) : Prop where
  n : StepN h H h' H'
  b : ∀ a o, H a = some o → h a = some .busy → H' a = some o ∧ h' a = some .busy

theorem Step.refl (h : Hv) (H : Hp) : Step h H h H := ⟨fun _ _ e n _ => ⟨e, n⟩, fun _ _ e n => ⟨e, n⟩⟩
theorem Step.trans {h h1 h2 : Hv} {H H1 H2 : Hp} (x : Step h H h1 H1) (y : Step h1 H1 h2 H2) : Step h H h2 H2 := ⟨fun a o e n t =>
  let ⟨e1, n1⟩ := x.n a o e n t
  y.n a o e1 n1 t, fun a o e n =>
  let ⟨e1, n1⟩ := x.b a o e n
  y.b a o e1 n1⟩

theorem StepN.trans {h h1 h2 : Hv} {H H1 H2 : Hp} (x : StepN h H h1 H1) (y : StepN h1 H1 h2 H2) : StepN h H h2 H2 := fun a o e n t =>
  let ⟨e1, n1⟩ := x a o e n t
  y a o e1 n1 t
theorem nt_tup {xs : List V} : NT (.tup xs) := fun _ z => nomatch z
theorem nt_lst {xs : List V} : NT (.lst xs) := fun _ z => nomatch z
theorem nt_frz {o : Obj} {u : HO} : NT (.frz o u) := fun _ z => nomatch z

section
variable {K : PySem.W.Frag} {H H' : Hp} {h h' : Hv}
mutual
theorem RV.stepN (s : StepN h H h' H') : ∀ {v : Val} {x : V}, RV K H h v x → RV K H' h' v x
  | .non, x, r => by rw [RV] at r ⊢; exact r
  | .bl b, x, r => by rw [RV] at r ⊢; exact r
  | .int i, x, r => by rw [RV] at r ⊢; exact r
  | .str z, x, r => by rw [RV] at r ⊢; exact r
  | .tup vs, x, r => by
    rw [RV] at r ⊢
    obtain ⟨a, xs, e, n, ha, rs⟩ := r
    exact ⟨a, xs, e, (s a _ ha n nt_tup).2, (s a _ ha n nt_tup).1, RVs.stepN s rs⟩
  | .tpo vs, x, r => by
    rw [RV] at r ⊢
    obtain ⟨a, xs, o, e, n, ha, hd, rs⟩ := r
    exact ⟨a, xs, o, e, (s a _ ha n nt_frz).2, (s a _ ha n nt_frz).1, hd, RVs.stepN s rs⟩
  | .lst vs, x, r => by
    rw [RV] at r ⊢
    obtain ⟨a, xs, e, n, ha, rs⟩ := r
    exact ⟨a, xs, e, (s a _ ha n nt_lst).2, (s a _ ha n nt_lst).1, RVs.stepN s rs⟩
  | .scr ns, x, r => by
    rw [RV] at r ⊢
    obtain ⟨a, e, r⟩ := r
    refine ⟨a, e, ?_⟩
    rcases r with ⟨n, q | ⟨o, q⟩⟩ | q
    · exact .inl ⟨(s a _ q n nt_lst).2, .inl (s a _ q n nt_lst).1⟩
    · exact .inl ⟨(s a _ q n nt_frz).2, .inr ⟨o, (s a _ q n nt_frz).1⟩⟩
    · exact .inr q
  | .ref a, x, r => by rw [RV] at r ⊢; exact r
  | .ty n, x, r => by rw [RV] at r ⊢; exact r
theorem RVs.stepN (s : StepN h H h' H') : ∀ {vs : List Val} {xs : List V}, RVs K H h vs xs → RVs K H' h' vs xs
  | [], xs, r => by rw [RVs] at r ⊢; exact r
  | v :: vs, xs, r => by
    rw [RVs] at r ⊢
    obtain ⟨y, ys, e, r1, r2⟩ := r
    exact ⟨y, ys, e, RV.stepN s r1, RVs.stepN s r2⟩
end
theorem RV.step (s : Step h H h' H') {v : Val} {x : V} (r : RV K H h v x) : RV K H' h' v x := r.stepN s.n
theorem RVs.step (s : Step h H h' H') {v : List Val} {x : List V} (r : RVs K H h v x) : RVs K H' h' v x := r.stepN s.n
theorem RVs.len : ∀ {vs : List Val} {xs : List V}, RVs K H h vs xs → vs.length = xs.length
  | [], xs, r => by rw [RVs] at r; rw [r]; rfl
  | v :: vs, xs, r => by
    rw [RVs] at r
    obtain ⟨y, ys, e, _, r2⟩ := r
    rw [e, List.length_cons, List.length_cons, RVs.len r2]
theorem RVs.nil : RVs K H h [] [] := by rw [RVs]
theorem RVs.cons {v : Val} {vs : List Val} {x : V} {xs : List V} (r : RV K H h v x) (rs : RVs K H h vs xs) : RVs K H h (v :: vs) (x :: xs) := by
  rw [RVs]; exact ⟨x, xs, rfl, r, rs⟩
theorem RVs.get : ∀ {vs : List Val} {xs : List V} {i : Nat} {v : Val}, RVs K H h vs xs → vs[i]? = some v → ∃ x, xs[i]? = some x ∧ RV K H h v x
  | [], _, _, _, _, e => by simp at e
  | w :: vs, xs, 0, v, r, e => by
    rw [RVs] at r
    obtain ⟨y, ys, e1, r1, _⟩ := r
    simp at e
    subst e
    exact ⟨y, by rw [e1]; rfl, r1⟩
  | w :: vs, xs, i + 1, v, r, e => by
    rw [RVs] at r
    obtain ⟨y, ys, e1, _, r2⟩ := r
    obtain ⟨x, h1, h2⟩ := RVs.get (i := i) r2 (by simpa using e)
    exact ⟨x, by rw [e1]; simpa using h1, h2⟩
theorem RVs.append : ∀ {vs ws : List Val} {xs ys : List V}, RVs K H h vs xs → RVs K H h ws ys → RVs K H h (vs ++ ws) (xs ++ ys)
  | [], ws, xs, ys, r, q => by rw [RVs] at r; rw [r]; exact q
  | v :: vs, ws, xs, ys, r, q => by
    rw [RVs] at r
    obtain ⟨y, zs, e1, r1, r2⟩ := r
    rw [e1]
    exact RVs.cons r1 (RVs.append r2 q)
theorem RVs.take : ∀ {vs : List Val} {xs : List V} (n : Nat), RVs K H h vs xs → RVs K H h (vs.take n) (xs.take n)
  | _, _, 0, _ => RVs.nil
  | [], xs, n + 1, r => by rw [RVs] at r; rw [r]; exact RVs.nil
  | v :: vs, xs, n + 1, r => by
    rw [RVs] at r
    obtain ⟨y, zs, e1, r1, r2⟩ := r
    rw [e1]
    exact RVs.cons r1 (RVs.take n r2)
theorem RVs.drop : ∀ {vs : List Val} {xs : List V} (n : Nat), RVs K H h vs xs → RVs K H h (vs.drop n) (xs.drop n)
  | _, _, 0, r => r
  | [], xs, n + 1, r => by rw [RVs] at r; rw [r]; exact RVs.nil
  | v :: vs, xs, n + 1, r => by
    rw [RVs] at r
    obtain ⟨y, zs, e1, r1, r2⟩ := r
    rw [e1]
    exact RVs.drop n r2
theorem RVs.reverse : ∀ {vs : List Val} {xs : List V}, RVs K H h vs xs → RVs K H h vs.reverse xs.reverse
  | [], xs, r => by rw [RVs] at r; rw [r]; exact RVs.nil
  | v :: vs, xs, r => by
    rw [RVs] at r
    obtain ⟨y, zs, e1, r1, r2⟩ := r
    rw [e1, List.reverse_cons, List.reverse_cons]
    exact RVs.append (RVs.reverse r2) (RVs.cons r1 RVs.nil)
theorem RVs.set : ∀ {vs : List Val} {xs : List V} (i : Nat) {v : Val} {x : V}, RVs K H h vs xs → RV K H h v x → RVs K H h (vs.set i v) (xs.set i x)
  | [], xs, i, _, _, r, q => by rw [RVs] at r; rw [r]; exact RVs.nil
  | w :: vs, xs, 0, v, x, r, q => by
    rw [RVs] at r
    obtain ⟨y, zs, e1, r1, r2⟩ := r
    rw [e1]
    exact RVs.cons q r2
  | w :: vs, xs, i + 1, v, x, r, q => by
    rw [RVs] at r
    obtain ⟨y, zs, e1, r1, r2⟩ := r
    rw [e1]
    exact RVs.cons r1 (RVs.set i r2 q)
theorem RVs.erase : ∀ {vs : List Val} {xs : List V} (i : Nat), RVs K H h vs xs → RVs K H h (vs.eraseIdx i) (xs.eraseIdx i)
  | [], xs, i, r => by rw [RVs] at r; rw [r]; exact RVs.nil
  | w :: vs, xs, 0, r => by
    rw [RVs] at r
    obtain ⟨y, zs, e1, r1, r2⟩ := r
    rw [e1]
    exact r2
  | w :: vs, xs, i + 1, r => by
    rw [RVs] at r
    obtain ⟨y, zs, e1, r1, r2⟩ := r
    rw [e1]
    exact RVs.cons r1 (RVs.erase i r2)
theorem RVs.ints : ∀ {ns : List Int} {xs : List V}, RVs K H h (ns.map Val.int) xs → xs = ns.map V.int
  | [], xs, r => by rw [List.map_nil, RVs] at r; exact r
  | n :: ns, xs, r => by
    rw [List.map_cons, RVs] at r
    obtain ⟨y, ys, e, r1, r2⟩ := r
    rw [RV] at r1
    rw [e, r1, RVs.ints r2]; rfl
theorem RVs.ofInts : ∀ (ns : List Int), RVs K H h (ns.map Val.int) (ns.map V.int)
  | [] => RVs.nil
  | n :: ns => RVs.cons (by rw [RV]) (RVs.ofInts ns)
theorem RVs.strs : ∀ {ns : List Str} {xs : List V}, RVs K H h (ns.map Val.str) xs → xs = ns.map V.str
  | [], xs, r => by rw [List.map_nil, RVs] at r; exact r
  | n :: ns, xs, r => by
    rw [List.map_cons, RVs] at r
    obtain ⟨y, ys, e, r1, r2⟩ := r
    rw [RV] at r1
    rw [e, r1, RVs.strs r2]; rfl
theorem RVs.ofStrs : ∀ (ns : List Str), RVs K H h (ns.map Val.str) (ns.map V.str)
  | [] => RVs.nil
  | n :: ns => RVs.cons (by rw [RV]) (RVs.ofStrs ns)
theorem RVs.bls : ∀ {ns : List Bool} {xs : List V}, RVs K H h (ns.map Val.bl) xs → xs = ns.map V.bl
  | [], xs, r => by rw [List.map_nil, RVs] at r; exact r
  | n :: ns, xs, r => by
    rw [List.map_cons, RVs] at r
    obtain ⟨y, ys, e, r1, r2⟩ := r
    rw [RV] at r1
    rw [e, r1, RVs.bls r2]; rfl
end
def RKs {κ : Type} (K : PySem.W.Frag) (H : Hp) (h : Hv) : List (κ × Val) → List (κ × V) → Prop
  | [], xs => xs = []
  | (k, v) :: kvs, xs => ∃ y ys, xs = (k, y) :: ys ∧ RV K H h v y ∧ RKs K H h kvs ys
theorem RKs.stepN {κ : Type} {K : PySem.W.Frag} {H H' : Hp} {h h' : Hv} (s : StepN h H h' H') : ∀ {kvs : List (κ × Val)} {xs : List (κ × V)}, RKs K H h kvs xs → RKs K H' h' kvs xs
  | [], xs, r => r
  | (k, v) :: kvs, xs, r => by
    obtain ⟨y, ys, e, r1, r2⟩ := r
    exact ⟨y, ys, e, r1.stepN s, RKs.stepN s r2⟩
theorem RKs.step {κ : Type} {K : PySem.W.Frag} {H H' : Hp} {h h' : Hv} (s : Step h H h' H') {kvs : List (κ × Val)} {xs : List (κ × V)} (r : RKs K H h kvs xs) : RKs K H' h' kvs xs := r.stepN s.n

mutual
def nkV : NestedKey → Val
  | .none => .non
  | .num i => .int i
  | .text z => .str z
  | .tup ks => .tup (nkVs ks)
def nkVs : List NestedKey → List Val
  | [] => []
  | k :: ks => nkV k :: nkVs ks
end
mutual
theorem nk_of {K : PySem.W.Frag} {H : Hp} {h : Hv} : ∀ {k : NestedKey} {x : V}, RV K H h (nkV k) x → NK H k x
  | .none, x, r => by rw [nkV, RV] at r; rw [NK]; exact r
  | .num i, x, r => by rw [nkV, RV] at r; rw [NK]; exact r
  | .text i, x, r => by rw [nkV, RV] at r; rw [NK]; exact r
  | .tup ks, x, r => by
    rw [nkV, RV] at r
    obtain ⟨a, xs, e, _, ha, rs⟩ := r
    rw [NK]
    exact ⟨a, xs, e, ha, nks_of rs⟩
theorem nks_of {K : PySem.W.Frag} {H : Hp} {h : Hv} : ∀ {ks : List NestedKey} {xs : List V}, RVs K H h (nkVs ks) xs → NKs H ks xs
  | [], xs, r => by rw [nkVs, RVs] at r; rw [NKs]; exact r
  | k :: ks, xs, r => by
    rw [nkVs, RVs] at r
    obtain ⟨y, ys, e, r1, r2⟩ := r
    rw [NKs]
    exact ⟨y, ys, e, nk_of r1, nks_of r2⟩
end
def RNs (K : PySem.W.Frag) (H : Hp) (h : Hv) : List (NestedKey × Val) → List NE → Prop
  | [], xs => xs = []
  | (k, v) :: kvs, xs => ∃ p y ys, xs = (k, p, y) :: ys ∧ k.depth ≤ 8 ∧ RV K H h (nkV k) (.ref p) ∧ RV K H h v y ∧ RNs K H h kvs ys
theorem RNs.stepN {K : PySem.W.Frag} {H H' : Hp} {h h' : Hv} (s : StepN h H h' H') : ∀ {kvs : List (NestedKey × Val)} {xs : List NE}, RNs K H h kvs xs → RNs K H' h' kvs xs
  | [], xs, r => r
  | (k, v) :: kvs, xs, r => by
    obtain ⟨p, y, ys, e, hd, r0, r1, r2⟩ := r
    exact ⟨p, y, ys, e, hd, r0.stepN s, r1.stepN s, RNs.stepN s r2⟩
theorem RNs.step {K : PySem.W.Frag} {H H' : Hp} {h h' : Hv} (s : Step h H h' H') {kvs : List (NestedKey × Val)} {xs : List NE} (r : RNs K H h kvs xs) : RNs K H' h' kvs xs := r.stepN s.n

def Fills (o : HO) : Prop := (∃ xs, o = .lst xs) ∨ ∃ kvs, o = .dK kvs
def RO (K : PySem.W.Frag) (H : Hp) (h : Hv) (a : Addr) : Ob → Prop
  | .lst vs => ∃ xs, H a = some (.lst xs) ∧ RVs K H h vs xs
  | .dK kvs => ∃ xs, H a = some (.dK xs) ∧ RKs K H h kvs xs
  | .dT kvs => ∃ xs, H a = some (.dT xs) ∧ RKs K H h kvs xs
  | .ins C fs => ∃ dx xs, H a = some (.ins C dx xs) ∧ H dx = some (.own a) ∧ h dx = none ∧ RKs K H h fs xs
  | .dF o xs kvs => H a = some (.frz o (.dK xs)) ∧ RKs K H h kvs xs
  | .dFT o xs kvs => H a = some (.frz o (.dT xs)) ∧ RKs K H h kvs xs
  | .exc C => ∃ oe φ, H a = some (.frz oe (.ext φ)) ∧ L2.Zc (.ref C) none oe ∧ ∃ vs, oe.data = .fields vs
  | .tab q => ∃ ps : Array Value, H a = some (.tbl ps) ∧ TriplesOk ps.toList ∧ ∀ (pos : Pos) (cv : Value), codeAmong pos ps.toList = some cv → ∃ c, cv = .ref c ∧ H c = some (LamX.CodeO c q) ∧ h c = none
  | .dN w kvs => ∃ xs, H a = some (DNO w a xs) ∧ RNs K H h kvs xs
  | .busy => ∃ o, H a = some o ∧ Fills o
def RH (K : PySem.W.Frag) (H : Hp) (h : Hv) : Prop := ∀ a o, h a = some o → RO K H h a o

abbrev Sl := List (Option Val)
def RS (K : PySem.W.Frag) (H : Hp) (h : Hv) (ρ : Sl) (σ : L2.St) : Prop := ρ.length = σ.length ∧ ∀ (i : Nat) (v : Val), ρ[i]? = some (some v) → ∃ x, σ[i]? = some (some x) ∧ RV K H h v x
theorem RS.stepN {K : PySem.W.Frag} {H H' : Hp} {h h' : Hv} {ρ : Sl} {σ : L2.St} (r : RS K H h ρ σ) (s : StepN h H h' H') : RS K H' h' ρ σ :=
  ⟨r.1, fun i v e => let ⟨x, e1, q⟩ := r.2 i v e; ⟨x, e1, q.stepN s⟩⟩
theorem RS.step {K : PySem.W.Frag} {H H' : Hp} {h h' : Hv} {ρ : Sl} {σ : L2.St} (r : RS K H h ρ σ) (s : Step h H h' H') : RS K H' h' ρ σ :=
  ⟨r.1, fun i v e => let ⟨x, e1, q⟩ := r.2 i v e; ⟨x, e1, q.step s⟩⟩
theorem RS.set {K : PySem.W.Frag} {H : Hp} {h : Hv} {ρ : Sl} {σ : L2.St} (r : RS K H h ρ σ) (i : Nat) {v : Val} {x : V} (q : RV K H h v x) : RS K H h (ρ.set i (some v)) (σ.set i (some x)) := by
  refine ⟨by rw [List.length_set, List.length_set]; exact r.1, fun j w e => ?_⟩
  by_cases hj : i = j
  · subst hj
    by_cases hi : i < ρ.length
    · rw [List.getElem?_set_self hi] at e
      cases e
      exact ⟨x, List.getElem?_set_self (by rw [← r.1]; exact hi), q⟩
    · rw [List.getElem?_eq_none (by simpa using hi)] at e
      cases e
  · rw [List.getElem?_set_ne hj] at e ⊢
    exact r.2 j w e
theorem RH.nof {K : PySem.W.Frag} {H : Hp} {h : Hv} (r : RH K H h) {p : Addr} (e : H p = none) : h p = none := by
  cases q : h p with
  | none => rfl
  | some o =>
    have z := r p o q
    cases o with
    | lst vs => obtain ⟨xs, e1, _⟩ := z; rw [e] at e1; cases e1
    | dK vs => obtain ⟨xs, e1, _⟩ := z; rw [e] at e1; cases e1
    | dT vs => obtain ⟨xs, e1, _⟩ := z; rw [e] at e1; cases e1
    | ins C fs => obtain ⟨dx, xs, e1, _⟩ := z; rw [e] at e1; cases e1
    | dF o xs kvs => have e1 := z.1; rw [e] at e1; cases e1
    | dFT o xs kvs => have e1 := z.1; rw [e] at e1; cases e1
    | exc C => obtain ⟨_, _, e1, _⟩ := z; rw [e] at e1; cases e1
    | tab q => obtain ⟨_, e1, _⟩ := z; rw [e] at e1; cases e1
    | dN w kvs => obtain ⟨_, e1, _⟩ := z; rw [e] at e1; cases e1
    | busy => obtain ⟨xs, e1, _⟩ := z; rw [e] at e1; cases e1

section
variable {K : PySem.W.Frag} {H : Hp} {h : Hv}
theorem Step.fresh {p : Addr} {o : HO} (e : H p = none) : Step h H h (upd H p o) := ⟨fun a u ha n _ => by
  rw [upd_ne (ne_of_none ha e)]
  exact ⟨ha, n⟩, fun a u ha n => by
  rw [upd_ne (ne_of_none ha e)]
  exact ⟨ha, n⟩⟩
theorem Step.new {p : Addr} {o : HO} {u : Ob} (e : H p = none) : Step h H (put h p u) (upd H p o) := ⟨fun a w ha n _ => by
  rw [upd_ne (ne_of_none ha e), put_ne (ne_of_none ha e)]
  exact ⟨ha, n⟩, fun a w ha n => by
  rw [upd_ne (ne_of_none ha e), put_ne (ne_of_none ha e)]
  exact ⟨ha, n⟩⟩
theorem Step.write {p : Addr} {o : HO} {u w : Ob} (e : h p = some u) (nb : u ≠ .busy) : Step h H (put h p w) (upd H p o) := ⟨fun a z ha n _ => by
  have ne : a ≠ p := fun q => by rw [q, e] at n; cases n
  rw [upd_ne ne, put_ne ne]
  exact ⟨ha, n⟩, fun a z ha n => by
  have ne : a ≠ p := fun q => by rw [q, e] at n; cases n; exact nb rfl
  rw [upd_ne ne, put_ne ne]
  exact ⟨ha, n⟩⟩
theorem RO.stepN {H' : Hp} {h' : Hv} {a : Addr} {o : Ob} (s : StepN h H h' H') (e : ∀ u, H a = some u → H' a = some u) (r : RO K H h a o) : RO K H' h' a o := by
  cases o with
  | lst vs => obtain ⟨xs, e1, q⟩ := r; exact ⟨xs, e _ e1, q.stepN s⟩
  | dK vs => obtain ⟨xs, e1, q⟩ := r; exact ⟨xs, e _ e1, q.stepN s⟩
  | dT vs => obtain ⟨xs, e1, q⟩ := r; exact ⟨xs, e _ e1, q.stepN s⟩
  | ins C fs =>
    obtain ⟨dx, xs, e1, e2, n, q⟩ := r
    have := s dx _ e2 n (fun _ z => nomatch z)
    exact ⟨dx, xs, e _ e1, this.1, this.2, q.stepN s⟩
  | dF o xs kvs => exact ⟨e _ r.1, r.2.stepN s⟩
  | dFT o xs kvs => exact ⟨e _ r.1, r.2.stepN s⟩
  | exc C => obtain ⟨oe, φ, e1, q⟩ := r; exact ⟨oe, φ, e _ e1, q⟩
  | tab q =>
    obtain ⟨ps, e1, t, k⟩ := r
    refine ⟨ps, e _ e1, t, fun pos cv hc => ?_⟩
    obtain ⟨c, ec, e2, n⟩ := k pos cv hc
    have := s c _ e2 n (fun _ z => LamX.codeO_ne _ z)
    exact ⟨c, ec, this.1, this.2⟩
  | dN w kvs => obtain ⟨xs, e1, q⟩ := r; exact ⟨xs, e _ e1, q.stepN s⟩
  | busy => obtain ⟨o, e1, n⟩ := r; exact ⟨o, e _ e1, n⟩
theorem RO.step {H' : Hp} {h' : Hv} {a : Addr} {o : Ob} (s : Step h H h' H') (e : ∀ u, H a = some u → H' a = some u) (r : RO K H h a o) : RO K H' h' a o := r.stepN s.n e
theorem RH.fresh {p : Addr} {o : HO} (r : RH K H h) (e : H p = none) : RH K (upd H p o) h := fun a u q =>
  (r a u q).step (Step.fresh e) fun w z => by rw [upd_ne (ne_of_none z e)]; exact z
theorem RH.new {p : Addr} {o : HO} {u : Ob} (r : RH K H h) (e : H p = none) (n : RO K (upd H p o) (put h p u) p u) : RH K (upd H p o) (put h p u) := fun a w q => by
  by_cases ha : a = p
  · subst ha
    rw [put_same] at q
    cases q
    exact n
  · rw [put_ne ha] at q
    exact (r a w q).step (Step.new e) fun w z => by rw [upd_ne ha]; exact z
theorem RH.write {p : Addr} {o : HO} {u w : Ob} (r : RH K H h) (e : h p = some u) (nb : u ≠ .busy) (n : RO K (upd H p o) (put h p w) p w) : RH K (upd H p o) (put h p w) := fun a z q => by
  by_cases ha : a = p
  · subst ha
    rw [put_same] at q
    cases q
    exact n
  · rw [put_ne ha] at q
    exact (r a z q).step (Step.write e nb) fun w z => by rw [upd_ne ha]; exact z
def drop (h : Hv) (p : Addr) : Hv := fun b => if b = p then none else h b
theorem drop_same {p : Addr} : drop h p p = none := by unfold drop; rw [if_pos rfl]
theorem drop_ne {p b : Addr} (e : b ≠ p) : drop h p b = h b := by unfold drop; rw [if_neg e]
def Less (h h' : Hv) : Prop := ∀ a, h' a = none ∨ h' a = h a
theorem Less.refl (h : Hv) : Less h h := fun _ => .inr rfl
theorem Less.stepN {h' : Hv} (l : Less h h') : StepN h H h' H := fun a o e n _ => ⟨e, by rcases l a with z | z; exact z; rw [z]; exact n⟩
theorem RH.less {h' : Hv} (r : RH K H h) (l : Less h h') : RH K H h' := fun a o q => by
  rcases l a with z | z
  · rw [z] at q; cases q
  · rw [z] at q
    exact (r a o q).stepN l.stepN fun _ z => z
theorem less_drop {p : Addr} : Less h (drop h p) := fun a => by
  by_cases e : a = p
  · subst e; exact .inl drop_same
  · exact .inr (drop_ne e)
end
end DL
namespace DL
open PySem PySem.Spec PyProof.Rows L2
abbrev PV := Val → Hv → Prop
abbrev PX := Str → Option Val → Sl → Hv → Prop
abbrev ED := Sl → Hv → PV → PX → Prop
abbrev TD := Sl → Hv → (Bool → Hv → Prop) → PX → Prop
abbrev AD := Sl → Hv → (List Val → Hv → Prop) → PX → Prop
structure AE where
  nx : Sl → Hv → Prop
  rt : PV
  bk : Sl → Hv → Prop := fun _ _ => False
  ct : Sl → Hv → Prop := fun _ _ => False
abbrev SD := Sl → Hv → AE → PX → Prop
structure Bs where
  E : PX
  h0 : Hv
  H0 : Hp
structure ST (K : PySem.W.Frag) (B : Bs) (σ : L2.St) (H : Hp) (ρ : Sl) (h : Hv) : Prop where
  s : RS K H h ρ σ
  r : RH K H h
  b : Step B.h0 B.H0 h H
theorem ST.step {K : PySem.W.Frag} {B : Bs} {σ : L2.St} {H H' : Hp} {ρ : Sl} {h h' : Hv} (x : ST K B σ H ρ h) (s : Step h H h' H') (r : RH K H' h') : ST K B σ H' ρ h' :=
  ⟨x.s.step s, r, x.b.trans s⟩
theorem ST.set {K : PySem.W.Frag} {B : Bs} {σ : L2.St} {H : Hp} {ρ : Sl} {h : Hv} (x : ST K B σ H ρ h) (i : Nat) {v : Val} {y : V} (q : RV K H h v y) : ST K B (σ.set i (some y)) H (ρ.set i (some v)) h :=
  ⟨x.s.set i q, x.r, x.b⟩

def Cont (K : PySem.W.Frag) (h : Hv) (H : Hp) (Q' : PV) (Q : VK) : Prop := ∀ v h' x H', Q' v h' → Step h H h' H' → RV K H' h' v x → RH K H' h' → Q x H'
def ContB (K : PySem.W.Frag) (h : Hv) (H : Hp) (Q' : Bool → Hv → Prop) (Q : Bool → Hp → Prop) : Prop := ∀ b h' H', Q' b h' → Step h H h' H' → RH K H' h' → Q b H'
def ContA (K : PySem.W.Frag) (h : Hv) (H : Hp) (Q' : List Val → Hv → Prop) (Q : List V → Hp → Prop) : Prop := ∀ vs h' xs H', Q' vs h' → Step h H h' H' → RVs K H' h' vs xs → RH K H' h' → Q xs H'
def rdE (K : PySem.W.Frag) (B : Bs) (d : ED) : TE := fun σ H Q => ∃ ρ h Q', ST K B σ H ρ h ∧ d ρ h Q' B.E ∧ Cont K h H Q' Q
def rdT (K : PySem.W.Frag) (B : Bs) (d : TD) : TT := fun σ H Q => ∃ ρ h Q', ST K B σ H ρ h ∧ d ρ h Q' B.E ∧ ContB K h H Q' Q
def rdA (K : PySem.W.Frag) (B : Bs) (d : AD) : TA := fun σ H Q => ∃ ρ h Q', ST K B σ H ρ h ∧ d ρ h Q' B.E ∧ ContA K h H Q' Q
structure ContS (K : PySem.W.Frag) (B : Bs) (h : Hv) (H : Hp) (D' : AE) (D : Ends) : Prop where
  nx : ∀ ρ h' σ H', D'.nx ρ h' → Step h H h' H' → ST K B σ H' ρ h' → D.nx σ H'
  rt : ∀ v h' x H', D'.rt v h' → Step h H h' H' → RV K H' h' v x → RH K H' h' → D.rt x H'
  bk : ∀ ρ h' σ H', D'.bk ρ h' → Step h H h' H' → ST K B σ H' ρ h' → D.bk σ H'
  ct : ∀ ρ h' σ H', D'.ct ρ h' → Step h H h' H' → ST K B σ H' ρ h' → D.ct σ H'
def rdS (K : PySem.W.Frag) (B : Bs) (d : SD) : TS := fun D σ H => ∃ ρ h D', ST K B σ H ρ h ∧ d ρ h D' B.E ∧ ContS K B h H D' D

theorem Cont.trans {K : PySem.W.Frag} {h h1 : Hv} {H H1 : Hp} {Q' : PV} {Q : VK} (c : Cont K h H Q' Q) (s : Step h H h1 H1) : Cont K h1 H1 Q' Q := fun v h' x H' q s' => c v h' x H' q (s.trans s')
theorem ContB.trans {K : PySem.W.Frag} {h h1 : Hv} {H H1 : Hp} {Q' : Bool → Hv → Prop} {Q : Bool → Hp → Prop} (c : ContB K h H Q' Q) (s : Step h H h1 H1) : ContB K h1 H1 Q' Q := fun v h' H' q s' => c v h' H' q (s.trans s')
theorem ContA.trans {K : PySem.W.Frag} {h h1 : Hv} {H H1 : Hp} {Q' : List Val → Hv → Prop} {Q : List V → Hp → Prop} (c : ContA K h H Q' Q) (s : Step h H h1 H1) : ContA K h1 H1 Q' Q := fun v h' x H' q s' => c v h' x H' q (s.trans s')
theorem ContS.trans {K : PySem.W.Frag} {B : Bs} {h h1 : Hv} {H H1 : Hp} {D' : AE} {D : Ends} (c : ContS K B h H D' D) (s : Step h H h1 H1) : ContS K B h1 H1 D' D :=
  ⟨fun ρ h' σ H' q s' => c.nx ρ h' σ H' q (s.trans s'), fun v h' x H' q s' => c.rt v h' x H' q (s.trans s'), fun ρ h' σ H' q s' => c.bk ρ h' σ H' q (s.trans s'), fun ρ h' σ H' q s' => c.ct ρ h' σ H' q (s.trans s')⟩

abbrev DE (X : Cx) (B : Bs) (e : Expr) (d : ED) : Prop := PE X e (rdE X.K B d)
abbrev DT (X : Cx) (B : Bs) (e : Expr) (d : TD) : Prop := PT X e (rdT X.K B d)
abbrev DW (X : Cx) (B : Bs) (e : Expr) (d : TD) : Prop := PW X e (rdT X.K B d)
abbrev DA (X : Cx) (B : Bs) (es : List Expr) (d : AD) : Prop := PA X es (rdA X.K B d)
abbrev DS (X : Cx) (B : Bs) (st : Stmt) (d : SD) : Prop := PS X st (rdS X.K B d)
abbrev DSs (X : Cx) (B : Bs) (sts : List Stmt) (d : SD) : Prop := PSs X sts (rdS X.K B d)

theorem PEi {X : Cx} {e : Expr} {t t' : TE} (p : PE X e t) (i : ∀ σ H Q, t' σ H Q → t σ H Q) : PE X e t' := ⟨fun pins s σ H Q I q => p.run pins s σ H Q I (i σ H Q q)⟩
theorem PTi {X : Cx} {e : Expr} {t t' : TT} (p : PT X e t) (i : ∀ σ H Q, t' σ H Q → t σ H Q) : PT X e t' := ⟨fun pins s σ H Q I q => p.run pins s σ H Q I (i σ H Q q)⟩
theorem PWi {X : Cx} {e : Expr} {t t' : TT} (p : PW X e t) (i : ∀ σ H Q, t' σ H Q → t σ H Q) : PW X e t' := ⟨fun w pins s σ H Q I q => p.run w pins s σ H Q I (i σ H Q q)⟩
theorem PAi {X : Cx} {e : List Expr} {t t' : TA} (p : PA X e t) (i : ∀ σ H Q, t' σ H Q → t σ H Q) : PA X e t' := ⟨fun w pins s σ H Q I q => p.run w pins s σ H Q I (i σ H Q q)⟩
theorem PSi {X : Cx} {e : Stmt} {t t' : TS} (p : PS X e t) (i : ∀ D σ H, t' D σ H → t D σ H) : PS X e t' := ⟨fun pins s σ H D I q => p.run pins s σ H D I (i D σ H q)⟩
theorem PSsi {X : Cx} {e : List Stmt} {t t' : TS} (p : PSs X e t) (i : ∀ D σ H, t' D σ H → t D σ H) : PSs X e t' := ⟨fun pins s σ H D I q => p.run pins s σ H D I (i D σ H q)⟩

section
variable {K : PySem.W.Frag} {h : Hv} {H : Hp} {Q' : PV} {Q : VK}
theorem Cont.val (c : Cont K h H Q' Q) (r : RH K H h) {v : Val} {x : V} (rv : RV K H h v x) (q : Q' v h) : Q x H := c v h x H q (Step.refl _ _) rv r
theorem Cont.tup (c : Cont K h H Q' Q) (r : RH K H h) {vs : List Val} {xs : List V} {p : Addr} (rs : RVs K H h vs xs) (e : H p = none) (q : Q' (.tup vs) h) : Q (.ref p) (upd H p (.tup xs)) :=
  c _ _ _ _ q (Step.fresh e) (by rw [RV]; exact ⟨p, xs, rfl, r.nof e, upd_same, rs.step (Step.fresh e)⟩) (r.fresh e)
theorem Cont.lst (c : Cont K h H Q' Q) (r : RH K H h) {vs : List Val} {xs : List V} {p : Addr} (rs : RVs K H h vs xs) (e : H p = none) (q : Q' (.lst vs) h) : Q (.ref p) (upd H p (.lst xs)) :=
  c _ _ _ _ q (Step.fresh e) (by rw [RV]; exact ⟨p, xs, rfl, r.nof e, upd_same, rs.step (Step.fresh e)⟩) (r.fresh e)
theorem Cont.lstH (c : Cont K h H Q' Q) (r : RH K H h) {vs : List Val} {xs : List V} {p : Addr} (rs : RVs K H h vs xs) (e : H p = none) (q : Q' (.ref p) (put h p (.lst vs))) : Q (.ref p) (upd H p (.lst xs)) :=
  c _ _ _ _ q (Step.new e) (by rw [RV]) (r.new e ⟨xs, upd_same, rs.step (Step.new e)⟩)
end
section
variable {X : Cx} {B : Bs} {a b c e : Expr} {da db dc d : ED} {pos : Pos}
@[simp] def dVar (i : Nat) : ED := fun ρ h Q _ => match ρ[i]? with
  | some (some v) => Q v h
  | _ => False
@[simp] def dC (v : Val) : ED := fun _ h Q _ => Q v h
theorem de_var (i : Nat) {x : Str} {pos : Pos} (hN : X.N[i]? = some x := by rfl) (hv : Vis X.env.scope x := by first | exact Or.inl rfl | exact Or.inr (Or.inl rfl) | exact Or.inr (Or.inr rfl)) (hd : (x == ("__debug__" : Str)) = false := by decide)
    (hcd : (x == ("__classdict__" : Str)) = false := by decide) : DE X B (.Name x pos) (dVar i) := PEi (pe_var hN hv hd hcd) fun σ H Q ⟨ρ, h, Q', S, q, C⟩ => by
  unfold dVar at q
  split at q
  · rename_i v e
    obtain ⟨x, e1, r⟩ := S.s.2 i v e
    exact ⟨x, e1, C.val S.r r q⟩
  · exact q.elim
theorem de_int {i : Int} {j} : DE X B (.Constant (.int i) j pos) (dC (.int i)) := PEi pe_int fun σ H Q ⟨ρ, h, Q', S, q, C⟩ => C.val S.r (by rw [RV]) q
theorem de_bl {i : Bool} {j} : DE X B (.Constant (.bool i) j pos) (dC (.bl i)) := PEi pe_bl fun σ H Q ⟨ρ, h, Q', S, q, C⟩ => C.val S.r (by rw [RV]) q
theorem de_str {i : Str} {j} : DE X B (.Constant (.str i) j pos) (dC (.str i)) := PEi pe_str fun σ H Q ⟨ρ, h, Q', S, q, C⟩ => C.val S.r (by rw [RV]) q
theorem de_non {j} : DE X B (.Constant .none j pos) (dC .non) := PEi pe_non fun σ H Q ⟨ρ, h, Q', S, q, C⟩ => C.val S.r (by rw [RV]) q
theorem de_ty {x : Str} {n : String} (hg : Gl X x) (hm : X.mg x = none) (hv : bootBuiltins x = some (.type n)) (hn : x ≠ "__name__" := by decide) (hd : (x == ("__debug__" : Str)) = false := by decide) : DE X B (.Name x pos) (dC (.ty n)) :=
  PEi (pe_bltn (v := .ty n) hg hm hv rfl hn hd) fun σ H Q ⟨ρ, h, Q', S, q, C⟩ => C.val S.r (by rw [RV]) q

abbrev F2 := Val → Val → Hv → PV → Prop
abbrev F1 := Val → Hv → PV → Prop
def OpL (K : PySem.W.Frag) (f : F2) (r : R2) : Prop := ∀ v w x y h H Q' Q, RH K H h → RV K H h v x → RV K H h w y → f v w h Q' → Cont K h H Q' Q → r x y H Q
def UnL (K : PySem.W.Frag) (f : F1) (r : V → Hp → VK → Prop) : Prop := ∀ v x h H Q' Q, RH K H h → RV K H h v x → f v h Q' → Cont K h H Q' Q → r x H Q
@[simp] def dBin (f : F2) (da db : ED) : ED := fun ρ h Q E => da ρ h (fun v h1 => db ρ h1 (fun w h2 => f v w h2 Q) E) E
@[simp] def dUn (f : F1) (da : ED) : ED := fun ρ h Q E => da ρ h (fun v h1 => f v h1 Q) E
theorem rd_bin {f : F2} {r : R2} {K : PySem.W.Frag} (hl : OpL K f r) : ∀ σ H Q, rdE K B (dBin f da db) σ H Q → tOp r (rdE K B da) (rdE K B db) σ H Q := by
  rintro σ H Q ⟨ρ, h, Q', S, q, C⟩
  refine ⟨ρ, h, _, S, q, fun v h1 x H1 q1 s1 rv1 r1 => ?_⟩
  refine ⟨ρ, h1, _, S.step s1 r1, q1, fun w h2 y H2 q2 s2 rv2 r2 => ?_⟩
  exact hl v w x y h2 H2 Q' Q r2 (rv1.step s2) rv2 q2 (C.trans (s1.trans s2))
theorem de_op {op : Operator} {f : F2} {r : R2} (ho : OpR X (binaryOp op) r) (hl : OpL X.K f r) (ha : DE X B a da) (hb : DE X B b db) : DE X B (.BinOp a op b pos) (dBin f da db) :=
  PEi (pe_op ho ha hb) (rd_bin hl)
theorem de_un {op : UnaryOp} {f : F1} {r : V → Hp → VK → Prop} (ho : UnR X (unaryOp op) r) (hl : UnL X.K f r) (ha : DE X B a da) : DE X B (.UnaryOp op a pos) (dUn f da) :=
  PEi (pe_un ho ha) fun σ H Q ⟨ρ, h, Q', S, q, C⟩ => ⟨ρ, h, _, S, q, fun v h1 x H1 q1 s1 rv1 r1 => hl v x h1 H1 Q' Q r1 rv1 q1 (C.trans s1)⟩
theorem de_cmp {op : CmpOp} {f : F2} {r : R2} (ho : OpR X (compareOp op) r) (hl : OpL X.K f r) (ha : DE X B a da) (hb : DE X B b db) (hm : behindInMarks op b = false := by first | exact nomark _ | rfl) : DE X B (.Compare a [op] [b] pos) (dBin f da db) :=
  PEi (pe_cmpR ho ha hb hm) (rd_bin hl)
@[simp] def dTest (d : ED) : TD := fun ρ h Q E => d ρ h (fun v h1 => match v with
  | .bl k => Q k h1
  | _ => False) E
theorem rd_test {t : TE} {K : PySem.W.Frag} (hi : ∀ σ H Q, rdE K B d σ H Q → t σ H Q) : ∀ σ H Q, rdT K B (dTest d) σ H Q → tTest t σ H Q := by
  rintro σ H Q ⟨ρ, h, Q', S, q, C⟩
  refine hi _ _ _ ⟨ρ, h, _, S, q, fun v h1 x H1 q1 s1 rv1 r1 => ?_⟩
  cases v with
  | bl k =>
    rw [RV] at rv1
    exact ⟨k, rv1, C _ _ _ q1 s1 r1⟩
  | _ => exact q1.elim
theorem dt_cmp {op : CmpOp} {f : F2} {r : R2} (ho : OpR X (compareOp op) r) (hl : OpL X.K f r) (ha : DE X B a da) (hb : DE X B b db) (hm : behindInMarks op b = false := by first | exact nomark _ | rfl) : DT X B (.Compare a [op] [b] pos) (dTest (dBin f da db)) :=
  PTi (pt_cmpR ho ha hb hm) (rd_test (rd_bin hl))
@[simp] def dChain (f f' : F2) (da db dc : ED) : ED := fun ρ h Q E => da ρ h (fun v h1 => db ρ h1 (fun w h2 => f v w h2 (fun z h3 => match z with
  | .bl k => if k = true then dc ρ h3 (fun u h4 => f' w u h4 Q) E else Q (.bl false) h3
  | _ => False)) E) E
@[simp] def truA (v : Val) (h : Hv) : Option Bool := match v with
  | .non => some false
  | .bl b => some b
  | .int i => some (i != 0)
  | .str y => if y.length ≤ sizeLine then some ((y.length : Int) != 0) else none
  | .tup vs => some (!vs.isEmpty)
  | .tpo vs => some (!vs.isEmpty)
  | .lst vs => some (!vs.isEmpty)
  | .scr ns => some (!ns.isEmpty)
  | .ref a => match h a with
    | some (.lst vs) => some (!vs.isEmpty)
    | some (.dK kvs) => some (!kvs.isEmpty)
    | _ => none
  | .ty _ => none
theorem RVs.empty {K : PySem.W.Frag} {H : Hp} {h : Hv} {vs : List Val} {xs : List V} (r : RVs K H h vs xs) : vs.isEmpty = xs.isEmpty := by
  cases vs with
  | nil => rw [RVs] at r; rw [r]; rfl
  | cons v vs => rw [RVs] at r; obtain ⟨y, ys, e, _⟩ := r; rw [e]; rfl
theorem RKs.empty {κ : Type} {K : PySem.W.Frag} {H : Hp} {h : Hv} {vs : List (κ × Val)} {xs : List (κ × V)} (r : RKs K H h vs xs) : vs.isEmpty = xs.isEmpty := by
  cases vs with
  | nil => rw [show xs = [] from r]; rfl
  | cons v vs => obtain ⟨y, ys, e, _⟩ := r; rw [e]; rfl
theorem scr_sql {K : PySem.W.Frag} {H : Hp} {h : Hv} {ns : List Int} {x : V} (r : RV K H h (.scr ns) x) : ∃ a, x = .ref a ∧ SqL K H a (ns.map V.int) := by
  rw [RV] at r
  obtain ⟨a, e, r⟩ := r
  refine ⟨a, e, ?_⟩
  rcases r with ⟨_, q⟩ | q
  · exact .inl q
  · exact .inr q
theorem tpo_sqt {K : PySem.W.Frag} {H : Hp} {h : Hv} {vs : List Val} {x : V} (r : RV K H h (.tpo vs) x) : ∃ a xs, x = .ref a ∧ SqT K H a xs ∧ RVs K H h vs xs := by
  rw [RV] at r
  obtain ⟨a, xs, o, e, _, ha, _, rs⟩ := r
  exact ⟨a, xs, e, .inl (.inr ⟨o, ha⟩), rs⟩
theorem tru_rel {K : PySem.W.Frag} {H : Hp} {h : Hv} {v : Val} {x : V} {k : Bool} (r : RH K H h) (rv : RV K H h v x) (e : truA v h = some k) : TruV K x H k := by
  cases v with
  | non => rw [RV] at rv; subst rv; exact (Option.some.inj e).symm
  | bl b => rw [RV] at rv; subst rv; exact (Option.some.inj e).symm
  | int b => rw [RV] at rv; subst rv; exact (Option.some.inj e).symm
  | str b =>
    rw [RV] at rv; subst rv
    unfold truA at e
    dsimp only at e
    split at e
    · rename_i hl; exact ⟨hl, (Option.some.inj e).symm⟩
    · cases e
  | tup vs =>
    rw [RV] at rv
    obtain ⟨a, xs, e1, _, ha, rs⟩ := rv
    subst e1
    refine .inr (.inl ⟨xs, .of ha, ?_⟩)
    rw [← rs.empty]; exact (Option.some.inj e).symm
  | tpo vs =>
    obtain ⟨a, xs, e1, ha, rs⟩ := tpo_sqt rv
    subst e1
    refine .inr (.inl ⟨xs, ha, ?_⟩)
    rw [← rs.empty]; exact (Option.some.inj e).symm
  | lst vs =>
    rw [RV] at rv
    obtain ⟨a, xs, e1, _, ha, rs⟩ := rv
    subst e1
    refine .inl ⟨xs, .of ha, ?_⟩
    rw [← rs.empty]; exact (Option.some.inj e).symm
  | scr ns =>
    obtain ⟨a, e1, hq⟩ := scr_sql rv
    subst e1
    refine .inl ⟨_, hq, ?_⟩
    rw [← (Option.some.inj e)]
    cases ns <;> rfl
  | ref a =>
    rw [RV] at rv; subst rv
    unfold truA at e
    dsimp only at e
    split at e
    · rename_i vs hv
      obtain ⟨xs, e1, rs⟩ := r a _ hv
      refine .inl ⟨xs, .of e1, ?_⟩
      rw [← rs.empty]; exact (Option.some.inj e).symm
    · rename_i vs hv
      obtain ⟨xs, e1, rs⟩ := r a _ hv
      refine .inr (.inr ⟨xs, e1, ?_⟩)
      rw [← rs.empty]; exact (Option.some.inj e).symm
    · cases e
  | ty n => cases e
@[simp] def dTruth (d : ED) : TD := fun ρ h Q E => d ρ h (fun v h1 => match truA v h1 with
  | some k => Q k h1
  | none => False) E
theorem dt_truth (ha : DE X B a da) (he : ∀ whole, isTrue a X.env whole = (do let v ← whole; standAt a.pos; holding [v] (truthy v)) := by intro _; rfl) : DT X B a (dTruth da) :=
  PTi (pt_truth ha he) fun σ H Q ⟨ρ, h, Q', S, q, C⟩ => ⟨ρ, h, _, S, q, fun v h1 x H1 q1 s1 rv1 r1 => by
    split at q1
    · rename_i k e
      exact ⟨k, tru_rel r1 rv1 e, C _ _ _ q1 s1 r1⟩
    · exact q1.elim⟩
variable {ta tb : TD} {rest : List Expr}
@[simp] def dAnd (ta tb : TD) : TD := fun ρ h Q E => ta ρ h (fun k h1 => if k = true then tb ρ h1 Q E else Q false h1) E
@[simp] def dOr (ta tb : TD) : TD := fun ρ h Q E => ta ρ h (fun k h1 => if k = true then Q true h1 else tb ρ h1 Q E) E
@[simp] def dNot (ta : TD) : TD := fun ρ h Q E => ta ρ h (fun k h1 => Q (!k) h1) E
theorem dw_and1 (ha : DT X B a ta) : DW X B (.BoolOp .And [a] pos) ta := pw_and1 ha
theorem dw_or1 (ha : DT X B a ta) : DW X B (.BoolOp .Or [a] pos) ta := pw_or1 ha
theorem dw_and (ha : DT X B a ta) (hb : DW X B (.BoolOp .And (b :: rest) pos) tb) : DW X B (.BoolOp .And (a :: b :: rest) pos) (dAnd ta tb) :=
  PWi (pw_and ha hb) fun σ H Q ⟨ρ, h, Q', S, q, C⟩ => ⟨ρ, h, _, S, q, fun k h1 H1 q1 s1 r1 => by
    cases k with
    | true =>
      rw [if_pos rfl] at q1 ⊢
      exact ⟨ρ, h1, _, S.step s1 r1, q1, C.trans s1⟩
    | false =>
      rw [if_neg Bool.false_ne_true] at q1 ⊢
      exact C _ _ _ q1 s1 r1⟩
theorem dw_or (ha : DT X B a ta) (hb : DW X B (.BoolOp .Or (b :: rest) pos) tb) : DW X B (.BoolOp .Or (a :: b :: rest) pos) (dOr ta tb) :=
  PWi (pw_or ha hb) fun σ H Q ⟨ρ, h, Q', S, q, C⟩ => ⟨ρ, h, _, S, q, fun k h1 H1 q1 s1 r1 => by
    cases k with
    | false =>
      rw [if_neg Bool.false_ne_true] at q1 ⊢
      exact ⟨ρ, h1, _, S.step s1 r1, q1, C.trans s1⟩
    | true =>
      rw [if_pos rfl] at q1 ⊢
      exact C _ _ _ q1 s1 r1⟩
theorem dt_w (ha : DW X B a ta) : DT X B a ta := ha.pt
theorem dt_not (ha : DT X B a ta) : DT X B (.UnaryOp .Not a pos) (dNot ta) :=
  PTi (pt_not ha) fun σ H Q ⟨ρ, h, Q', S, q, C⟩ => ⟨ρ, h, _, S, q, fun k h1 H1 q1 s1 r1 => C _ _ _ q1 s1 r1⟩
@[simp] def vAnd (da db : ED) : ED := fun ρ h Q E => da ρ h (fun v h1 => match truA v h1 with
  | some k => if k = true then db ρ h1 Q E else Q v h1
  | none => False) E
@[simp] def vOr (da db : ED) : ED := fun ρ h Q E => da ρ h (fun v h1 => match truA v h1 with
  | some k => if k = true then Q v h1 else db ρ h1 Q E
  | none => False) E
@[simp] def vNot (da : ED) : ED := fun ρ h Q E => da ρ h (fun v h1 => match truA v h1 with
  | some k => Q (.bl (!k)) h1
  | none => False) E
theorem de_one {op} (ha : DE X B a da) : DE X B (.BoolOp op [a] pos) da := pe_one ha
theorem de_and (ha : DE X B a da) (hb : DE X B (.BoolOp .And (b :: rest) pos) db) : DE X B (.BoolOp .And (a :: b :: rest) pos) (vAnd da db) :=
  PEi (pe_andT ha hb) fun σ H Q ⟨ρ, h, Q', S, q, C⟩ => ⟨ρ, h, _, S, q, fun v h1 x H1 q1 s1 rv1 r1 => by
    split at q1
    · rename_i k e
      refine ⟨k, tru_rel r1 rv1 e, ?_⟩
      cases k with
      | true =>
        rw [if_pos rfl] at q1 ⊢
        exact ⟨ρ, h1, _, S.step s1 r1, q1, C.trans s1⟩
      | false =>
        rw [if_neg Bool.false_ne_true] at q1 ⊢
        exact C _ _ _ _ q1 s1 rv1 r1
    · exact q1.elim⟩
theorem de_or (ha : DE X B a da) (hb : DE X B (.BoolOp .Or (b :: rest) pos) db) : DE X B (.BoolOp .Or (a :: b :: rest) pos) (vOr da db) :=
  PEi (pe_orT ha hb) fun σ H Q ⟨ρ, h, Q', S, q, C⟩ => ⟨ρ, h, _, S, q, fun v h1 x H1 q1 s1 rv1 r1 => by
    split at q1
    · rename_i k e
      refine ⟨k, tru_rel r1 rv1 e, ?_⟩
      cases k with
      | false =>
        rw [if_neg Bool.false_ne_true] at q1 ⊢
        exact ⟨ρ, h1, _, S.step s1 r1, q1, C.trans s1⟩
      | true =>
        rw [if_pos rfl] at q1 ⊢
        exact C _ _ _ _ q1 s1 rv1 r1
    · exact q1.elim⟩
@[simp] def dIfE (t : TD) (da db : ED) : ED := fun ρ h Q E => t ρ h (fun k h1 => if k = true then da ρ h1 Q E else db ρ h1 Q E) E
theorem de_if (hc : DT X B c ta) (ha : DE X B a da) (hb : DE X B b db) : DE X B (.IfExp c a b pos) (dIfE ta da db) :=
  PEi (pe_ifExp hc ha hb) fun σ H Q ⟨ρ, h, Q', S, q, C⟩ => ⟨ρ, h, _, S, q, fun k h1 H1 q1 s1 r1 => by
    cases k with
    | true =>
      rw [if_pos rfl] at q1 ⊢
      exact ⟨ρ, h1, _, S.step s1 r1, q1, C.trans s1⟩
    | false =>
      rw [if_neg Bool.false_ne_true] at q1 ⊢
      exact ⟨ρ, h1, _, S.step s1 r1, q1, C.trans s1⟩⟩

variable {es : List Expr} {aa : AD}
@[simp] def aNil : AD := fun _ h Q _ => Q [] h
@[simp] def aCons (da : ED) (dr : AD) : AD := fun ρ h Q E => da ρ h (fun v h1 => dr ρ h1 (fun vs h2 => Q (v :: vs) h2) E) E
theorem da_nil : DA X B [] aNil := PAi pa_nil fun σ H Q ⟨ρ, h, Q', S, q, C⟩ => C _ _ _ _ q (Step.refl _ _) RVs.nil S.r
theorem da_cons (ha : DE X B e d) (hr : DA X B es aa) (hs : starEach (e :: es) X.env = (false, eval e X.env) :: starEach es X.env := by rfl) : DA X B (e :: es) (aCons d aa) :=
  PAi (pa_cons ha hr hs) fun σ H Q ⟨ρ, h, Q', S, q, C⟩ => ⟨ρ, h, _, S, q, fun v h1 x H1 q1 s1 rv1 r1 =>
    ⟨ρ, h1, _, S.step s1 r1, q1, fun vs h2 xs H2 q2 s2 rv2 r2 => C _ _ _ _ q2 (s1.trans s2) (RVs.cons (rv1.step s2) rv2) r2⟩⟩
@[simp] def dTup (aa : AD) : ED := fun ρ h Q E => aa ρ h (fun vs h1 => vs.length ≤ sizeLine ∧ Q (.tup vs) h1) E
@[simp] def dLst (aa : AD) : ED := fun ρ h Q E => aa ρ h (fun vs h1 => vs.length ≤ sizeLine ∧ Q (.lst vs) h1) E
@[simp] def dLstH (aa : AD) : ED := fun ρ h Q E => aa ρ h (fun vs h1 => vs.length ≤ sizeLine ∧ ∀ p, h1 p = none → Q (.ref p) (put h1 p (.lst vs))) E
theorem de_tup {k} (ha : DA X B es aa) : DE X B (.Tuple es k pos) (dTup aa) :=
  PEi (pe_tup ha) fun σ H Q ⟨ρ, h, Q', S, q, C⟩ => ⟨ρ, h, _, S, q, fun vs h1 xs H1 q1 s1 rv1 r1 => ⟨by rw [← rv1.len]; exact q1.1, fun p e => (C.trans s1).tup r1 rv1 e q1.2⟩⟩
theorem de_lst (ha : DA X B es aa) : DE X B (.List es pos) (dLst aa) :=
  PEi (pe_lst ha) fun σ H Q ⟨ρ, h, Q', S, q, C⟩ => ⟨ρ, h, _, S, q, fun vs h1 xs H1 q1 s1 rv1 r1 => ⟨by rw [← rv1.len]; exact q1.1, fun p e => (C.trans s1).lst r1 rv1 e q1.2⟩⟩
theorem de_lstH (ha : DA X B es aa) : DE X B (.List es pos) (dLstH aa) :=
  PEi (pe_lst ha) fun σ H Q ⟨ρ, h, Q', S, q, C⟩ => ⟨ρ, h, _, S, q, fun vs h1 xs H1 q1 s1 rv1 r1 => ⟨by rw [← rv1.len]; exact q1.1, fun p e => (C.trans s1).lstH r1 rv1 e (q1.2 p (r1.nof e))⟩⟩

abbrev FA := List Val → Hv → PV → Prop
def CaL (K : PySem.W.Frag) (f : FA) (r : List V → Hp → VK → Prop) : Prop := ∀ vs xs h H Q' Q, RH K H h → RVs K H h vs xs → f vs h Q' → Cont K h H Q' Q → r xs H Q
@[simp] def dCB (f : FA) (aa : AD) : ED := fun ρ h Q E => aa ρ h (fun vs h1 => f vs h1 Q) E
theorem rd_cb {f : FA} {r : List V → Hp → VK → Prop} {K : PySem.W.Frag} (hl : CaL K f r) : ∀ σ H Q, rdE K B (dCB f aa) σ H Q → tCB r (rdA K B aa) σ H Q := fun σ H Q ⟨ρ, h, Q', S, q, C⟩ =>
  ⟨ρ, h, _, S, q, fun vs h1 xs H1 q1 s1 rv1 r1 => hl vs xs h1 H1 Q' Q r1 rv1 q1 (C.trans s1)⟩
theorem de_callB {x : Str} {id : String} {p : Pos} {f : FA} {r : List V → Hp → VK → Prop} (hc : CallR X (.builtin id) r) (hl : CaL X.K f r) (hg : Gl X x) (hm : X.mg x = none) (hv : bootBuiltins x = some (.builtin id)) (ha : DA X B (e :: es) aa) (hn : x ≠ "__name__" := by decide) (hdb : (x == ("__debug__" : Str)) = false := by decide)
    (he : starEach (e :: es) X.env = (false, eval e X.env) :: starEach es X.env := by rfl) (hpl : (backTo pos (starEach es X.env)).any (·.1) = false := by rfl) : DE X B (.Call (.Name x p) (e :: es) [] pos) (dCB f aa) :=
  PEi (pe_callB hc hg hm hv ha hn hdb he hpl) (rd_cb hl)
theorem de_callTy {x : Str} {T : String} {p : Pos} {f : FA} {r : List V → Hp → VK → Prop} (hc : CallR X (.type T) r) (hl : CaL X.K f r) (hg : Gl X x) (hm : X.mg x = none) (hv : bootBuiltins x = some (.type T)) (ha : DA X B (e :: es) aa) (hn : x ≠ "__name__" := by decide) (hdb : (x == ("__debug__" : Str)) = false := by decide)
    (he : starEach (e :: es) X.env = (false, eval e X.env) :: starEach es X.env := by rfl) (hpl : (backTo pos (starEach es X.env)).any (·.1) = false := by rfl) : DE X B (.Call (.Name x p) (e :: es) [] pos) (dCB f aa) :=
  PEi (pe_callTy hc hg hm hv ha hn hdb he hpl) (rd_cb hl)
end
end DL
namespace DL
open PySem PySem.Spec PyProof.Rows L2
@[simp] def fI (C : Int → Int → Prop) (g : Int → Int → Val) : F2 := fun v w h Q => match v, w with
  | .int i, .int j => C i j ∧ Q (g i j) h
  | _, _ => False
@[simp] def fI0 (g : Int → Int → Val) : F2 := fun v w h Q => match v, w with
  | .int i, .int j => Q (g i j) h
  | _, _ => False
section
variable {K : PySem.W.Frag}
theorem rv_bl {H : Hp} {h : Hv} {b : Bool} : RV K H h (.bl b) (.bl b) := by rw [RV]
theorem rv_int {H : Hp} {h : Hv} {b : Int} : RV K H h (.int b) (.int b) := by rw [RV]
theorem rv_str {H : Hp} {h : Hv} {b : Str} : RV K H h (.str b) (.str b) := by rw [RV]
theorem rv_non {H : Hp} {h : Hv} : RV K H h .non .non := by rw [RV]
theorem ol_I {C : Int → Int → Prop} {g : Int → Int → Int} : OpL K (fI C fun i j => .int (g i j)) (rI C fun i j => .int (g i j)) := fun v w x y h H Q' Q r rv rw' q c => by
  cases v <;> cases w <;> first | exact q.elim | (rw [RV] at rv rw'; exact ⟨_, _, rv, rw', q.1, c.val r (by rw [RV]) q.2⟩)
theorem ol_I0 {g : Int → Int → Int} : OpL K (fI0 fun i j => .int (g i j)) (rI0 fun i j => .int (g i j)) := fun v w x y h H Q' Q r rv rw' q c => by
  cases v <;> cases w <;> first | exact q.elim | (rw [RV] at rv rw'; exact ⟨_, _, rv, rw', c.val r (by rw [RV]) q⟩)
theorem ol_B0 {g : Int → Int → Bool} : OpL K (fI0 fun i j => .bl (g i j)) (rI0 fun i j => .bl (g i j)) := fun v w x y h H Q' Q r rv rw' q c => by
  cases v <;> cases w <;> first | exact q.elim | (rw [RV] at rv rw'; exact ⟨_, _, rv, rw', c.val r (by rw [RV]) q⟩)
@[simp] def fNeg : F1 := fun v h Q => match v with
  | .int i => Q (.int (-i)) h
  | _ => False
theorem ul_neg : UnL K fNeg (rU fun i => .int (-i)) := fun v x h H Q' Q r rv q c => by
  cases v <;> first | exact q.elim | (rw [RV] at rv; exact ⟨_, rv, c.val r (by rw [RV]) q⟩)
abbrev fDiv : F2 := fI CDiv fun i j => .int (i / j)
abbrev fMod : F2 := fI (fun _ j => 0 < j) fun i j => .int (i % j)
abbrev fPow : F2 := fI CPow fun i j => .int (i ^ j.toNat)
abbrev fLtI : F2 := fI0 fun i j => .bl (decide (i < j))
abbrev fGt : F2 := fI0 fun i j => .bl (decide (j < i))
abbrev fGe : F2 := fI0 fun i j => .bl (decide (j ≤ i))

@[simp] def listOf (v : Val) (h : Hv) : Option (List Val) := match v with
  | .lst vs => some vs
  | .ref a => match h a with
    | some (.lst vs) => some vs
    | _ => none
  | _ => none
theorem listOf_rel {H : Hp} {h : Hv} {v : Val} {x : V} {vs : List Val} (r : RH K H h) (rv : RV K H h v x) (e : listOf v h = some vs) : ∃ a xs, x = .ref a ∧ H a = some (.lst xs) ∧ RVs K H h vs xs := by
  cases v with
  | lst ws =>
    rw [RV] at rv
    obtain ⟨a, xs, e1, _, ha, rs⟩ := rv
    cases e
    exact ⟨a, xs, e1, ha, rs⟩
  | ref a =>
    rw [RV] at rv
    unfold listOf at e
    dsimp only at e
    split at e
    · rename_i ws hw
      cases e
      obtain ⟨xs, e1, rs⟩ := r a _ hw
      exact ⟨a, xs, rv, e1, rs⟩
    · cases e
  | _ => cases e
@[simp] def fAdd : F2 := fun v w h Q => match v, w with
  | .int i, .int j => Q (.int (i + j)) h
  | .str a, .str b => a.length + b.length ≤ sizeLine ∧ Q (.str (a ++ b)) h
  | .tup xs, .tup ys => xs.length + ys.length ≤ sizeLine ∧ Q (.tup (xs ++ ys)) h
  | .tpo xs, .tpo ys => xs ≠ [] ∧ ys ≠ [] ∧ xs.length + ys.length ≤ sizeLine ∧ Q (.tup (xs ++ ys)) h
  | .tpo xs, .tup ys => xs ≠ [] ∧ ys ≠ [] ∧ xs.length + ys.length ≤ sizeLine ∧ Q (.tup (xs ++ ys)) h
  | _, _ => match listOf v h, listOf w h with
    | some xs, some ys => xs.length + ys.length ≤ sizeLine ∧ Q (.lst (xs ++ ys)) h
    | _, _ => False
@[simp] def fAddH : F2 := fun v w h Q => match listOf v h, listOf w h with
    | some xs, some ys => xs.length + ys.length ≤ sizeLine ∧ ∀ p, h p = none → Q (.ref p) (put h p (.lst (xs ++ ys)))
    | _, _ => False
def rAddA (K : PySem.W.Frag) : R2 := fun x y H Q => rI0 (fun i j => .int (i + j)) x y H Q ∨ (∃ i j, x = .str i ∧ y = .str j ∧ i.length + j.length ≤ sizeLine ∧ Q (.str (i ++ j)) H) ∨ rCatA K x y H Q ∨ rCat x y H Q
theorem or_add {X : Cx} : OpR X (binaryOp .Add) (rAddA X.K) := op_add.or (op_add_str.or (op_catA.or op_cat))
theorem fAdd_lists {v w : Val} {x y : V} {h : Hv} {H : Hp} {Q' : PV} {Q : VK} (r : RH K H h) (rv : RV K H h v x) (rw' : RV K H h w y)
    (q : match listOf v h, listOf w h with
    | some xs, some ys => xs.length + ys.length ≤ sizeLine ∧ Q' (.lst (xs ++ ys)) h
    | _, _ => False) (c : Cont K h H Q' Q) : rCat x y H Q := by
  split at q
  · rename_i xs ys e1 e2
    obtain ⟨a, us, ea, ha, ra⟩ := listOf_rel r rv e1
    obtain ⟨b, ws, eb, hb, rb⟩ := listOf_rel r rw' e2
    exact ⟨a, b, us, ws, ea, eb, ha, hb, by rw [← ra.len, ← rb.len]; exact q.1, fun p e => c.lst r (ra.append rb) e q.2⟩
  · exact q.elim
theorem ol_add : OpL K fAdd (rAddA K) := fun v w x y h H Q' Q r rv rw' q c => by
  unfold fAdd at q
  split at q
  · rw [RV] at rv rw'; exact .inl ⟨_, _, rv, rw', c.val r (by rw [RV]) q⟩
  · rw [RV] at rv rw'; exact .inr (.inl ⟨_, _, rv, rw', q.1, c.val r (by rw [RV]) q.2⟩)
  · rename_i xs ys
    have rv0 := rv
    have rw0 := rw'
    rw [RV] at rv rw'
    obtain ⟨a, us, ea, na, ha, ra⟩ := rv
    obtain ⟨b, ws, eb, nb, hb, rb⟩ := rw'
    refine .inr (.inr (.inl ⟨a, b, us, ws, ea, eb, .of ha, .of hb, by rw [← ra.len, ← rb.len]; exact q.1, fun e => ?_, fun e1 e2 => ?_, fun _ _ p e => c.tup r (ra.append rb) e q.2⟩))
    · have : xs = [] := List.eq_nil_of_length_eq_zero (by rw [ra.len, e]; rfl)
      subst this
      rw [← eb]
      exact c.val r rw0 q.2
    · have : ys = [] := List.eq_nil_of_length_eq_zero (by rw [rb.len, e2]; rfl)
      subst this
      rw [← ea]
      have q2 := q.2
      rw [List.append_nil] at q2
      exact c.val r rv0 q2
  · rename_i xs ys
    obtain ⟨n1, n2, ql, q⟩ := q
    obtain ⟨a, us, ea, ha, ra⟩ := tpo_sqt rv
    obtain ⟨b, ws, eb, hb, rb⟩ := tpo_sqt rw'
    refine .inr (.inr (.inl ⟨a, b, us, ws, ea, eb, ha, hb, by rw [← ra.len, ← rb.len]; exact ql, fun e => ?_, fun e1 e2 => ?_, fun _ _ p e => c.tup r (ra.append rb) e q⟩))
    · exact absurd (List.eq_nil_of_length_eq_zero (by rw [ra.len, e]; rfl)) n1
    · exact absurd (List.eq_nil_of_length_eq_zero (by rw [rb.len, e2]; rfl)) n2
  · rename_i xs ys
    obtain ⟨n1, n2, ql, q⟩ := q
    obtain ⟨a, us, ea, ha, ra⟩ := tpo_sqt rv
    rw [RV] at rw'
    obtain ⟨b, ws, eb, nb, hb, rb⟩ := rw'
    refine .inr (.inr (.inl ⟨a, b, us, ws, ea, eb, ha, .of hb, by rw [← ra.len, ← rb.len]; exact ql, fun e => ?_, fun e1 e2 => ?_, fun _ _ p e => c.tup r (ra.append rb) e q⟩))
    · exact absurd (List.eq_nil_of_length_eq_zero (by rw [ra.len, e]; rfl)) n1
    · exact absurd (List.eq_nil_of_length_eq_zero (by rw [rb.len, e2]; rfl)) n2
  · exact .inr (.inr (.inr (fAdd_lists r rv rw' q c)))
mutual
def dat : Val → Option PyData
  | .non => some .none
  | .bl b => some (.bool b)
  | .int i => some (.int i)
  | .str x => some (.str x)
  | .tup vs => (dats vs).map .tuple
  | .tpo vs => (dats vs).map .tuple
  | .lst vs => (dats vs).map .list
  | .scr ns => some (.list (ns.map .int))
  | .ref _ => none
  | .ty _ => none
def dats : List Val → Option (List PyData)
  | [] => some []
  | v :: vs => match dat v, dats vs with
    | some d, some ds => some (d :: ds)
    | _, _ => none
end
theorem dpAll_ints {H : Hp} : ∀ ns : List Int, DpAll K H (ns.map V.int) (ns.map PyData.int)
  | [] => .nil
  | n :: ns => .cons (.int n) (dpAll_ints ns)
mutual
theorem dat_rel {H : Hp} {h : Hv} : ∀ {v : Val} {x : V} {d : PyData}, RV K H h v x → dat v = some d → Dp K H x d
  | .non, x, d, r, e => by rw [RV] at r; rw [dat] at e; cases e; subst r; exact .non
  | .bl b, x, d, r, e => by rw [RV] at r; rw [dat] at e; cases e; subst r; exact .bl b
  | .int b, x, d, r, e => by rw [RV] at r; rw [dat] at e; cases e; subst r; exact .int b
  | .str b, x, d, r, e => by rw [RV] at r; rw [dat] at e; cases e; subst r; exact .str b
  | .tup vs, x, d, r, e => by
    rw [RV] at r; rw [dat] at e
    obtain ⟨a, xs, e1, n, ha, rs⟩ := r
    obtain ⟨ds, e2, e3⟩ := Option.map_eq_some_iff.mp e
    subst e1 e3
    exact .tup (.of ha) (dats_rel rs e2)
  | .tpo vs, x, d, r, e => by
    rw [dat] at e
    obtain ⟨a, xs, e1, ha, rs⟩ := tpo_sqt r
    obtain ⟨ds, e2, e3⟩ := Option.map_eq_some_iff.mp e
    subst e1 e3
    exact .tup ha (dats_rel rs e2)
  | .lst vs, x, d, r, e => by
    rw [RV] at r; rw [dat] at e
    obtain ⟨a, xs, e1, n, ha, rs⟩ := r
    obtain ⟨ds, e2, e3⟩ := Option.map_eq_some_iff.mp e
    subst e1 e3
    exact .lst (.of ha) (dats_rel rs e2)
  | .scr ns, x, d, r, e => by
    obtain ⟨a, e1, q⟩ := scr_sql r
    rw [dat] at e; cases e
    subst e1
    exact .lst q (dpAll_ints ns)
  | .ref a, x, d, r, e => by rw [dat] at e; cases e
  | .ty a, x, d, r, e => by rw [dat] at e; cases e
theorem dats_rel {H : Hp} {h : Hv} : ∀ {vs : List Val} {xs : List V} {ds : List PyData}, RVs K H h vs xs → dats vs = some ds → DpAll K H xs ds
  | [], xs, ds, r, e => by rw [RVs] at r; rw [dats] at e; cases e; subst r; exact .nil
  | v :: vs, xs, ds, r, e => by
    rw [RVs] at r; rw [dats] at e
    obtain ⟨y, ys, e1, r1, r2⟩ := r
    split at e
    · rename_i d ds' h1 h2
      cases e
      subst e1
      exact .cons (dat_rel r1 h1) (dats_rel r2 h2)
    · cases e
end
def datH (v : Val) (h : Hv) : Option PyData := match v with
  | .ref a => match h a with
    | some (.lst vs) => (dats vs).map .list
    | _ => none
  | v => dat v
theorem datH_rel {H : Hp} {h : Hv} {v : Val} {x : V} {d : PyData} (r : RH K H h) (rv : RV K H h v x) (e : datH v h = some d) : Dp K H x d := by
  unfold datH at e
  split at e
  · rename_i a
    split at e
    · rename_i vs hv
      rw [RV] at rv
      obtain ⟨xs, e1, rs⟩ := r a _ hv
      obtain ⟨ds, e2, e3⟩ := Option.map_eq_some_iff.mp e
      subst rv e3
      exact .lst (.of e1) (dats_rel rs e2)
    · cases e
  · exact dat_rel rv e
@[simp] def scA : Val → Val → Option Bool
  | .non, .non => some true
  | .non, .int _ => some false
  | .int _, .non => some false
  | .non, .bl _ => some false
  | .bl _, .non => some false
  | .non, .str _ => some false
  | .str _, .non => some false
  | .int i, .int j => some (i == j)
  | .bl i, .bl j => some (i == j)
  | .str i, .str j => some (i == j)
  | .int _, .str _ => some false
  | .str _, .int _ => some false
  | .bl _, .str _ => some false
  | .str _, .bl _ => some false
  | _, _ => none
theorem scA_rel {H : Hp} {h : Hv} {v w : Val} {x y : V} {b : Bool} (rv : RV K H h v x) (rw' : RV K H h w y) (e : scA v w = some b) : scal x y = true ∧ decide (x = y) = b := by
  cases v <;> cases w <;> first | (cases e; done) | skip
  all_goals
    rw [RV] at rv
    rw [RV] at rw'
    subst rv
    subst rw'
    cases e
    refine ⟨rfl, ?_⟩
    first
      | exact dec_int
      | exact dec_bl
      | exact dec_str
      | simp
def datEq (v w : Val) (h : Hv) (Q : Bool → Prop) : Prop := ∃ d e, datH v h = some d ∧ datH w h = some e ∧ SeqAt.shaped d = true ∧ SeqAt.shaped e = true ∧ Q (PyData.eqv d e)
@[simp] def fEq : F2 := fun v w h Q => match scA v w with
  | some b => Q (.bl b) h
  | none => datEq v w h fun b => Q (.bl b) h
@[simp] def fNe : F2 := fun v w h Q => match scA v w with
  | some b => Q (.bl (!b)) h
  | none => datEq v w h fun b => Q (.bl (!b)) h
theorem or_eq {X : Cx} (hu : X.A.units + 64 < cLine) : OpR X (compareOp .Eq) (fun x y H Q => rEq x y H Q ∨ rEqD X.K x y H Q) := op_eq.or (op_eqD hu)
theorem or_ne {X : Cx} (hu : X.A.units + 64 < cLine) : OpR X (compareOp .NotEq) (fun x y H Q => rNe x y H Q ∨ rNeD X.K x y H Q) := op_ne.or (op_neD hu)
theorem ol_eq : OpL K fEq (fun x y H Q => rEq x y H Q ∨ rEqD K x y H Q) := fun v w x y h H Q' Q r rv rw' q c => by
  unfold fEq at q
  split at q
  · rename_i b e
    obtain ⟨s, d⟩ := scA_rel rv rw' e
    exact .inl ⟨s, by rw [d]; exact c.val r rv_bl q⟩
  · obtain ⟨d, e, h1, h2, s1, s2, q⟩ := q
    exact .inr ⟨d, e, datH_rel r rv h1, datH_rel r rw' h2, s1, s2, c.val r rv_bl q⟩
theorem ol_ne : OpL K fNe (fun x y H Q => rNe x y H Q ∨ rNeD K x y H Q) := fun v w x y h H Q' Q r rv rw' q c => by
  unfold fNe at q
  split at q
  · rename_i b e
    obtain ⟨s, d⟩ := scA_rel rv rw' e
    exact .inl ⟨s, by rw [d]; exact c.val r rv_bl q⟩
  · obtain ⟨d, e, h1, h2, s1, s2, q⟩ := q
    exact .inr ⟨d, e, datH_rel r rv h1, datH_rel r rw' h2, s1, s2, c.val r rv_bl q⟩

@[simp] def fIsN : F2 := fun v w h Q => match w with
  | .non => match v with
    | .non => Q (.bl true) h
    | _ => Q (.bl false) h
  | _ => False
@[simp] def fNotN : F2 := fun v w h Q => match w with
  | .non => match v with
    | .non => Q (.bl false) h
    | _ => Q (.bl true) h
  | _ => False
theorem RV.non_iff {H : Hp} {h : Hv} {v : Val} {x : V} (r : RV K H h v x) : x = .non ↔ v = .non := by
  cases v with
  | non => rw [RV] at r; exact ⟨fun _ => rfl, fun _ => r⟩
  | bl b => rw [RV] at r; subst r; exact ⟨fun z => (nomatch z), fun z => (nomatch z)⟩
  | int b => rw [RV] at r; subst r; exact ⟨fun z => (nomatch z), fun z => (nomatch z)⟩
  | str b => rw [RV] at r; subst r; exact ⟨fun z => (nomatch z), fun z => (nomatch z)⟩
  | tup b => rw [RV] at r; obtain ⟨a, xs, e, _⟩ := r; subst e; exact ⟨fun z => (nomatch z), fun z => (nomatch z)⟩
  | tpo b => rw [RV] at r; obtain ⟨a, xs, o, e, _⟩ := r; subst e; exact ⟨fun z => (nomatch z), fun z => (nomatch z)⟩
  | lst b => rw [RV] at r; obtain ⟨a, xs, e, _⟩ := r; subst e; exact ⟨fun z => (nomatch z), fun z => (nomatch z)⟩
  | scr b => rw [RV] at r; obtain ⟨a, e, _⟩ := r; subst e; exact ⟨fun z => (nomatch z), fun z => (nomatch z)⟩
  | ref b => rw [RV] at r; subst r; exact ⟨fun z => (nomatch z), fun z => (nomatch z)⟩
  | ty b => rw [RV] at r; subst r; exact ⟨fun z => (nomatch z), fun z => (nomatch z)⟩
theorem ol_isN : OpL K fIsN (fun x y H Q => y = .non ∧ Q (.bl (decide (x = .non))) H) := fun v w x y h H Q' Q r rv rw' q c => by
  cases w with
  | non =>
    refine ⟨by rw [RV] at rw'; exact rw', ?_⟩
    by_cases e : v = .non
    · subst e
      rw [decide_eq_true (rv.non_iff.mpr rfl)]
      exact c.val r (by rw [RV]) q
    · rw [decide_eq_false (fun z => e (rv.non_iff.mp z))]
      cases v <;> first | exact absurd rfl e | exact c.val r (by rw [RV]) q
  | _ => exact q.elim
theorem ol_notN : OpL K fNotN (fun x y H Q => y = .non ∧ Q (.bl (!decide (x = .non))) H) := fun v w x y h H Q' Q r rv rw' q c => by
  cases w with
  | non =>
    refine ⟨by rw [RV] at rw'; exact rw', ?_⟩
    by_cases e : v = .non
    · subst e
      rw [decide_eq_true (rv.non_iff.mpr rfl)]
      exact c.val r rv_bl q
    · rw [decide_eq_false (fun z => e (rv.non_iff.mp z))]
      cases v <;> first | exact absurd rfl e | exact c.val r rv_bl q
  | _ => exact q.elim

@[simp] def seqOf (v : Val) (h : Hv) : Option (List Val) := match v with
  | .lst vs => some vs
  | .tup vs => some vs
  | .tpo vs => some vs
  | .scr ns => some (ns.map .int)
  | .ref a => match h a with
    | some (.lst vs) => some vs
    | _ => none
  | _ => none
theorem seqOf_rel {H : Hp} {h : Hv} {v : Val} {x : V} {vs : List Val} (r : RH K H h) (rv : RV K H h v x) (e : seqOf v h = some vs) : ∃ a xs, x = .ref a ∧ (SqL K H a xs ∨ SqT K H a xs) ∧ RVs K H h vs xs := by
  cases v with
  | lst ws =>
    rw [RV] at rv
    obtain ⟨a, xs, e1, _, ha, rs⟩ := rv
    cases e
    exact ⟨a, xs, e1, .inl (.of ha), rs⟩
  | tup ws =>
    rw [RV] at rv
    obtain ⟨a, xs, e1, _, ha, rs⟩ := rv
    cases e
    exact ⟨a, xs, e1, .inr (.of ha), rs⟩
  | tpo ws =>
    obtain ⟨a, xs, e1, ha, rs⟩ := tpo_sqt rv
    cases e
    exact ⟨a, xs, e1, .inr ha, rs⟩
  | scr ns =>
    obtain ⟨a, e1, q⟩ := scr_sql rv
    cases e
    exact ⟨a, _, e1, .inl q, RVs.ofInts ns⟩
  | ref a =>
    rw [RV] at rv
    unfold seqOf at e
    dsimp only at e
    split at e
    · rename_i ws hw
      cases e
      obtain ⟨xs, e1, rs⟩ := r a _ hw
      exact ⟨a, xs, rv, .inl (.of e1), rs⟩
    · cases e
  | _ => cases e
@[simp] def flatA : Val → Bool
  | .non => true
  | .bl _ => true
  | .int _ => true
  | .str _ => true
  | _ => false
def eqA : Val → Val → Bool
  | .non, .non => true
  | .bl a, .bl b => a == b
  | .bl a, .int b => (if a then 1 else 0) == b
  | .int a, .bl b => a == (if b then 1 else 0)
  | .int a, .int b => a == b
  | .str a, .str b => a == b
  | _, _ => false
theorem flat_rel {H : Hp} {h : Hv} {v : Val} {x : V} (r : RV K H h v x) (f : flatA v = true) : flatV x = true := by
  cases v <;> first | (cases f; done) | (rw [RV] at r; subst r; rfl)
theorem eqA_rel {H : Hp} {h : Hv} {v w : Val} {x y : V} (r : RV K H h v x) (r' : RV K H h w y) (f : flatA v = true) (f' : flatA w = true) : eqV x y = eqA v w := by
  cases v <;> cases w <;> first | (cases f; done) | (cases f'; done) | (rw [RV] at r; rw [RV] at r'; subst r; subst r'; rfl)
theorem flats_rel {H : Hp} {h : Hv} : ∀ {vs : List Val} {xs : List V}, RVs K H h vs xs → vs.all flatA = true → xs.all flatV = true
  | [], xs, r, _ => by rw [RVs] at r; rw [r]; rfl
  | v :: vs, xs, r, f => by
    rw [RVs] at r
    obtain ⟨y, ys, e, r1, r2⟩ := r
    rw [List.all_cons, Bool.and_eq_true] at f
    rw [e, List.all_cons, flat_rel r1 f.1, flats_rel r2 f.2]; rfl
theorem any_eqA {H : Hp} {h : Hv} {w : Val} {y : V} (rw' : RV K H h w y) (fw : flatA w = true) : ∀ {vs : List Val} {xs : List V}, RVs K H h vs xs → vs.all flatA = true → xs.any (fun z => eqV z y) = vs.any (fun z => eqA z w)
  | [], xs, r, _ => by rw [RVs] at r; rw [r]; rfl
  | v :: vs, xs, r, f => by
    rw [RVs] at r
    obtain ⟨z, ys, e, r1, r2⟩ := r
    rw [List.all_cons, Bool.and_eq_true] at f
    rw [e, List.any_cons, List.any_cons, eqA_rel r1 rw' f.1 fw, any_eqA rw' fw r2 f.2]
def inA (v : Val) (vs : List Val) : Bool := vs.any fun z => eqA z v
@[simp] def fIn : F2 := fun v w h Q => match seqOf w h with
  | some vs => flatA v = true ∧ vs.all flatA = true ∧ Q (.bl (inA v vs)) h
  | none => False
@[simp] def fNotIn : F2 := fun v w h Q => match seqOf w h with
  | some vs => flatA v = true ∧ vs.all flatA = true ∧ Q (.bl (!inA v vs)) h
  | none => False
theorem ol_in : OpL K fIn (rIn K false) := fun v w x y h H Q' Q r rv rw' q c => by
  unfold fIn at q
  split at q
  · rename_i vs e
    obtain ⟨a, xs, e1, s, rs⟩ := seqOf_rel r rw' e
    refine ⟨a, xs, e1, s, flat_rel rv q.1, flats_rel rs q.2.1, ?_⟩
    rw [if_neg Bool.false_ne_true]
    unfold inV
    rw [any_eqA rv q.1 rs q.2.1]
    exact c.val r rv_bl q.2.2
  · exact q.elim
end
end DL
namespace DL
open PySem PySem.Spec PyProof.Rows L2
section
variable {K : PySem.W.Frag} {H : Hp} {h : Hv}
theorem atI_rel {vs : List Val} {xs : List V} {i : Int} {v : Val} (r : RVs K H h vs xs) (e : atI vs i = some v) : ∃ x, atI xs i = some x ∧ RV K H h v x := by
  unfold atI at e ⊢
  rw [r.len] at e
  cases q : ixN xs.length i with
  | none => rw [q] at e; cases e
  | some j =>
    rw [q] at e
    exact r.get e
@[simp] def fIx : F2 := fun v w h Q => match w with
  | .int i => match v with
    | .str z => z.length ≤ sizeLine ∧ (match atI z.cps.toList i with
      | some c => Q (.str ⟨#[c]⟩) h
      | none => False)
    | _ => match seqOf v h with
      | some vs => (match atI vs i with
        | some u => Q u h
        | none => False)
      | none => False
  | _ => False
theorem ol_ix : OpL K fIx (rIx K) := fun v w x y h H Q' Q r rv rw' q c => by
  cases w with
  | int i =>
    rw [RV] at rw'
    have go : (match seqOf v h with
      | some vs => (match atI vs i with
        | some u => Q' u h
        | none => False)
      | none => False) → rIx K x y H Q := fun q => by
      split at q
      · rename_i vs e
        obtain ⟨a, xs, e1, s, rs⟩ := seqOf_rel r rv e
        split at q
        · rename_i u eu
          obtain ⟨z, ez, rz⟩ := atI_rel rs eu
          rcases s with s | s
          · exact .inl ⟨a, xs, i, z, e1, rw', s, ez, c.val r rz q⟩
          · exact .inr (.inl ⟨a, xs, i, z, e1, rw', s, ez, c.val r rz q⟩)
        · exact q.elim
      · exact q.elim
    cases v with
    | str z =>
      rw [RV] at rv
      obtain ⟨hz, q⟩ := q
      split at q
      · rename_i cc ec
        exact .inr (.inr ⟨z, i, cc, rv, rw', hz, ec, c.val r rv_str q⟩)
      · exact q.elim
    | non => exact go q
    | bl b => exact go q
    | int b => exact go q
    | tup b => exact go q
    | tpo b => exact go q
    | lst b => exact go q
    | scr b => exact go q
    | ref b => exact go q
    | ty b => exact go q
  | _ => exact q.elim
theorem de_ix {X : Cx} {B : Bs} {a b : Expr} {da db : ED} {pos : Pos} (ha : DE X B a da) (hb : DE X B b db) (hs : PlainIx b := by exact fun _ _ => rfl) : DE X B (.Subscript a b pos) (dBin fIx da db) :=
  PEi (pe_ix ix_seq ha hb hs) (rd_bin ol_ix)

def cutA (xs : List Val) (lo hi : Option Int) : List Val := (xs.drop (HT.sIx xs.length 0 lo)).take (HT.sIx xs.length xs.length hi - HT.sIx xs.length 0 lo)
theorem cut_rel {vs : List Val} {xs : List V} (lo hi : Option Int) (r : RVs K H h vs xs) : RVs K H h (cutA vs lo hi) (cutV xs lo hi) := by
  unfold cutA cutV
  rw [r.len]
  exact (r.drop _).take _
theorem cut_whole {xs : List Val} {lo hi : Option Int} (e : HT.sIx xs.length 0 lo = 0 ∧ HT.sIx xs.length xs.length hi = xs.length) : cutA xs lo hi = xs := by
  unfold cutA
  rw [e.1, e.2]
  simp
abbrev OD := Sl → Hv → (Option Int → Hv → Prop) → PX → Prop
def rdO (K : PySem.W.Frag) (B : Bs) (d : OD) : TO := fun σ H Q => ∃ ρ h Q', ST K B σ H ρ h ∧ d ρ h Q' B.E ∧ ∀ i h' H', Q' i h' → Step h H h' H' → RH K H' h' → Q i H'
@[simp] def oNone : OD := fun _ h Q _ => Q none h
@[simp] def oSome (d : ED) : OD := fun ρ h Q E => d ρ h (fun v h1 => match v with
  | .int i => Q (some i) h1
  | _ => False) E
theorem do_none {X : Cx} {B : Bs} : PO X none (rdO X.K B oNone) := ⟨fun pins s σ H Q I ⟨ρ, h, Q', S, q, C⟩ => po_none.run pins s σ H Q I (C _ _ _ q (Step.refl _ _) S.r)⟩
theorem do_some {X : Cx} {B : Bs} {e : Expr} {d : ED} (he : DE X B e d) : PO X (some e) (rdO X.K B (oSome d)) := ⟨fun pins s σ H Q I ⟨ρ, h, Q', S, q, C⟩ => (po_some he).run pins s σ H Q I ⟨ρ, h, _, S, q, fun v h1 x H1 q1 s1 rv1 r1 => by
    cases v with
    | int i => rw [RV] at rv1; exact ⟨i, rv1, C _ _ _ q1 s1 r1⟩
    | _ => exact q1.elim⟩⟩
abbrev F3 := Val → Option Int → Option Int → Hv → PV → Prop
@[simp] def dSl (f : F3) (d : ED) (lo hi : OD) : ED := fun ρ h Q E => d ρ h (fun v h1 => lo ρ h1 (fun l h2 => hi ρ h2 (fun u h3 => f v l u h3 Q) E) E) E
@[simp] def fSl : F3 := fun v lo hi h Q => match v with
  | .tup vs => Q (.tup (cutA vs lo hi)) h
  | .tpo vs => if HT.sIx vs.length 0 lo = 0 ∧ HT.sIx vs.length vs.length hi = vs.length then Q (.tpo vs) h else Q (.tup (cutA vs lo hi)) h
  | .lst vs => Q (.lst (cutA vs lo hi)) h
  | .str z => z.length ≤ sizeLine ∧ Q (.str (cutS z lo hi)) h
  | .ref a => match h a with
    | some (.lst vs) => Q (.lst (cutA vs lo hi)) h
    | _ => False
  | _ => False
def rSlAll (K : PySem.W.Frag) : V → Option Int → Option Int → Hp → VK → Prop := fun x lo hi H Q => rSlL K x lo hi H Q ∨ rSlA K x lo hi H Q ∨ rSlS x lo hi H Q
theorem de_slice {X : Cx} {B : Bs} {a : Expr} {da : ED} {lo hi : Option Expr} {dl dh : OD} {pos p2 : Pos} (ha : DE X B a da) (hl : PO X lo (rdO X.K B dl)) (hu : PO X hi (rdO X.K B dh)) : DE X B (.Subscript a (.Slice lo hi none p2) pos) (dSl fSl da dl dh) := by
  refine PEi (pe_slice (r := rSlAll X.K) (sl_list.or (sl_tupA.or sl_str)) ha hl hu) fun σ H Q ⟨ρ, h, Q', S, q, C⟩ => ?_
  refine ⟨ρ, h, _, S, q, fun v h1 x H1 q1 s1 rv1 r1 => ⟨ρ, h1, _, S.step s1 r1, q1, fun l h2 H2 q2 s2 r2 => ⟨ρ, h2, _, S.step (s1.trans s2) r2, q2, fun u h3 H3 q3 s3 r3 => ?_⟩⟩⟩
  have C3 := C.trans (s1.trans (s2.trans s3))
  have rv := rv1.step (s2.trans s3)
  cases v with
  | tup vs =>
    have rv0 := rv
    rw [RV] at rv
    obtain ⟨a, xs, e1, n, ha, rs⟩ := rv
    refine .inr (.inl ⟨a, xs, e1, .of ha, fun e => ?_, fun _ p e => C3.tup r3 (cut_rel l u rs) e q3⟩)
    rw [← rs.len] at e
    have q3' : Q' (.tup (cutA vs l u)) h3 := q3
    rw [cut_whole e] at q3'
    rw [← e1]
    exact C3.val r3 rv0 q3'
  | tpo vs =>
    obtain ⟨a, xs, e1, ha, rs⟩ := tpo_sqt rv
    have q3' : if HT.sIx vs.length 0 l = 0 ∧ HT.sIx vs.length vs.length u = vs.length then Q' (.tpo vs) h3 else Q' (.tup (cutA vs l u)) h3 := q3
    refine .inr (.inl ⟨a, xs, e1, ha, fun e => ?_, fun ne p e => ?_⟩)
    · rw [← rs.len] at e
      rw [if_pos e] at q3'
      rw [← e1]
      exact C3.val r3 rv q3'
    · rw [← rs.len] at ne
      rw [if_neg ne] at q3'
      exact C3.tup r3 (cut_rel l u rs) e q3'
  | lst vs =>
    rw [RV] at rv
    obtain ⟨a, xs, e1, n, ha, rs⟩ := rv
    exact .inl ⟨a, xs, e1, .of ha, fun p e => C3.lst r3 (cut_rel l u rs) e q3⟩
  | str z =>
    rw [RV] at rv
    exact .inr (.inr ⟨z, rv, q3.1, C3.val r3 rv_str q3.2⟩)
  | ref a =>
    rw [RV] at rv
    have q3' : (match h3 a with
      | some (.lst vs) => Q' (.lst (cutA vs l u)) h3
      | _ => False) := q3
    split at q3'
    · rename_i vs hv
      obtain ⟨xs, e1, rs⟩ := r3 a _ hv
      exact .inl ⟨a, xs, rv, .of e1, fun p e => C3.lst r3 (cut_rel l u rs) e q3'⟩
    · exact q3'.elim
  | _ => exact q3.elim

def ltF : Val → Val → Option Bool
  | .int i, .int j => some (decide (i < j))
  | .str a, .str b => some (decide (a.cps.toList < b.cps.toList))
  | _, _ => none
def ltL : List Val → List Val → Option Bool
  | [], [] => some false
  | [], _ :: _ => some true
  | _ :: _, [] => some false
  | x :: xs, y :: ys => if eqA x y = true then ltL xs ys else ltF x y
@[simp] def ltA : Val → Val → Option Bool
  | .tup xs, .tup ys => if (xs.all flatA && ys.all flatA && (xs.zip ys).all fun p => (ltF p.1 p.2).isSome || eqA p.1 p.2) = true then ltL xs ys else none
  | v, w => ltF v w
end
section
variable {X : Cx}
@[simp] def fLt : F2 := fun v w h Q => match ltA v w with
  | some b => Q (.bl b) h
  | none => False
end
end DL
namespace DL
open PySem PySem.Spec PyProof.Rows L2
section
variable {K : PySem.W.Frag}
@[simp] def fInS : F2 := fun v w h Q => match v, w with
  | .str ⟨⟨[c]⟩⟩, .str z => Q (.bl (decide (c ∈ z.cps.toList))) h
  | _, _ => False
@[simp] def fNotInS : F2 := fun v w h Q => match v, w with
  | .str ⟨⟨[c]⟩⟩, .str z => Q (.bl (!decide (c ∈ z.cps.toList))) h
  | _, _ => False
@[simp] def lenA (v : Val) (h : Hv) : Option Nat := match v with
  | .str z => if z.length ≤ sizeLine then some z.length else none
  | v => (seqOf v h).map List.length
@[simp] def fLen : FA := fun vs h Q => match vs with
  | [v] => match lenA v h with
    | some n => Q (.int n) h
    | none => False
  | _ => False
theorem rvs1 {H : Hp} {h : Hv} {v : Val} {xs : List V} (r : RVs K H h [v] xs) : ∃ x, xs = [x] ∧ RV K H h v x := by
  rw [RVs] at r
  obtain ⟨y, ys, e, r1, r2⟩ := r
  rw [RVs] at r2
  subst r2
  exact ⟨y, e, r1⟩
theorem rvs2 {H : Hp} {h : Hv} {v w : Val} {xs : List V} (r : RVs K H h [v, w] xs) : ∃ x y, xs = [x, y] ∧ RV K H h v x ∧ RV K H h w y := by
  rw [RVs] at r
  obtain ⟨y, ys, e, r1, r2⟩ := r
  obtain ⟨z, e2, r3⟩ := rvs1 r2
  subst e2
  exact ⟨y, z, e, r1, r3⟩
theorem cl_len : CaL K fLen (fun xs H Q => ∃ x n, xs = [x] ∧ LenV K x H n ∧ Q (.int n) H) := fun vs xs h H Q' Q r rs q c => by
  unfold fLen at q
  split at q
  · rename_i v
    obtain ⟨x, e, rv⟩ := rvs1 rs
    split at q
    · rename_i n en
      refine ⟨x, n, e, ?_, c.val r rv_int q⟩
      unfold lenA at en
      split at en
      · rename_i z
        split at en
        · rename_i hz
          cases en
          rw [RV] at rv
          subst rv
          exact ⟨hz, rfl⟩
        · cases en
      · obtain ⟨ws, e1, e2⟩ := Option.map_eq_some_iff.mp en
        obtain ⟨a, ys, e3, s, rss⟩ := seqOf_rel r rv e1
        subst e3
        rw [← e2]
        rcases s with s | s
        · exact .inl ⟨ys, s, rss.len⟩
        · exact .inr ⟨ys, s, rss.len⟩
    · exact q.elim
  · exact q.elim
def blsOf : List Val → Option (List Bool)
  | [] => some []
  | .bl b :: vs => (blsOf vs).map (b :: ·)
  | _ :: _ => none
theorem blsOf_eq : ∀ {vs : List Val} {bs : List Bool}, blsOf vs = some bs → vs = bs.map Val.bl
  | [], bs, e => by cases e; rfl
  | v :: vs, bs, e => by
    cases v with
    | bl b =>
      obtain ⟨cs, e1, e2⟩ := Option.map_eq_some_iff.mp e
      rw [← e2, List.map_cons, blsOf_eq e1]
    | _ => cases e
@[simp] theorem blsOf_map {α : Type} (g : α → Bool) : ∀ xs : List α, blsOf (xs.map fun x => Val.bl (g x)) = some (xs.map g)
  | [] => rfl
  | x :: xs => by rw [List.map_cons, blsOf, blsOf_map g xs]; rfl
@[simp] theorem blsOf_map' (bs : List Bool) : blsOf (bs.map Val.bl) = some bs := by
  have := blsOf_map id bs
  simpa using this
@[simp] def fAll : FA := fun vs h Q => match vs with
  | [v] => match (listOf v h).bind blsOf with
    | some bs => Q (.bl (bs.all id)) h
    | none => False
  | _ => False
@[simp] def fAny : FA := fun vs h Q => match vs with
  | [v] => match (listOf v h).bind blsOf with
    | some bs => Q (.bl (bs.any id)) h
    | none => False
  | _ => False
theorem cl_all : CaL K fAll (rAll K) := fun vs xs h H Q' Q r rs q c => by
  unfold fAll at q
  split at q
  · obtain ⟨x, e, rv⟩ := rvs1 rs
    split at q
    · rename_i bs eb
      obtain ⟨ws, e1, e2⟩ := Option.bind_eq_some_iff.mp eb
      obtain ⟨a, ys, e3, ha, rss⟩ := listOf_rel r rv e1
      rw [blsOf_eq e2] at rss
      rw [rss.bls] at ha
      exact ⟨a, bs, by rw [e, e3], .of ha, c.val r rv_bl q⟩
    · exact q.elim
  · exact q.elim
theorem cl_any : CaL K fAny (rAny K) := fun vs xs h H Q' Q r rs q c => by
  unfold fAny at q
  split at q
  · obtain ⟨x, e, rv⟩ := rvs1 rs
    split at q
    · rename_i bs eb
      obtain ⟨ws, e1, e2⟩ := Option.bind_eq_some_iff.mp eb
      obtain ⟨a, ys, e3, ha, rss⟩ := listOf_rel r rv e1
      rw [blsOf_eq e2] at rss
      rw [rss.bls] at ha
      exact ⟨a, bs, by rw [e, e3], .of ha, c.val r rv_bl q⟩
    · exact q.elim
  · exact q.elim
def intsOf : List Val → Option (List Int)
  | [] => some []
  | .int b :: vs => (intsOf vs).map (b :: ·)
  | _ :: _ => none
theorem intsOf_eq : ∀ {vs : List Val} {bs : List Int}, intsOf vs = some bs → vs = bs.map Val.int
  | [], bs, e => by cases e; rfl
  | v :: vs, bs, e => by
    cases v with
    | int b =>
      obtain ⟨cs, e1, e2⟩ := Option.map_eq_some_iff.mp e
      rw [← e2, List.map_cons, intsOf_eq e1]
    | _ => cases e
@[simp] theorem intsOf_map {α : Type} (g : α → Int) : ∀ xs : List α, intsOf (xs.map fun x => Val.int (g x)) = some (xs.map g)
  | [] => rfl
  | x :: xs => by rw [List.map_cons, intsOf, intsOf_map g xs]; rfl
@[simp] theorem intsOf_map' (bs : List Int) : intsOf (bs.map Val.int) = some bs := by
  have := intsOf_map id bs
  simpa using this
@[simp] def fSum : FA := fun vs h Q => match vs with
  | [v] => match (listOf v h).bind intsOf with
    | some bs => Q (.int bs.sum) h
    | none => False
  | _ => False
theorem cl_sum : CaL K fSum (rSum K) := fun vs xs h H Q' Q r rs q c => by
  unfold fSum at q
  split at q
  · obtain ⟨x, e, rv⟩ := rvs1 rs
    split at q
    · rename_i bs eb
      obtain ⟨ws, e1, e2⟩ := Option.bind_eq_some_iff.mp eb
      obtain ⟨a, ys, e3, ha, rss⟩ := listOf_rel r rv e1
      rw [intsOf_eq e2] at rss
      rw [rss.ints] at ha
      exact ⟨a, bs, by rw [e, e3], .of ha, c.val r rv_int q⟩
    · exact q.elim
  · exact q.elim
@[simp] def fTuple : FA := fun vs h Q => match vs with
  | [.tpo ws] => Q (.tpo ws) h
  | [v] => match seqOf v h with
    | some ws => Q (.tup ws) h
    | none => False
  | _ => False
theorem sq_inj {H : Hp} {h : Hv} {v : Val} {x : V} {ws : List Val} (r : RH K H h) (rv : RV K H h v x) (e : seqOf v h = some ws) (nt : ∀ us, v ≠ .tpo us) :
    (∃ a xs, x = .ref a ∧ SqL K H a xs ∧ RVs K H h ws xs) ∨ (v = .tup ws ∧ ∃ a xs, x = .ref a ∧ SqT K H a xs ∧ RVs K H h ws xs) := by
  cases v with
  | tup us =>
    rw [RV] at rv
    obtain ⟨a, xs, e1, _, ha, rs⟩ := rv
    cases e
    exact .inr ⟨rfl, a, xs, e1, .of ha, rs⟩
  | tpo us => exact absurd rfl (nt us)
  | lst us =>
    rw [RV] at rv
    obtain ⟨a, xs, e1, _, ha, rs⟩ := rv
    cases e
    exact .inl ⟨a, xs, e1, .of ha, rs⟩
  | scr ns =>
    obtain ⟨a, e1, q⟩ := scr_sql rv
    cases e
    exact .inl ⟨a, _, e1, q, RVs.ofInts ns⟩
  | ref a =>
    rw [RV] at rv
    unfold seqOf at e
    dsimp only at e
    split at e
    · rename_i us hw
      cases e
      obtain ⟨xs, e1, rs⟩ := r a _ hw
      exact .inl ⟨a, xs, rv, .of e1, rs⟩
    · cases e
  | _ => cases e
theorem cl_tuple : CaL K fTuple (fun xs H Q => ∃ p ys, xs = [.ref p] ∧ ((SqL K H p ys ∧ ∀ l, H l = none → Q (.ref l) (upd H l (.tup ys))) ∨ (SqT K H p ys ∧ Q (.ref p) H))) := fun vs xs h H Q' Q r rs q c => by
  unfold fTuple at q
  split at q
  · obtain ⟨x, e, rv⟩ := rvs1 rs
    obtain ⟨a, ys, e3, ha, rss⟩ := tpo_sqt rv
    refine ⟨a, ys, by rw [e, e3], .inr ⟨ha, ?_⟩⟩
    rw [← e3]
    exact c.val r rv q
  · rename_i nt
    obtain ⟨x, e, rv⟩ := rvs1 rs
    split at q
    · rename_i v ws ew
      rcases sq_inj r rv ew (fun us z => nt us (by rw [z])) with ⟨a, ys, e3, ha, rss⟩ | ⟨e0, a, ys, e3, ha, rss⟩
      · exact ⟨a, ys, by rw [e, e3], .inl ⟨ha, fun l hl => c.tup r rss hl q⟩⟩
      · subst e0
        refine ⟨a, ys, by rw [e, e3], .inr ⟨ha, ?_⟩⟩
        rw [← e3]
        exact c.val r rv q
    · exact q.elim
  · exact q.elim
@[simp] def fList : FA := fun vs h Q => match vs with
  | [v] => match seqOf v h with
    | some ws => Q (.lst ws) h
    | none => False
  | _ => False
@[simp] def fListH : FA := fun vs h Q => match vs with
  | [v] => match seqOf v h with
    | some ws => ∀ p, h p = none → Q (.ref p) (put h p (.lst ws))
    | none => False
  | _ => False
theorem cl_listH : CaL K fListH (fun xs H Q => ∃ p ys, xs = [.ref p] ∧ (SqL K H p ys ∨ SqT K H p ys) ∧ ∀ l, H l = none → Q (.ref l) (upd H l (.lst ys))) := fun vs xs h H Q' Q r rs q c => by
  unfold fListH at q
  split at q
  · obtain ⟨x, e, rv⟩ := rvs1 rs
    split at q
    · rename_i v ws ew
      obtain ⟨a, ys, e3, s, rss⟩ := seqOf_rel r rv ew
      exact ⟨a, ys, by rw [e, e3], s, fun l hl => c.lstH r rss hl (q l (r.nof hl))⟩
    · exact q.elim
  · exact q.elim
@[simp] def tyN (v : Val) (h : Hv) : Option String := match v with
  | .non => some "NoneType"
  | .bl _ => some "bool"
  | .int _ => some "int"
  | .str _ => some "str"
  | .tup _ => some "tuple"
  | .tpo _ => some "tuple"
  | .lst _ => some "list"
  | .scr _ => none
  | .ref a => match h a with
    | some (.lst _) => some "list"
    | some (.dK _) => some "dict"
    | some (.dT _) => some "dict"
    | _ => none
  | .ty _ => none
@[simp] def isT (t T : String) : Bool := t == T || (t == "bool" && T == "int")
theorem kitB_is : (["NoneType", "bool", "int", "str", "tuple", "list", "dict"].all fun t => ["int", "bool", "str", "tuple", "list"].all fun T => kitB t T == some (isT t T)) = true := by decide +kernel
theorem kitB_eq {t T : String} (h1 : t ∈ ["NoneType", "bool", "int", "str", "tuple", "list", "dict"]) (h2 : T ∈ ["int", "bool", "str", "tuple", "list"]) : kitB t T = some (isT t T) := by
  have a := List.all_eq_true.mp kitB_is t h1
  have b := List.all_eq_true.mp a T h2
  exact beq_iff_eq.mp b
theorem tyN_rel {H : Hp} {h : Hv} {v : Val} {x : V} {t : String} (r : RH K H h) (rv : RV K H h v x) (e : tyN v h = some t) : TyX K H x (.type t) ∧ t ∈ ["NoneType", "bool", "int", "str", "tuple", "list", "dict"] := by
  cases v with
  | non => rw [RV] at rv; subst rv; cases e; exact ⟨.base .non, by decide⟩
  | bl b => rw [RV] at rv; subst rv; cases e; exact ⟨.base (.bl b), by decide⟩
  | int b => rw [RV] at rv; subst rv; cases e; exact ⟨.base (.int b), by decide⟩
  | str b => rw [RV] at rv; subst rv; cases e; exact ⟨.base (.str b), by decide⟩
  | tup vs =>
    rw [RV] at rv
    obtain ⟨a, xs, e1, _, ha, rs⟩ := rv
    subst e1; cases e
    exact ⟨.base (.tup ha), by decide⟩
  | tpo vs =>
    rw [RV] at rv
    obtain ⟨a, xs, o, e1, _, ha, _, rs⟩ := rv
    subst e1; cases e
    exact ⟨.fTuple ha, by decide⟩
  | lst vs =>
    rw [RV] at rv
    obtain ⟨a, xs, e1, _, ha, rs⟩ := rv
    subst e1; cases e
    exact ⟨.base (.lst ha), by decide⟩
  | scr ns => cases e
  | ref a =>
    rw [RV] at rv
    subst rv
    unfold tyN at e
    dsimp only at e
    split at e
    · rename_i vs hv
      obtain ⟨xs, e1, rs⟩ := r a _ hv
      cases e
      exact ⟨.base (.lst e1), by decide⟩
    · rename_i vs hv
      obtain ⟨xs, e1, rs⟩ := r a _ hv
      cases e
      exact ⟨.base (.dK e1), by decide⟩
    · rename_i vs hv
      obtain ⟨xs, e1, rs⟩ := r a _ hv
      cases e
      exact ⟨.base (.dT e1), by decide⟩
    · cases e
  | ty n => cases e
@[simp] def fIsi : FA := fun vs h Q => match vs with
  | [v, .ty T] => match tyN v h with
    | some t => T ∈ ["int", "bool", "str", "tuple", "list"] ∧ Q (.bl (isT t T)) h
    | none => False
  | _ => False
theorem cl_isi : CaL K fIsi (rIsi K) := fun vs xs h H Q' Q r rs q c => by
  unfold fIsi at q
  split at q
  · rename_i v T
    obtain ⟨x, y, e, rv, rw'⟩ := rvs2 rs
    split at q
    · rename_i t et
      obtain ⟨hT, q⟩ := q
      obtain ⟨ty, ht⟩ := tyN_rel r rv et
      rw [RV] at rw'
      exact ⟨x, y, .type t, .type T, isT t T, e, by rw [rw']; exact .ty T, ty, kit_ty (kitB_eq ht hT), c.val r rv_bl q⟩
    · exact q.elim
  · exact q.elim
end
abbrev PF := Str → Option Val → Hv → Prop
abbrev SpF := List Val → Hv → PV → PF → Prop
def PLd (K : PySem.W.Frag) (H : Hp) (h : Hv) (d : Option Addr) (pl : Option Val) : Prop := (d = none ∧ pl = none) ∨ ∃ a x v, d = some a ∧ pl = some v ∧ H a = some (.xd [("land", x)]) ∧ h a = none ∧ RV K H h v x
theorem PLd.step {K : PySem.W.Frag} {H H' : Hp} {h h' : Hv} {d : Option Addr} {pl : Option Val} (x : PLd K H h d pl) (s : Step h H h' H') : PLd K H' h' d pl := by
  rcases x with x | ⟨a, x, v, e1, e2, ha, n, rv⟩
  · exact .inl x
  · have z := s.n a _ ha n (fun _ z => nomatch z)
    exact .inr ⟨a, x, v, e1, e2, z.1, z.2, rv.step s⟩
def ContX (K : PySem.W.Frag) (mg : Str → Option Value) (h : Hv) (H : Hp) (E' : PF) (E : XK) : Prop := ∀ nm pl h' cls d H', E' nm pl h' → Step h H h' H' → RH K H' h' → mg nm = some cls → PLd K H' h' d pl → E cls d H'
def spA (K : PySem.W.Frag) (mg : Str → Option Value) (n : Nat) (fs : SpF) : Sp := fun vs H Q E => ∃ as h Q' E', RVs K H h as vs ∧ RH K H h ∧ as.length = n ∧ fs as h Q' E' ∧ Cont K h H Q' Q ∧ ContX K mg h H E' E
def wx (mg : Str → Option Value) (K : PySem.W.Frag) (B : Bs) : WX := fun cls d σ H => ∃ nm pl ρ h, mg nm = some cls ∧ ST K B σ H ρ h ∧ PLd K H h d pl ∧ B.E nm pl ρ h
def TakesB (X : Cx) (B : Bs) : Prop := Takes X (wx X.mg X.K B)
def Fn (P : Program) (w : World) (K : PySem.W.Frag) (mg : Str → Option Value) (base : Heap) (A : Around) (x : Str) (n : Nat) (fs : SpF) : Prop :=
  ∃ (k : Nat) (f : Addr) (fd : FuncData) (ps : List Str), FnOk P w K mg base (L2.CX P w) k f fd ps (spA K mg n fs) ∧ Room k A ∧ mg x = some (.ref f) ∧ PySem.W.keepIn K (.ref f) = true ∧ Binds K fd ps []
@[simp] def dCall (n : Nat) (fs : SpF) (aa : AD) : ED := fun ρ h Q E => aa ρ h (fun vs h1 => vs.length = n ∧ fs vs h1 Q (fun nm pl h' => E nm pl ρ h')) E
theorem rd_call {K : PySem.W.Frag} {mg : Str → Option Value} {B : Bs} {n : Nat} {fs : SpF} {aa : AD} : ∀ σ H Q, rdE K B (dCall n fs aa) σ H Q → tCallS (spA K mg n fs) (WE (wx mg K B)) (rdA K B aa) σ H Q := fun σ H Q ⟨ρ, h, Q', S, q, C⟩ =>
  ⟨ρ, h, _, S, q, fun vs h1 xs H1 q1 s1 rv1 r1 => ⟨vs, h1, Q', fun nm pl h' => B.E nm pl ρ h', rv1, r1, q1.1, q1.2, C.trans s1, fun nm pl h' cls d H' hE s2 r2 hm pld => ⟨nm, pl, ρ, h', hm, S.step (s1.trans s2) r2, pld, hE⟩⟩⟩
theorem de_call {X : Cx} {B : Bs} {x : Str} {n : Nat} {fs : SpF} {p pos : Pos} {e : Expr} {es : List Expr} {aa : AD} (F : Fn X.prog X.w X.K X.mg X.base X.A x n fs) (tk : TakesB X B) (ha : DA X B (e :: es) aa) (hg : Gl X x := by rfl)
    (hdb : (x == ("__debug__" : Str)) = false := by decide) (he : starEach (e :: es) X.env = (false, eval e X.env) :: starEach es X.env := by rfl) (hpl : (backTo pos (starEach es X.env)).any (·.1) = false := by rfl) :
    DE X B (.Call (.Name x p) (e :: es) [] pos) (dCall n fs aa) := by
  obtain ⟨k, f, fd, ps, G, hr, hm, hk, hb⟩ := F
  exact PEi (pe_callS (E := WE (wx X.mg X.K B)) G hr hg hm hk hb (fun σ => passAt tk σ) ha hdb he hpl) rd_call
theorem de_call0 {X : Cx} {B : Bs} {x : Str} {fs : SpF} {p pos : Pos} (F : Fn X.prog X.w X.K X.mg X.base X.A x 0 fs) (tk : TakesB X B) (hg : Gl X x := by rfl)
    (hdb : (x == ("__debug__" : Str)) = false := by decide) : DE X B (.Call (.Name x p) [] [] pos) (dCall 0 fs aNil) := by
  obtain ⟨k, f, fd, ps, G, hr, hm, hk, hb⟩ := F
  refine ⟨fun pins s σ H Q I h => ?_⟩
  refine wpAny_Call_Name_kw (ld_glob I hg hm ?_ hdb)
  refine PySem.W.callWith_K0 I.kIn hk (run_fnS (us := []) (vs := []) (E := WE (wx X.mg X.K B)) G hr hb (passAt tk σ) I .nil ?_)
  obtain ⟨ρ, h, Q', S, q, C⟩ := h
  exact ⟨[], h, Q', fun nm pl h' => B.E nm pl ρ h', RVs.nil, S.r, rfl, q.2, C, fun nm pl h' cls d H' hE s2 r2 hm pld => ⟨nm, pl, ρ, h', hm, S.step s2 r2, pld, hE⟩⟩
theorem takesF {X : Cx} {h0 : Hv} {H0 : Hp} : TakesB X ⟨fun _ _ _ _ => False, h0, H0⟩ := fun u s' ⟨a, B, sI, pins, σ, H, cls, d, e, I, nb, up, sky, na, os, ag, w⟩ => by
  obtain ⟨_, _, _, _, _, _, _, z⟩ := w
  exact z.elim
end DL
namespace DL
open PySem PySem.Spec PyProof.Rows L2
section
variable {X : Cx} {B : Bs} {st : Stmt} {rest a b : List Stmt} {d d1 d2 : SD} {e : Expr} {de : ED} {pos : Pos} {c : Expr} {tc : TD}
@[simp] def sNext : SD := fun ρ h D _ => D.nx ρ h
@[simp] def sSeq (d1 d2 : SD) : SD := fun ρ h D E => d1 ρ h { D with nx := fun ρ' h' => d2 ρ' h' D E } E
theorem dss_nil : DSs X B [] sNext := PSsi pss_nil fun D σ H ⟨ρ, h, D', S, q, C⟩ => C.nx _ _ _ _ q (Step.refl _ _) S
theorem dss_one (hs : DS X B st d) : DSs X B [st] d := pss_one hs
theorem dss_cons (h1 : DS X B st d1) (h2 : DSs X B rest d2) : DSs X B (st :: rest) (sSeq d1 d2) :=
  PSsi (pss_cons h1 h2) fun D σ H ⟨ρ, h, D', S, q, C⟩ => ⟨ρ, h, _, S, q, ⟨fun ρ1 h1 σ1 H1 q1 s1 S1 => ⟨ρ1, h1, D', S1, q1, C.trans s1⟩, C.rt, C.bk, C.ct⟩⟩
@[simp] def sBreak : SD := fun ρ h D _ => D.bk ρ h
@[simp] def sCont : SD := fun ρ h D _ => D.ct ρ h
@[simp] def sExpr (de : ED) : SD := fun ρ h D E => de ρ h (fun _ h1 => D.nx ρ h1) E
theorem ds_expr (he : DE X B e de) (hs : swapsWith e none pos.line X.env = pure false := by rfl) : DS X B (.Expr e pos) (sExpr de) :=
  PSi (ps_expr he hs) fun D σ H ⟨ρ, h, D', S, q, C⟩ => ⟨ρ, h, _, S, q, fun v h1 x H1 q1 s1 rv1 r1 => C.nx _ _ _ _ q1 s1 (S.step s1 r1)⟩
@[simp] def sRet (de : ED) : SD := fun ρ h D E => de ρ h D.rt E
theorem ds_ret (he : DE X B e de) : DS X B (.Return (some e) pos) (sRet de) :=
  PSi (ps_ret he) fun D σ H ⟨ρ, h, D', S, q, C⟩ => ⟨ρ, h, _, S, q, C.rt⟩
@[simp] def sRetN : SD := fun ρ h D _ => D.rt .non h
@[simp] def sIf (tc : TD) (d1 d2 : SD) : SD := fun ρ h D E => tc ρ h (fun k h1 => if k = true then d1 ρ h1 D E else d2 ρ h1 D E) E
theorem ds_if (hc : DT X B c tc) (ha : DSs X B a d1) (hb : DSs X B b d2) : DS X B (.If c a b pos) (sIf tc d1 d2) :=
  PSi (ps_if hc ha hb) fun D σ H ⟨ρ, h, D', S, q, C⟩ => ⟨ρ, h, _, S, q, fun k h1 H1 q1 s1 r1 => by
    cases k with
    | true => rw [if_pos rfl] at q1 ⊢; exact ⟨ρ, h1, D', S.step s1 r1, q1, C.trans s1⟩
    | false => rw [if_neg Bool.false_ne_true] at q1 ⊢; exact ⟨ρ, h1, D', S.step s1 r1, q1, C.trans s1⟩⟩
@[simp] def sSet (i : Nat) (de : ED) : SD := fun ρ h D E => de ρ h (fun v h1 => D.nx (ρ.set i (some v)) h1) E
theorem rd_set {K : PySem.W.Frag} {i : Nat} : ∀ D σ H, rdS K B (sSet i de) D σ H → tAsg (rdE K B de) (gName i) D σ H := fun D σ H ⟨ρ, h, D', S, q, C⟩ =>
  ⟨ρ, h, _, S, q, fun v h1 x H1 q1 s1 rv1 r1 => C.nx _ _ _ _ q1 s1 ((S.step s1 r1).set i rv1)⟩
theorem ds_set {i : Nat} {x : Str} {pos' : Pos} (hN : X.N.Nodup) (hi : X.N[i]? = some x) (hx : Loc X.env.scope x) (he : DE X B e de) (hs : swapsWith e (some (.Name x pos')) pos.line X.env = pure false := by rfl) (hf : X.fn x = true ∨ X.env.scope.names.lookup x = some .local := by first | exact .inl rfl | exact .inr rfl | assumption) :
    DS X B (.Assign [.Name x pos'] e pos) (sSet i de) := PSi (ps_set hN hi hx he hs hf) rd_set
@[simp] def sAug (i : Nat) (f : F2) (de : ED) : SD := fun ρ h D E => match ρ[i]? with
  | some (some v) => de ρ h (fun w h1 => f v w h1 (fun z h2 => D.nx (ρ.set i (some z)) h2)) E
  | _ => False
theorem ds_augI {i : Nat} {x : Str} {op : Operator} {f : F2} {r : R2} {pos' : Pos} (hN : X.N.Nodup) (hi : X.N[i]? = some x) (hx : Loc X.env.scope x) (he : DE X B e de) (ho : OpR X (inplaceOp op) r) (hl : OpL X.K f r) (hf : X.fn x = true ∨ X.env.scope.names.lookup x = some .local := by first | exact .inl rfl | exact .inr rfl | assumption) :
    DS X B (.AugAssign (.Name x pos') op e pos) (sAug i f de) :=
  PSi (ps_aug (ti := r) hN hi hx he ho hf) fun D σ H ⟨ρ, h, D', S, q, C⟩ => by
    unfold sAug at q
    split at q
    · rename_i v ev
      obtain ⟨x, ex, rx⟩ := S.s.2 i v ev
      refine ⟨x, ex, ρ, h, _, S, q, fun w h1 y H1 q1 s1 rv1 r1 => ?_⟩
      exact hl v w x y h1 H1 _ _ r1 (rx.step s1) rv1 q1 fun z h2 zx H2 q2 s2 rv2 r2 => C.nx _ _ _ _ q2 (s1.trans s2) ((S.step (s1.trans s2) r2).set i rv2)
    · exact q.elim
def whileN (tc : TD) (d : SD) : Nat → Sl → Hv → AE → PX → Prop
  | 0, _, _, _, _ => False
  | n + 1, ρ, h, D, E => tc ρ h (fun k h1 => if k = true then d ρ h1 { D with nx := fun ρ' h' => whileN tc d n ρ' h' D E, ct := fun ρ' h' => whileN tc d n ρ' h' D E, bk := D.nx } E else D.nx ρ h1) E
def sWhile (tc : TD) (d : SD) : SD := fun ρ h D E => ∃ n, whileN tc d n ρ h D E
theorem ds_while (hp : PassesOwn (model X.prog X.w) X.A X.env X.xe) (hc : DT X B c tc) (hb : DSs X B a d) : DS X B (.While c a [] pos) (sWhile tc d) := by
  refine PSi (ps_while hp hc hb) fun D σ H ⟨ρ, h, D', S, ⟨n, q⟩, C⟩ => ?_
  refine ⟨fun m σ1 H1 => ∃ ρ1 h1, ST X.K B σ1 H1 ρ1 h1 ∧ Step h H h1 H1 ∧ whileN tc d m ρ1 h1 D' B.E, ⟨n, ρ, h, S, Step.refl _ _, q⟩, ?_⟩
  rintro m σ1 H1 ⟨ρ1, h1, S1, s1, q1⟩
  cases m with
  | zero => exact q1.elim
  | succ m =>
    refine ⟨ρ1, h1, _, S1, q1, fun k h2 H2 q2 s2 r2 => ?_⟩
    have S2 := S1.step s2 r2
    cases k with
    | false =>
      rw [if_neg Bool.false_ne_true] at q2
      exact iteF (C.nx _ _ _ _ q2 (s1.trans s2) S2)
    | true =>
      rw [if_pos rfl] at q2
      refine iteT ⟨fun σ3 H3 => ∃ ρ3 h3, ST X.K B σ3 H3 ρ3 h3 ∧ Step h H h3 H3 ∧ whileN tc d m ρ3 h3 D' B.E, fun σ3 H3 z => ⟨m, Nat.lt_succ_self m, z⟩, ρ1, h2, _, S2, q2, ?_⟩
      have s12 := s1.trans s2
      exact ⟨fun ρ3 h3 σ3 H3 q3 s3 S3 => ⟨ρ3, h3, S3, s12.trans s3, q3⟩, fun v h3 x H3 q3 s3 => C.rt v h3 x H3 q3 (s12.trans s3), fun ρ3 h3 σ3 H3 q3 s3 S3 => C.nx _ _ _ _ q3 (s12.trans s3) S3, fun ρ3 h3 σ3 H3 q3 s3 S3 => ⟨ρ3, h3, S3, s12.trans s3, q3⟩⟩
end
inductive Tg where
  | nm (i : Nat) | tp (ts : List Tg)
mutual
@[simp] def bT : Tg → Val → Sl → Option Sl
  | .nm i, v, ρ => some (ρ.set i (some v))
  | .tp ts, .tup vs, ρ => bTs ts vs ρ
  | .tp _, _, _ => none
@[simp] def bTs : List Tg → List Val → Sl → Option Sl
  | [], [], ρ => some ρ
  | t :: ts, v :: vs, ρ => match bT t v ρ with
    | some ρ' => bTs ts vs ρ'
    | none => none
  | _, _, _ => none
end
mutual
def gT (K : PySem.W.Frag) : Tg → TG
  | .nm i => gName i
  | .tp ts => gTup K ts.length (gTs K ts)
def gTs (K : PySem.W.Frag) : List Tg → TGs
  | [] => gNil
  | t :: ts => gCons (gT K t) (gTs K ts)
end
mutual
def slots : Tg → List Nat
  | .nm i => [i]
  | .tp ts => slotsL ts
def slotsL : List Tg → List Nat
  | [] => []
  | t :: ts => slots t ++ slotsL ts
end
theorem wipe_set {σ : L2.St} {i : Nat} {x : Option V} : ∀ {vs : List Nat}, i ∈ vs → wipe (σ.set i x) vs = wipe σ vs
  | v :: vs, h => by
    unfold wipe
    by_cases e : i ∈ vs
    · rw [wipe_set e]
    · have : i = v := by
        rcases List.mem_cons.mp h with z | z
        · exact z
        · exact absurd z e
      subst this
      have aux : ∀ (ws : List Nat) (τ : L2.St), i ∉ ws → wipe (τ.set i x) ws = (wipe τ ws).set i x := by
        intro ws
        induction ws with
        | nil => intro τ _; rfl
        | cons w ws ih =>
          intro τ hw
          unfold wipe
          rw [ih τ (fun z => hw (List.mem_cons_of_mem _ z)), List.set_comm _ _ (fun z => hw (by rw [z]; exact List.mem_cons_self))]
      rw [aux vs σ e, List.set_set]
section
variable {K : PySem.W.Frag} {H : Hp} {h : Hv}
mutual
theorem gT_rel : ∀ {t : Tg} {v : Val} {x : V} {ρ ρ' : Sl} {σ : L2.St}, RV K H h v x → RS K H h ρ σ → bT t v ρ = some ρ' → ∀ Q : L2.St → Hp → Prop, (∀ σ', RS K H h ρ' σ' → (∀ ws, (∀ i ∈ slots t, i ∈ ws) → wipe σ' ws = wipe σ ws) → Q σ' H) → gT K t x σ H Q
  | .nm i, v, x, ρ, ρ', σ, rv, rs, e, Q, k => by
    rw [bT] at e; cases e
    rw [gT]
    exact k _ (rs.set i rv) fun ws hw => wipe_set (hw i (by rw [slots]; exact List.mem_singleton_self _))
  | .tp ts, v, x, ρ, ρ', σ, rv, rs, e, Q, k => by
    cases v with
    | tup vs =>
      rw [bT] at e
      rw [RV] at rv
      obtain ⟨a, xs, e1, n, ha, rss⟩ := rv
      rw [gT]
      refine ⟨a, xs, e1, .of ha, ?_, gTs_rel rss rs e Q fun σ' r' hw => k σ' r' fun ws h1 => hw ws fun i hi => h1 i (by rw [slots]; exact hi)⟩
      rw [← rss.len]
      exact bTs_len e
    | _ => rw [bT] at e; cases e; (try (intros; contradiction))
theorem gTs_rel : ∀ {ts : List Tg} {vs : List Val} {xs : List V} {ρ ρ' : Sl} {σ : L2.St}, RVs K H h vs xs → RS K H h ρ σ → bTs ts vs ρ = some ρ' → ∀ Q : L2.St → Hp → Prop, (∀ σ', RS K H h ρ' σ' → (∀ ws, (∀ i ∈ slotsL ts, i ∈ ws) → wipe σ' ws = wipe σ ws) → Q σ' H) → gTs K ts xs σ H Q
  | [], [], xs, ρ, ρ', σ, rv, rs, e, Q, k => by
    rw [bTs] at e; cases e
    rw [RVs] at rv
    rw [gTs]
    exact ⟨rv, k _ rs fun _ _ => rfl⟩
  | [], _ :: _, xs, ρ, ρ', σ, rv, rs, e, Q, k => by simp at e
  | _ :: _, [], xs, ρ, ρ', σ, rv, rs, e, Q, k => by simp at e
  | t :: ts, v :: vs, xs, ρ, ρ', σ, rv, rs, e, Q, k => by
    rw [bTs] at e
    rw [RVs] at rv
    obtain ⟨y, ys, e1, r1, r2⟩ := rv
    split at e
    · rename_i ρ1 e2
      rw [gTs]
      refine ⟨y, ys, e1, gT_rel r1 rs e2 _ fun σ1 rs1 w1 => gTs_rel r2 rs1 e Q fun σ2 rs2 w2 => k σ2 rs2 fun ws hw => ?_⟩
      rw [w2 ws (fun i hi => hw i (by rw [slotsL]; exact List.mem_append_right _ hi)), w1 ws (fun i hi => hw i (by rw [slotsL]; exact List.mem_append_left _ hi))]
    · cases e
theorem bTs_len : ∀ {ts : List Tg} {vs : List Val} {ρ ρ' : Sl}, bTs ts vs ρ = some ρ' → vs.length = ts.length
  | [], [], _, _, _ => rfl
  | [], _ :: _, _, _, e => by simp at e
  | _ :: _, [], _, _, e => by simp at e
  | t :: ts, v :: vs, ρ, ρ', e => by
    rw [bTs] at e
    split at e
    · rename_i ρ1 e2
      rw [List.length_cons, List.length_cons, bTs_len e]
    · cases e
end
end
section
variable {X : Cx} {B : Bs} {e tg : Expr} {de : ED} {pos : Pos} {t : Tg}
@[simp] def sAsg (t : Tg) (de : ED) : SD := fun ρ h D E => de ρ h (fun v h1 => match bT t v ρ with
  | some ρ' => D.nx ρ' h1
  | none => False) E
theorem ds_asg (he : DE X B e de) (hg : PG X tg (gT X.K t)) (hs : swapsWithSole [tg] e pos.line X.env = pure false := by rfl) (hw : swappedStores [tg] e X.env = pure none := by rfl)
    (h1 : (assignEach [tg] X.env).map (·.2) = [assign tg X.env] := by rfl) : DS X B (.Assign [tg] e pos) (sAsg t de) :=
  PSi (ps_asg he hg hs hw h1) fun D σ H ⟨ρ, h, D', S, q, C⟩ => ⟨ρ, h, _, S, q, fun v h1 x H1 q1 s1 rv1 r1 => by
    have S1 := S.step s1 r1
    split at q1
    · rename_i ρ' e1
      exact gT_rel rv1 S1.s e1 _ fun σ' rs' _ => C.nx _ _ _ _ q1 s1 ⟨rs', r1, S1.b⟩
    · exact q1.elim⟩
@[simp] def sPar (is : List Nat) (aa : AD) : SD := fun ρ h D E => aa ρ h (fun vs h1 => match bTs (is.map Tg.nm) vs ρ with
  | some ρ' => D.nx ρ' h1
  | none => False) E
theorem ds_par2 {i j : Nat} {x y : Str} {a b : Expr} {aa : AD} {px py pt : Pos} {kt k2 pt2} (hc : X.calm = true) (hN : X.N.Nodup) (hi : X.N[i]? = some x) (hj : X.N[j]? = some y) (hij : i ≠ j)
    (hx : X.env.scope.names.lookup x = some .local) (hy : X.env.scope.names.lookup y = some .local) (ha : DA X B [a, b] aa)
    (hw : swappedStores [.Tuple [.Name x px, .Name y py] kt pt] (.Tuple [a, b] k2 pt2) X.env = pure (some [x, y]) := by rfl)
    (hs : swapsWithSole [.Tuple [.Name x px, .Name y py] kt pt] (.Tuple [a, b] k2 pt2) pos.line X.env = pure false := by rfl) :
    DS X B (.Assign [.Tuple [.Name x px, .Name y py] kt pt] (.Tuple [a, b] k2 pt2) pos) (sPar [i, j] aa) :=
  PSi (ps_par hc hN hi hj hij hx hy ha hw hs) fun D σ H ⟨ρ, h, D', S, q, C⟩ => ⟨ρ, h, _, S, q, fun vs h1 xs H1 q1 s1 rv1 r1 => by
    have S1 := S.step s1 r1
    match vs, q1 with
    | [v, w], q1 =>
      obtain ⟨x, y, e, rx, ry⟩ := rvs2 rv1
      exact ⟨x, y, e, C.nx _ _ _ _ q1 s1 ((S1.set i rx).set j ry)⟩
    | [], q1 => exact q1.elim
    | [_], q1 => exact q1.elim
    | _ :: _ :: _ :: _, q1 => exact q1.elim⟩
theorem ds_par3 {i j l : Nat} {x y z : Str} {a b c : Expr} {aa : AD} {px py pz pt : Pos} {kt k2 pt2} (hc : X.calm = true) (hN : X.N.Nodup) (hi : X.N[i]? = some x) (hj : X.N[j]? = some y) (hl : X.N[l]? = some z) (hij : i ≠ j) (hil : i ≠ l) (hjl : j ≠ l)
    (hx : X.env.scope.names.lookup x = some .local) (hy : X.env.scope.names.lookup y = some .local) (hz : X.env.scope.names.lookup z = some .local) (ha : DA X B [a, b, c] aa)
    (hw : swappedStores [.Tuple [.Name x px, .Name y py, .Name z pz] kt pt] (.Tuple [a, b, c] k2 pt2) X.env = pure (some [x, y, z]) := by rfl)
    (hs : swapsWithSole [.Tuple [.Name x px, .Name y py, .Name z pz] kt pt] (.Tuple [a, b, c] k2 pt2) pos.line X.env = pure false := by rfl) :
    DS X B (.Assign [.Tuple [.Name x px, .Name y py, .Name z pz] kt pt] (.Tuple [a, b, c] k2 pt2) pos) (sPar [i, j, l] aa) :=
  PSi (ps_par3 hc hN hi hj hl hij hil hjl hx hy hz ha hw hs) fun D σ H ⟨ρ, h, D', S, q, C⟩ => ⟨ρ, h, _, S, q, fun vs h1 xs H1 q1 s1 rv1 r1 => by
    have S1 := S.step s1 r1
    match vs, q1 with
    | [v, w, u], q1 =>
      rw [RVs] at rv1
      obtain ⟨x, xr, e1, rx, rr⟩ := rv1
      obtain ⟨y, z, e, ry, rz⟩ := rvs2 rr
      subst e
      exact ⟨x, y, z, e1, C.nx _ _ _ _ q1 s1 (((S1.set i rx).set j ry).set l rz)⟩
    | [], q1 => exact q1.elim
    | [_], q1 => exact q1.elim
    | [_, _], q1 => exact q1.elim
    | _ :: _ :: _ :: _ :: _, q1 => exact q1.elim⟩
end
end DL
namespace DL
open PySem PySem.Spec PyProof.Rows L2
structure Itr where
  items : List Val
  ok : Hv → Prop
abbrev ID := Sl → Hv → (Itr → Hv → Prop) → PX → Prop
def ItRel (K : PySem.W.Frag) (it : Itr) (J : It) (h : Hv) (H : Hp) : Prop := ∀ h2 H2, StepN h H h2 H2 → RH K H2 h2 → it.ok h2 →
  (∀ (i : Nat) v, it.items[i]? = some v → J.go i H2 ∧ ∀ x H3, J.yld i H2 x H3 → Step h2 H2 h2 H3 ∧ RH K H3 h2 ∧ RV K H3 h2 v x) ∧ J.stop it.items.length H2
def rdI (K : PySem.W.Frag) (B : Bs) (di : ID) : TI := fun σ H R => ∃ ρ h Q', ST K B σ H ρ h ∧ di ρ h Q' B.E ∧ ∀ it h' H' J, Q' it h' → Step h H h' H' → RH K H' h' → ItRel K it J h' H' → R J H'
abbrev DI (X : Cx) (B : Bs) (tg iter : Expr) (di : ID) : Prop := PI X tg iter (rdI X.K B di)
theorem PIi {X : Cx} {tg e : Expr} {t t' : TI} (p : PI X tg e t) (i : ∀ σ H Q, t' σ H Q → t σ H Q) : PI X tg e t' := ⟨fun pins s σ H Q I q => p.run pins s σ H Q I (i σ H Q q)⟩

def iAny (K : PySem.W.Frag) (tl : TE) : TI := fun σ H R => tl σ H fun x H1 => (∃ a, x = .ref a ∧ (∃ xs, SqL K H1 a xs) ∧ R (Itl K a) H1) ∨ (∃ a, x = .ref a ∧ (∃ xs, SqT K H1 a xs) ∧ R (Itt K a) H1) ∨ ∃ z, x = .str z ∧ R (Its z) H1
theorem pi_any {X : Cx} {tg l : Expr} {tl : TE} (hl : PE X l tl) : PI X tg l (iAny X.K tl) := by
  refine ⟨fun pins s σ H R I h => ?_⟩
  refine thn (hl.run pins s σ H _ I h) fun v s1 ⟨x, H1, I1, r1, q1⟩ => ?_
  rcases q1 with ⟨a, e, ⟨xs, hq⟩, q⟩ | ⟨a, e, ⟨xs, hq⟩, q⟩ | ⟨z, e, q⟩
  · subst e
    cases r1
    obtain ⟨its, rv, p, hz⟩ := I1.list hq
    refine wpAny_pyIter_list p.isList ?_
    refine ⟨s1.heap.objs.size, [s1.heap.objs.size], _, _, H1, rfl, I1.kept (t' := s1.toks) fun b o e => Heap.get?_push_of_some _ e, turn_list a _, ⟨_, Heap.get?_push_size _ rfl, rfl, rfl⟩, fun b hb => ?_, q⟩
    have e : b = s1.heap.objs.size := by simpa using hb
    subst e
    exact I1.fpOk (Nat.le_refl _) (I1.hok.fresh (Nat.le_refl _))
  · subst e
    cases r1
    obtain ⟨its, rv, p, hz⟩ := I1.tuple hq
    refine wpAny_pyIter_tuple (show s1.heap.IsTuple a its.toArray from p) ?_
    refine ⟨s1.heap.objs.size, [s1.heap.objs.size], _, _, H1, rfl, I1.kept (t' := s1.toks) fun b o e => Heap.get?_push_of_some _ e, turn_tuple a _, ⟨_, Heap.get?_push_size _ rfl, rfl, rfl⟩, fun b hb => ?_, q⟩
    have e : b = s1.heap.objs.size := by simpa using hb
    subst e
    exact I1.fpOk (Nat.le_refl _) (I1.hok.fresh (Nat.le_refl _))
  · subst e
    obtain ⟨t, rfl⟩ := r1
    cases ha : z.cps.all (· < 128)
    · exact wpAny_pyIter_wide ha (pi_one (tk := s1.toks) I1 _ (turn_str _ z t "str_iterator" (.inr rfl)) ⟨_, Heap.get?_push_size _ rfl, rfl, rfl⟩ q)
    · exact wpAny_pyIter_ascii ha (pi_one (tk := s1.toks) I1 _ (turn_str _ z t "str_ascii_iterator" (.inl rfl)) ⟨_, Heap.get?_push_size _ rfl, rfl, rfl⟩ q)

section
variable {K : PySem.W.Frag}
theorem itl_rel {h : Hv} {H : Hp} {a : Addr} {vs : List Val} {ok : Hv → Prop} (e : ∀ h2 H2, StepN h H h2 H2 → RH K H2 h2 → ok h2 → ∃ xs, SqL K H2 a xs ∧ RVs K H2 h2 vs xs) : ItRel K ⟨vs, ok⟩ (Itl K a) h H := fun h2 H2 s2 r2 o2 => by
  obtain ⟨xs, hq, rs⟩ := e h2 H2 s2 r2 o2
  refine ⟨fun i v hv => ?_, xs, hq, by rw [rs.len]; exact Nat.le_refl _⟩
  obtain ⟨x, ex, rx⟩ := rs.get hv
  refine ⟨⟨xs, x, hq, ex⟩, fun y H3 hy => ?_⟩
  obtain ⟨e3, hy⟩ := hy
  subst e3
  have := hy xs hq
  rw [ex] at this
  cases this
  exact ⟨Step.refl _ _, r2, rx⟩
theorem itt_rel {h : Hv} {H : Hp} {a : Addr} {vs : List Val} {ok : Hv → Prop} (e : ∀ h2 H2, StepN h H h2 H2 → RH K H2 h2 → ok h2 → ∃ xs, SqT K H2 a xs ∧ RVs K H2 h2 vs xs) : ItRel K ⟨vs, ok⟩ (Itt K a) h H := fun h2 H2 s2 r2 o2 => by
  obtain ⟨xs, hq, rs⟩ := e h2 H2 s2 r2 o2
  refine ⟨fun i v hv => ?_, xs, hq, by rw [rs.len]; exact Nat.le_refl _⟩
  obtain ⟨x, ex, rx⟩ := rs.get hv
  refine ⟨⟨xs, x, hq, ex⟩, fun y H3 hy => ?_⟩
  obtain ⟨e3, hy⟩ := hy
  subst e3
  have := hy xs hq
  rw [ex] at this
  cases this
  exact ⟨Step.refl _ _, r2, rx⟩
theorem its_rel {h : Hv} {H : Hp} {z : Str} {ok : Hv → Prop} : ItRel K ⟨z.cps.toList.map fun c => Val.str ⟨#[c]⟩, ok⟩ (Its z) h H := fun h2 H2 s2 r2 o2 => by
  refine ⟨fun i v hv => ?_, by show z.cps.size ≤ _; simp⟩
  simp only [List.getElem?_map, Option.map_eq_some_iff] at hv
  obtain ⟨c, hc, e⟩ := hv
  have hc' : z.cps[i]? = some c := by simpa using hc
  refine ⟨(Array.getElem?_eq_some_iff.mp hc').1, fun y H3 hy => ?_⟩
  obtain ⟨e3, c', hc2, ey⟩ := hy
  rw [hc'] at hc2
  cases hc2
  subst e3 e ey
  exact ⟨Step.refl _ _, r2, rv_str⟩
theorem itr_rel {h : Hv} {H : Hp} {lo : Int} {n : Nat} {ok : Hv → Prop} : ItRel K ⟨(List.range n).map fun i => Val.int (lo + (i : Nat)), ok⟩ (L2.Itr lo n) h H := fun h2 H2 s2 r2 o2 => by
  refine ⟨fun i v hv => ?_, by show n ≤ _; simp⟩
  simp only [List.getElem?_map, Option.map_eq_some_iff] at hv
  obtain ⟨c, hc, e⟩ := hv
  have hi : i < n := by
    have := (List.getElem?_eq_some_iff.mp hc).1
    simpa using this
  have : c = i := by
    have := (List.getElem?_eq_some_iff.mp hc).2
    simpa using this.symm
  subst this
  refine ⟨hi, fun y H3 hy => ?_⟩
  obtain ⟨e3, ey⟩ := hy
  subst e3 e ey
  exact ⟨Step.refl _ _, r2, rv_int⟩
end
section
variable {X : Cx} {B : Bs} {e e2 tg : Expr} {de : ED} {pos p : Pos} {aa : AD}
@[simp] def iterOf (v : Val) (h : Hv) : Option Itr := match v with
  | .tup vs => some ⟨vs, fun _ => True⟩
  | .tpo vs => some ⟨vs, fun _ => True⟩
  | .lst vs => some ⟨vs, fun _ => True⟩
  | .str z => some ⟨z.cps.toList.map fun c => Val.str ⟨#[c]⟩, fun _ => True⟩
  | .ref a => match h a with
    | some (.lst vs) => some ⟨vs, fun h' => h' a = some (.lst vs)⟩
    | _ => none
  | _ => none
@[simp] def dIt (de : ED) : ID := fun ρ h Q E => de ρ h (fun v h1 => match iterOf v h1 with
  | some it => Q it h1
  | none => False) E
theorem di_any (he : DE X B e de) : DI X B tg e (dIt de) :=
  PIi (pi_any he) fun σ H R ⟨ρ, h, Q', S, q, C⟩ => ⟨ρ, h, _, S, q, fun v h1 x H1 q1 s1 rv1 r1 => by
    split at q1
    · rename_i it ei
      have fin : ∀ J, ItRel X.K it J h1 H1 → R J H1 := fun J hJ => C it h1 H1 J q1 s1 r1 hJ
      cases v with
      | tup vs =>
        rw [RV] at rv1
        obtain ⟨a, xs, e1, n, ha, rs⟩ := rv1
        cases ei
        exact .inr (.inl ⟨a, e1, ⟨xs, .of ha⟩, fin _ (itt_rel fun h2 H2 s2 r2 _ => ⟨xs, .of (s2 a _ ha n nt_tup).1, rs.stepN s2⟩)⟩)
      | tpo vs =>
        rw [RV] at rv1
        obtain ⟨a, xs, o, e1, n, ha, hd, rs⟩ := rv1
        cases ei
        exact .inr (.inl ⟨a, e1, ⟨xs, .inl (.inr ⟨o, ha⟩)⟩, fin _ (itt_rel fun h2 H2 s2 r2 _ => ⟨xs, .inl (.inr ⟨o, (s2 a _ ha n nt_frz).1⟩), rs.stepN s2⟩)⟩)
      | lst vs =>
        rw [RV] at rv1
        obtain ⟨a, xs, e1, n, ha, rs⟩ := rv1
        cases ei
        exact .inl ⟨a, e1, ⟨xs, .of ha⟩, fin _ (itl_rel fun h2 H2 s2 r2 _ => ⟨xs, .of (s2 a _ ha n nt_lst).1, rs.stepN s2⟩)⟩
      | str z =>
        rw [RV] at rv1
        cases ei
        exact .inr (.inr ⟨z, rv1, fin _ its_rel⟩)
      | ref a =>
        rw [RV] at rv1
        unfold iterOf at ei
        dsimp only at ei
        split at ei
        · rename_i vs hv
          cases ei
          obtain ⟨xs, e1, rs⟩ := r1 a _ hv
          exact .inl ⟨a, rv1, ⟨xs, .of e1⟩, fin _ (itl_rel fun h2 H2 s2 r2 o2 => by
            obtain ⟨xs2, e2, rs2⟩ := r2 a _ o2
            exact ⟨xs2, .of e2, rs2⟩)⟩
        · cases ei
      | _ => cases ei
    · exact q1.elim⟩
@[simp] def dRange1 (aa : AD) : ID := fun ρ h Q E => aa ρ h (fun vs h1 => match vs with
  | [.int j] => -(2 ^ 62) ≤ j ∧ j < 2 ^ 62 ∧ Q ⟨(List.range j.toNat).map fun i => Val.int (0 + (i : Nat)), fun _ => True⟩ h1
  | _ => False) E
@[simp] def dRange2 (aa : AD) : ID := fun ρ h Q E => aa ρ h (fun vs h1 => match vs with
  | [.int i, .int j] => (-(2 ^ 62) ≤ i ∧ i < 2 ^ 62 ∧ -(2 ^ 62) ≤ j ∧ j < 2 ^ 62) ∧ Q ⟨(List.range (j - i).toNat).map fun k => Val.int (i + (k : Nat)), fun _ => True⟩ h1
  | _ => False) E
theorem di_range1 (hg : Gl X "range") (hm : X.mg "range" = none) (ha : DA X B [e] aa) (hs : starEach [e] X.env = [(false, eval e X.env)] := by rfl) : DI X B tg (.Call (.Name "range" p) [e] [] pos) (dRange1 aa) :=
  PIi (pi_range1 hg hm ha hs) fun σ H R ⟨ρ, h, Q', S, q, C⟩ => ⟨ρ, h, _, S, q, fun vs h1 xs H1 q1 s1 rv1 r1 => by
    split at q1
    · rename_i j
      obtain ⟨x, e1, rx⟩ := rvs1 rv1
      rw [RV] at rx
      subst rx
      exact ⟨j, e1, q1.1, q1.2.1, C _ h1 H1 _ q1.2.2 s1 r1 itr_rel⟩
    · exact q1.elim⟩
@[simp] def zipOf (v w : Val) (h : Hv) : Option Itr := match v, w with
  | .tup xs, .tup ys => some ⟨(xs.zip ys).map fun p => Val.tup [p.1, p.2], fun _ => True⟩
  | .lst xs, .lst ys => some ⟨(xs.zip ys).map fun p => Val.tup [p.1, p.2], fun _ => True⟩
  | _, _ => none
@[simp] def dZip (aa : AD) : ID := fun ρ h Q E => aa ρ h (fun vs h1 => match vs with
  | [v, w] => (match zipOf v w h1 with
    | some it => Q it h1
    | none => False)
  | _ => False) E
theorem pair_rel {K : PySem.W.Frag} {h2 : Hv} {H2 : Hp} {T : Addr} {v w : Val} {x y : V} (r2 : RH K H2 h2) (rx : RV K H2 h2 v x) (ry : RV K H2 h2 w y) (nT : H2 T = none) :
    Step h2 H2 h2 (upd H2 T (.tup [x, y])) ∧ RH K (upd H2 T (.tup [x, y])) h2 ∧ RV K (upd H2 T (.tup [x, y])) h2 (.tup [v, w]) (.ref T) := by
  refine ⟨Step.fresh nT, r2.fresh nT, ?_⟩
  rw [RV]
  exact ⟨T, _, rfl, r2.nof nT, upd_same, RVs.cons (rx.step (Step.fresh nT)) (RVs.cons (ry.step (Step.fresh nT)) RVs.nil)⟩
def forL (ok : Hv → Prop) (t : Tg) (d : SD) : List Val → Sl → Hv → AE → PX → Prop
  | [], ρ, h, D, _ => ok h ∧ D.nx ρ h
  | v :: vs, ρ, h, D, E => ok h ∧ match bT t v ρ with
    | some ρ' => d ρ' h { D with nx := fun ρ h => forL ok t d vs ρ h D E, ct := fun ρ h => forL ok t d vs ρ h D E, bk := D.nx } E
    | none => False
@[simp] def sFor (di : ID) (t : Tg) (d : SD) : SD := fun ρ h D E => di ρ h (fun it h1 => forL it.ok t d it.items ρ h1 D E) E
theorem ds_for {iter : Expr} {body : List Stmt} {di : ID} {t : Tg} {d : SD} (hp : PassesOwn (model X.prog X.w) X.A X.env X.xe) (hc : X.calm = true) (hi : DI X B tg iter di) (hg : PG X tg (gT X.K t)) (hb : DSs X B body d)
    (hs : ∀ x, foldedSetIterable iter X.env x = pure x := by intro _; rfl) : DS X B (.For tg iter body [] pos) (sFor di t d) := by
  refine PSi (ps_for hp hc hi hg hb hs) fun D σ H ⟨ρ, h, D', S, q, C⟩ => ?_
  refine ⟨ρ, h, _, S, q, fun it h1 H1 J q1 s1 r1 hJ => ?_⟩
  have S1 := S.step s1 r1
  refine ⟨fun i m σ2 H2 => ∃ ρ2 h2, i + m = it.items.length ∧ ST X.K B σ2 H2 ρ2 h2 ∧ Step h1 H1 h2 H2 ∧ forL it.ok t d (it.items.drop i) ρ2 h2 D' B.E, ⟨it.items.length, ρ, h1, by omega, S1, Step.refl _ _, q1⟩, ?_⟩
  rintro i m σ2 H2 ⟨ρ2, h2, em, S2, s2, q2⟩
  cases hd : it.items.drop i with
  | nil =>
    rw [hd] at q2
    have hi : it.items.length ≤ i := List.drop_eq_nil_iff.mp hd
    have ei : i = it.items.length := by omega
    subst ei
    exact .inl ⟨(hJ h2 H2 s2.n S2.r q2.1).2, C.nx _ _ _ _ q2.2 (s1.trans s2) S2⟩
  | cons v vs =>
    rw [hd] at q2
    have hi : i < it.items.length := by
      apply Nat.lt_of_not_le
      intro hh
      rw [List.drop_eq_nil_iff.mpr hh] at hd
      cases hd
    have hv : it.items[i]? = some v := by
      have := congrArg (·[0]?) hd
      simpa using this
    have hdr : it.items.drop (i + 1) = vs := by
      rw [← List.drop_drop, hd] <;> rfl
    obtain ⟨ok2, q2⟩ := q2
    obtain ⟨go, yl⟩ := (hJ h2 H2 s2.n S2.r ok2).1 i v hv
    refine .inr ⟨go, fun σ3 H3 => ∃ ρ3 h3, ST X.K B σ3 H3 ρ3 h3 ∧ Step h1 H1 h3 H3 ∧ forL it.ok t d vs ρ3 h3 D' B.E, fun σ3 H3 ⟨ρ3, h3, S3, s3, q3⟩ => ⟨m - 1, by omega, ρ3, h3, by omega, S3, s3, by rw [hdr]; exact q3⟩, fun x H3 hy => ?_⟩
    obtain ⟨s3, r3, rv3⟩ := yl x H3 hy
    have S3 := S2.step s3 r3
    split at q2
    · rename_i ρ' eρ
      refine gT_rel rv3 S3.s eρ _ fun σ' rs' _ => ?_
      have s13 := s2.trans s3
      exact ⟨ρ', h2, _, ⟨rs', r3, S3.b⟩, q2, ⟨fun ρ4 h4 σ4 H4 q4 s4 S4 => ⟨ρ4, h4, S4, s13.trans s4, q4⟩, fun v h4 x H4 q4 s4 => C.rt v h4 x H4 q4 (s1.trans (s13.trans s4)), fun ρ4 h4 σ4 H4 q4 s4 S4 => C.nx _ _ _ _ q4 (s1.trans (s13.trans s4)) S4, fun ρ4 h4 σ4 H4 q4 s4 S4 => ⟨ρ4, h4, S4, s13.trans s4, q4⟩⟩⟩
    · exact q2.elim
end
end DL
namespace DL
open PySem PySem.Spec PyProof.Rows L2
abbrev EF : PX := fun _ _ _ _ => False
abbrev Bs.blk (B : Bs) : Bs := ⟨EF, B.h0, B.H0⟩
theorem ST.blk {K : PySem.W.Frag} {B : Bs} {σ : L2.St} {H : Hp} {ρ : Sl} {h : Hv} (x : ST K B σ H ρ h) : ST K B.blk σ H ρ h := ⟨x.s, x.r, x.b⟩
@[simp] def wipeA (ρ : Sl) : List Nat → Sl
  | [] => ρ
  | v :: vs => (wipeA ρ vs).set v none
theorem RS.setN {K : PySem.W.Frag} {H : Hp} {h : Hv} {ρ : Sl} {σ : L2.St} (r : RS K H h ρ σ) (i : Nat) : RS K H h (ρ.set i none) (σ.set i none) := by
  refine ⟨by rw [List.length_set, List.length_set]; exact r.1, fun j w e => ?_⟩
  by_cases hj : i = j
  · subst hj
    by_cases hi : i < ρ.length
    · rw [List.getElem?_set_self hi] at e
      cases e
    · rw [List.getElem?_eq_none (by simpa using hi)] at e
      cases e
  · rw [List.getElem?_set_ne hj] at e ⊢
    exact r.2 j w e
theorem RS.wipe {K : PySem.W.Frag} {H : Hp} {h : Hv} {ρ : Sl} {σ : L2.St} (r : RS K H h ρ σ) : ∀ vs : List Nat, RS K H h (wipeA ρ vs) (L2.wipe σ vs)
  | [] => r
  | v :: vs => (RS.wipe r vs).setN v
theorem wipe_sub {σ : L2.St} {vs : List Nat} : ∀ us : List Nat, (∀ i ∈ us, i ∈ vs) → L2.wipe (L2.wipe σ us) vs = L2.wipe σ vs
  | [], _ => rfl
  | u :: us, h => by
    rw [show L2.wipe σ (u :: us) = (L2.wipe σ us).set u none from rfl, wipe_set (h u List.mem_cons_self)]
    exact wipe_sub us fun i hi => h i (List.mem_cons_of_mem _ hi)
theorem wipe_wipe (σ : L2.St) (vs : List Nat) : L2.wipe (L2.wipe σ vs) vs = L2.wipe σ vs := wipe_sub vs fun _ h => h
def lcL (ok : Hv → Prop) (t : Tg) (tt : TD) (te : ED) (ρw : Sl) : List Val → List Val → Hv → (List Val → Hv → Prop) → Prop
  | [], acc, h, Q => ok h ∧ Q acc h
  | v :: vs, acc, h, Q => ok h ∧ match bT t v ρw with
    | some ρ' => tt ρ' h (fun b h1 => if b = true then te ρ' h1 (fun y h2 => acc.length < sizeLine ∧ lcL ok t tt te ρw vs (acc ++ [y]) h2 Q) EF else lcL ok t tt te ρw vs acc h1 Q) EF
    | none => False
@[simp] def tTrue : TD := fun _ h Q _ => Q true h
def dLc (di : ID) (t : Tg) (tt : TD) (te : ED) (vs : List Nat) : ED := fun ρ h Q E => di ρ h (fun it h1 => ∀ D, h1 D = none → lcL it.ok t tt te (wipeA ρ vs) it.items [] (put h1 D .busy) (fun acc h2 => Q (.lst acc) (drop h2 D))) E
def dLcH (di : ID) (t : Tg) (tt : TD) (te : ED) (vs : List Nat) : ED := fun ρ h Q E => di ρ h (fun it h1 => ∀ D, h1 D = none → lcL it.ok t tt te (wipeA ρ vs) it.items [] (put h1 D .busy) (fun acc h2 => Q (.ref D) (put h2 D (.lst acc)))) E
theorem rd_lc {K : PySem.W.Frag} {B : Bs} {di : ID} {t : Tg} {tt : TD} {te : ED} {vs : List Nat} {d : ED} {heap : Bool} (hd : d = if heap = true then dLcH di t tt te vs else dLc di t tt te vs) (hsl : ∀ i ∈ slots t, i ∈ vs) :
    ∀ σ H Q, rdE K B d σ H Q → tLc (rdI K B di) (gT K t) (rdT K B.blk tt) (rdE K B.blk te) vs σ H Q := by
  rintro σ H Q ⟨ρ, h, Q', S, q, C⟩
  have q : di ρ h (fun it h1 => ∀ D, h1 D = none → lcL it.ok t tt te (wipeA ρ vs) it.items [] (put h1 D .busy) (fun acc h2 => if heap = true then Q' (.ref D) (put h2 D (.lst acc)) else Q' (.lst acc) (drop h2 D))) B.E := by
    rw [hd] at q
    cases heap <;> exact q
  refine ⟨ρ, h, _, S, q, fun it h1 H1 J q1 s1 r1 hJ D nD => ?_⟩
  have S1 := S.step s1 r1
  have nd : h1 D = none := r1.nof nD
  have sN : Step h1 H1 (put h1 D .busy) (upd H1 D (.lst [])) := Step.new nD
  have rN : RH K (upd H1 D (.lst [])) (put h1 D .busy) := r1.new nD ⟨_, upd_same, .inl ⟨_, rfl⟩⟩
  refine ⟨fun i m H2 => ∃ acc xs h2, i + m = it.items.length ∧ RH K H2 h2 ∧ Step h1 H1 h2 H2 ∧ h2 D = some .busy ∧ H2 D = some (.lst xs) ∧ RVs K H2 h2 acc xs ∧ lcL it.ok t tt te (wipeA ρ vs) (it.items.drop i) acc h2 (fun acc h2 => if heap = true then Q' (.ref D) (put h2 D (.lst acc)) else Q' (.lst acc) (drop h2 D)),
    ⟨it.items.length, [], [], put h1 D .busy, by omega, rN, sN, put_same, upd_same, RVs.nil, q1 D nd⟩, ?_⟩
  rintro i m H2 ⟨acc, xs, h2, em, r2, s2, hb2, hD2, ra2, q2⟩
  cases hdr : it.items.drop i with
  | nil =>
    rw [hdr] at q2
    have hi : it.items.length ≤ i := List.drop_eq_nil_iff.mp hdr
    have ei : i = it.items.length := by omega
    subst ei
    refine .inl ⟨(hJ h2 H2 s2.n r2 q2.1).2, ?_⟩
    have q3 := q2.2
    cases heap with
    | true =>
      rw [if_pos rfl] at q3
      have sw : StepN h2 H2 (put h2 D (.lst acc)) H2 := fun a o e n _ => by
        have : a ≠ D := fun z => by rw [z, hb2] at n; cases n
        exact ⟨e, by rw [put_ne this]; exact n⟩
      have sf : Step h1 H1 (put h2 D (.lst acc)) H2 := ⟨fun a o e n t => by
        obtain ⟨e2, n2⟩ := s2.n a o e n t
        exact sw a o e2 n2 t, fun a o e n => by
        have ne : a ≠ D := ne_of_none e nD
        rw [put_ne ne]
        exact s2.b a o e n⟩
      refine C _ _ _ _ q3 (s1.trans sf) (by rw [RV]) fun a o q => ?_
      by_cases ha : a = D
      · subst ha
        rw [put_same] at q
        cases q
        exact ⟨xs, hD2, ra2.stepN sw⟩
      · rw [put_ne ha] at q
        exact (r2 a o q).stepN sw fun _ z => z
    | false =>
      rw [if_neg Bool.false_ne_true] at q3
      have sf : Step h1 H1 (drop h2 D) H2 := ⟨fun a o e n t => by
        obtain ⟨e2, n2⟩ := s2.n a o e n t
        exact less_drop.stepN a o e2 n2 t, fun a o e n => by
        have ne : a ≠ D := ne_of_none e nD
        rw [drop_ne ne]
        exact s2.b a o e n⟩
      refine C _ _ _ _ q3 (s1.trans sf) ?_ (r2.less less_drop)
      rw [RV]
      exact ⟨D, xs, rfl, drop_same, hD2, ra2.stepN less_drop.stepN⟩
  | cons v ws =>
    rw [hdr] at q2
    have hi : i < it.items.length := by
      apply Nat.lt_of_not_le
      intro hh
      rw [List.drop_eq_nil_iff.mpr hh] at hdr
      cases hdr
    have hv : it.items[i]? = some v := by
      have := congrArg (·[0]?) hdr
      simpa using this
    have hdr' : it.items.drop (i + 1) = ws := by
      rw [← List.drop_drop, hdr] <;> rfl
    obtain ⟨ok2, q2⟩ := q2
    obtain ⟨go, yl⟩ := (hJ h2 H2 s2.n r2 ok2).1 i v hv
    refine .inr ⟨go, fun H3 => ∃ acc xs h3, RH K H3 h3 ∧ Step h1 H1 h3 H3 ∧ h3 D = some .busy ∧ H3 D = some (.lst xs) ∧ RVs K H3 h3 acc xs ∧ lcL it.ok t tt te (wipeA ρ vs) ws acc h3 (fun acc h2 => if heap = true then Q' (.ref D) (put h2 D (.lst acc)) else Q' (.lst acc) (drop h2 D)),
      fun H3 ⟨acc, xs, h3, r3, s3, b3, d3, a3, q3⟩ => ⟨m - 1, by omega, acc, xs, h3, by omega, r3, s3, b3, d3, a3, by rw [hdr']; exact q3⟩, fun x H3 hy => ?_⟩
    obtain ⟨s3, r3, rv3⟩ := yl x H3 hy
    split at q2
    · rename_i ρ' eρ
      have sl3 : RS K H3 h2 (wipeA ρ vs) (L2.wipe σ vs) := ((S1.s.wipe vs).step s2).step s3
      refine gT_rel rv3 sl3 eρ _ fun σ' rs' hw => ⟨?_, ?_⟩
      · rw [hw vs hsl]
        exact wipe_wipe σ vs
      · refine ⟨ρ', h2, _, ⟨rs', r3, S1.b.trans (s2.trans s3)⟩, q2, fun k h4 H4 q4 s4 r4 => ?_⟩
        have s24 := s3.trans s4
        have b4 := s24.b D _ hD2 hb2
        cases k with
        | false =>
          rw [if_neg Bool.false_ne_true] at q4
          exact iteF ⟨acc, xs, h4, r4, s2.trans s24, b4.2, b4.1, ra2.step s24, q4⟩
        | true =>
          rw [if_pos rfl] at q4
          refine iteT ⟨ρ', h4, _, ⟨rs'.step s4, r4, (S1.b.trans (s2.trans s3)).trans s4⟩, q4, fun y h5 yx H5 q5 s5 rv5 r5 => ?_⟩
          have s25 := s24.trans s5
          have b5 := s25.b D _ hD2 hb2
          refine ⟨xs, b5.1, ?_, acc ++ [y], xs ++ [yx], h5, ?_, ?_, b5.2, upd_same, ?_, q5.2⟩
          · rw [← ra2.len]; exact q5.1
          · intro a o q
            have sD : StepN h5 H5 h5 (upd H5 D (.lst (xs ++ [yx]))) := fun a o e n _ => by
              have : a ≠ D := fun z => by rw [z, b5.2] at n; cases n
              rw [upd_ne this]
              exact ⟨e, n⟩
            by_cases ha : a = D
            · subst ha
              rw [b5.2] at q
              cases q
              exact ⟨_, upd_same, .inl ⟨_, rfl⟩⟩
            · exact (r5 a o q).stepN sD fun _ z => by rw [upd_ne ha]; exact z
          · have s15 := s2.trans s25
            exact ⟨fun a o e n t => by
              obtain ⟨e2, n2⟩ := s15.n a o e n t
              rw [upd_ne (ne_of_none e nD)]
              exact ⟨e2, n2⟩, fun a o e n => by
              obtain ⟨e2, n2⟩ := s15.b a o e n
              rw [upd_ne (ne_of_none e nD)]
              exact ⟨e2, n2⟩⟩
          · have sD : StepN h5 H5 h5 (upd H5 D (.lst (xs ++ [yx]))) := fun a o e n _ => by
              have : a ≠ D := fun z => by rw [z, b5.2] at n; cases n
              rw [upd_ne this]
              exact ⟨e, n⟩
            exact ((ra2.step s25).append (RVs.cons rv5 RVs.nil)).stepN sD
    · exact q2.elim

section
variable {X : Cx} {B : Bs} {elt tg iter c : Expr} {ifs : List Expr} {scope : Scope} {own : List (Str × Nat)} {pos spos : Pos} {di : ID} {t : Tg} {tt : TD} {te : ED}
theorem dts_nil {B : Bs} : PTs X [] (rdT X.K B tTrue) := ⟨fun pins s σ H Q I ⟨ρ, h, Q', S, q, C⟩ => pts_nil.run pins s σ H Q I (C _ _ _ q (Step.refl _ _) S.r)⟩
theorem dts_one {B : Bs} (h : DT X B c tt) : PTs X [c] (rdT X.K B tt) := pts_one h
theorem de_lc (hc : X.calm = true) (hN : X.N.Nodup) (hi : DI X B tg iter di) (ok : BlkOk X.N X.env.scope scope own) (hsl : ∀ i ∈ slots t, i ∈ own.map (·.2))
    (hg : ∀ (s : Shared) (H : Hp) (C : Addr) (cl : List (Str × Addr)) (fp : List Addr), PG (X.blk s H scope (compEnvC scope cl C X.env) fp) tg (gT X.K t)) (ht : ∀ (s : Shared) (H : Hp) (C : Addr) (cl : List (Str × Addr)) (fp : List Addr), PTs (X.blk s H scope (compEnvC scope cl C X.env) fp) ifs (rdT X.K B.blk tt))
    (he : ∀ (s : Shared) (H : Hp) (C : Addr) (cl : List (Str × Addr)) (fp : List Addr), DE (X.blk s H scope (compEnvC scope cl C X.env) fp) B.blk elt te) (hs : ∀ x, foldedSetIterable iter X.env x = pure x := by intro _; rfl) :
    DE X B (.ListComp elt [⟨tg, iter, ifs, 0⟩] scope pos) (dLc di t tt te (own.map (·.2))) := PEi (pe_lc hc hN hi ok hg ht he hs) (rd_lc (heap := false) rfl hsl)
theorem ds_setLc {i : Nat} {y : Str} {py : Pos} {d : ED} (heap : Bool) (hd : d = if heap = true then dLcH di t tt te (own.map (·.2)) else dLc di t tt te (own.map (·.2))) (hc : X.calm = true) (hN : X.N.Nodup) (hy : X.N[i]? = some y) (hyl : X.env.scope.names.lookup y = some .local)
    (hsw : swapsWith (.ListComp elt [⟨tg, iter, ifs, 0⟩] scope pos) (some (.Name y py)) spos.line X.env = pure true) (hi : DI X B tg iter di) (ok : BlkOk X.N X.env.scope scope own) (hsl : ∀ i ∈ slots t, i ∈ own.map (·.2))
    (hg : ∀ (s : Shared) (H : Hp) (C : Addr) (cl : List (Str × Addr)) (fp : List Addr), PG (X.blk s H scope (compEnvC scope cl C X.env) fp) tg (gT X.K t)) (ht : ∀ (s : Shared) (H : Hp) (C : Addr) (cl : List (Str × Addr)) (fp : List Addr), PTs (X.blk s H scope (compEnvC scope cl C X.env) fp) ifs (rdT X.K B.blk tt))
    (he : ∀ (s : Shared) (H : Hp) (C : Addr) (cl : List (Str × Addr)) (fp : List Addr), DE (X.blk s H scope (compEnvC scope cl C X.env) fp) B.blk elt te) (hs : ∀ x, foldedSetIterable iter X.env x = pure x := by intro _; rfl) :
    DS X B (.Assign [.Name y py] (.ListComp elt [⟨tg, iter, ifs, 0⟩] scope pos) spos) (sSet i d) :=
  PSi (ps_setLc hc hN hy hyl hsw hi ok hg ht he hs) fun D σ H z => by
    obtain ⟨ρ, h, Q', S, q, C⟩ := rd_set D σ H z
    exact rd_lc hd hsl σ H _ ⟨ρ, h, Q', S, q, C⟩
end
structure Lss (h h2 : Hv) : Prop where
  l : Less h h2
  b : ∀ a, h a = some .busy → h2 a = some .busy
theorem Lss.refl (h : Hv) : Lss h h := ⟨Less.refl h, fun _ e => e⟩
theorem Lss.trans {h h1 h2 : Hv} (x : Lss h h1) (y : Lss h1 h2) : Lss h h2 := ⟨fun a => by
  rcases y.l a with z | z
  · exact .inl z
  · rw [z]; exact x.l a, fun a e => y.b a (x.b a e)⟩
theorem Lss.put {h : Hv} {p : Addr} {o : Ob} (e : h p = none) (n : o ≠ .busy) : Lss (put h p o) h := ⟨fun a => by
  by_cases ha : a = p
  · subst ha; exact .inl e
  · exact .inr (put_ne ha).symm, fun a q => by
  by_cases ha : a = p
  · subst ha; rw [put_same] at q; cases q; exact absurd rfl n
  · rw [put_ne ha] at q; exact q⟩
theorem Lss.step {h h2 : Hv} {H : Hp} (x : Lss h h2) : Step h H h2 H := ⟨x.l.stepN, fun a o e n => ⟨e, x.b a n⟩⟩
def Conv (v : Val) (h : Hv) (v2 : Val) (h2 : Hv) : Prop := Lss h h2 ∧ ∀ (K : PySem.W.Frag) (H : Hp) (x : V), RH K H h → RV K H h v x → RV K H h2 v2 x
theorem conv_less {v : Val} {h h2 : Hv} (l : Lss h h2) : Conv v h v h2 := ⟨l, fun K H x _ rv => rv.stepN l.l.stepN⟩
theorem conv_frz {h h2 : Hv} {p : Addr} {vs : List Val} (l : Lss h h2) (e : h p = some (.lst vs)) (n : h2 p = none) : Conv (.ref p) h (.lst vs) h2 := ⟨l, fun K H x r rv => by
  rw [RV] at rv
  rw [RV]
  obtain ⟨xs, e1, rs⟩ := r p _ e
  exact ⟨p, xs, rv, n, e1, rs.stepN l.l.stepN⟩⟩
@[simp] def startA (N : List Str) (as : List Val) : Sl := as.map some ++ List.replicate (N.length - as.length) none
theorem RVs.getS {K : PySem.W.Frag} {H : Hp} {h : Hv} {as : List Val} {vs : List V} (r : RVs K H h as vs) (N : List Str) : RS K H h (startA N as) (L2.start N vs) := by
  unfold startA L2.start
  refine ⟨by simp [r.len], fun i v e => ?_⟩
  have hi : i < as.length := by
    apply Nat.lt_of_not_le
    intro hh
    rw [List.getElem?_append_right (by simpa using hh), List.getElem?_replicate] at e
    split at e <;> cases e
  rw [List.getElem?_append_left (by simpa using hi), List.getElem?_map] at e
  obtain ⟨w, e1, e2⟩ := Option.map_eq_some_iff.mp e
  cases e2
  obtain ⟨x, ex, rx⟩ := r.get e1
  refine ⟨x, ?_, rx⟩
  rw [List.getElem?_append_left (by rw [List.length_map, ← r.len]; exact hi), List.getElem?_map, ex]
  rfl
theorem fn_mk {P : Program} {w : World} {K : PySem.W.Frag} {mg : Str → Option Value} {base : Heap} {x qual : Str} {st : Stmt} {f : Addr} {fd : FuncData} {N ps : List Str} {k : Nat} {fs : SpF} {den : SD} (F : Fun K x qual st f fd) (S : FnScope N ps (defScope st))
    (hd : ∀ (cdv : Value) (A : Around) (outer : List Env) (s : Shared) (H : Hp) (E : XK) (B : Bs), Room k (A.deeper (envOfC qual (defScope st) s.heap.objs.size f cdv)) → TakesB (cxOf (L2.CX P w) P w K mg base N qual (defScope st) f cdv A outer s H E) B →
      DSs (cxOf (L2.CX P w) P w K mg base N qual (defScope st) f cdv A outer s H E) B (defBody st) den)
    (hs : ∀ as h Q E, as.length = ps.length → fs as h Q E → den (startA N as) h ⟨fun _ h' => ∃ h2, Lss h' h2 ∧ Q .non h2, fun v h' => ∃ v2 h2, Conv v h' v2 h2 ∧ Q v2 h2, fun _ _ => False, fun _ _ => False⟩ (fun nm pl _ h' => ∃ h2, Lss h' h2 ∧ E nm pl h2)) :
    FnOk P w K mg base (L2.CX P w) (k + 1) f fd ps (spA K mg ps.length fs) := by
  refine F.okX S (fun vs H Q E h => ?_) (fun cdv A outer s H vs Q E hr h => ?_)
  · obtain ⟨as, h, Q', E', rs, _, e, _⟩ := h
    rw [← rs.len]; exact e
  · obtain ⟨as, h, Q', E', rs, r, e, q, C, CX⟩ := h
    refine ⟨_, hd cdv A outer s H E ⟨fun nm pl _ h' => ∃ h2, Lss h' h2 ∧ E' nm pl h2, h, H⟩ hr ?_, startA N as, h, _, ⟨rs.getS N, r, Step.refl _ _⟩, hs as h Q' E' e q, ?_⟩
    · have tk : Takes (cxOf (L2.CX P w) P w K mg base N qual (defScope st) f cdv A outer s H E) (fun cls d _ H => E cls d H) := takes_of rfl rfl rfl rfl
      refine tk.imp fun cls d σ H1 hw => ?_
      obtain ⟨nm, pl, ρ, h1, hm, S1, pld, h2, l2, hE⟩ := hw
      exact CX nm pl h2 cls d H1 hE (S1.b.trans l2.step) (S1.r.less l2.l) hm (pld.step l2.step)
    · refine ⟨fun ρ1 h1 σ1 H1 q1 s1 S1 => ?_, fun v h1 x H1 q1 s1 rv1 r1 => ?_, fun _ _ _ _ z => z.elim, fun _ _ _ _ z => z.elim⟩
      · obtain ⟨h2, l2, q2⟩ := q1
        exact C _ _ _ _ q2 (s1.trans l2.step) rv_non (S1.r.less l2.l)
      · obtain ⟨v2, h2, c2, q2⟩ := q1
        exact C _ _ _ _ q2 (s1.trans c2.1.step) (c2.2 K H1 x r1 rv1) (r1.less c2.1.l)
end DL
namespace DL
open PySem PySem.Spec PyProof.Rows L2
abbrev FM := Val → List Val → Hv → PV → Prop
def tyA (v : Val) (h : Hv) (T : String) : Prop := match v with
  | .str _ => T = "str"
  | .lst _ => T = "list"
  | .ref a => match h a with
    | some (.lst _) => T = "list"
    | some (.dK _) => T = "dict"
    | some (.dT _) => T = "dict"
    | _ => False
  | _ => False
theorem tyA_rel {K : PySem.W.Frag} {H : Hp} {h : Hv} {v : Val} {x : V} {T : String} (r : RH K H h) (rv : RV K H h v x) (e : tyA v h T) : tyV K T x H := by
  cases v with
  | str z => rw [RV] at rv; subst rv; exact e
  | lst vs =>
    rw [RV] at rv
    obtain ⟨a, xs, e1, _, ha, rs⟩ := rv
    subst e1
    exact .inl ⟨e, xs, .of ha⟩
  | ref a =>
    rw [RV] at rv; subst rv
    unfold tyA at e
    dsimp only at e
    split at e
    · rename_i vs hv
      obtain ⟨xs, e1, rs⟩ := r a _ hv
      exact .inl ⟨e, xs, .of e1⟩
    · rename_i vs hv
      obtain ⟨xs, e1, rs⟩ := r a _ hv
      exact .inr (.inr (.inl ⟨e, .inl ⟨xs, e1⟩⟩))
    · rename_i vs hv
      obtain ⟨xs, e1, rs⟩ := r a _ hv
      exact .inr (.inr (.inl ⟨e, .inr ⟨xs, e1⟩⟩))
    · exact e.elim
  | _ => exact e.elim
def MtL (K : PySem.W.Frag) (f : FM) (r : V → List V → Hp → VK → Prop) : Prop := ∀ v ws x ys h H Q' Q, RH K H h → RV K H h v x → RVs K H h ws ys → f v ws h Q' → Cont K h H Q' Q → r x ys H Q
def dBM (T : String) (f : FM) (d : ED) (aa : AD) : ED := fun ρ h Q E => d ρ h (fun v h1 => tyA v h1 T ∧ aa ρ h1 (fun vs h2 => f v vs h2 Q) E) E
section
variable {X : Cx} {B : Bs} {o e : Expr} {es : List Expr} {d : ED} {aa : AD} {name : Str} {apos cpos : Pos} {T id : String} {r : V → List V → Hp → VK → Prop} {f : FM}
theorem de_bm (pa : PlainAttrs T) (slot : Slot T name id) (hty : typeOf (.builtin id) = pure (.type "method_descriptor")) (hm : MtR X id r) (hl : MtL X.K f r) (ho : DE X B o d) (ha : DA X B (e :: es) aa)
    (hbase : attributeBase o name X.env (eval o X.env) = eval o X.env := by rfl)
    (hfew : ((backTo cpos (starEach (e :: es) X.env)).all (fun x => !x.1) && (backToKw cpos (keywordEach [] X.env)).all (fun x => x.1.isSome)
      && decide ((e :: es).length + ([] : List Keyword).length + (if ([] : List Keyword).isEmpty then 0 else 1) < 30)) = true := by rfl)
    (hline : (apos.endLine == cpos.line) = true := by rfl) (hs : starEach (e :: es) X.env = (false, eval e X.env) :: starEach es X.env := by rfl) (hplain : (backTo cpos (starEach es X.env)).any (·.1) = false := by rfl) :
    DE X B (.Call (.Attribute o name apos) (e :: es) [] cpos) (dBM T f d aa) :=
  PEi (pe_bm pa slot hty hm ho ha hbase hfew hline hs hplain) fun σ H Q ⟨ρ, h, Q', S, q, C⟩ => ⟨ρ, h, _, S, q, fun v h1 x H1 q1 s1 rv1 r1 =>
    ⟨tyA_rel r1 rv1 q1.1, ρ, h1, _, S.step s1 r1, q1.2, fun vs h2 xs H2 q2 s2 rv2 r2 => hl v vs x xs h2 H2 Q' Q r2 (rv1.step s2) rv2 q2 (C.trans (s1.trans s2))⟩⟩
end
section
variable {K : PySem.W.Frag}
theorem Cont.write {h : Hv} {H : Hp} {Q' : PV} {Q : VK} (c : Cont K h H Q' Q) (r : RH K H h) {a : Addr} {vs ws : List Val} {ys : List V} {v : Val} {x : V} (e : h a = some (.lst vs)) (rs : RVs K H h ws ys) (rv : RV K H h v x) (q : Q' v (put h a (.lst ws))) : Q x (upd H a (.lst ys)) := by
  have nb : Ob.lst vs ≠ .busy := fun z => nomatch z
  have s : Step h H (put h a (.lst ws)) (upd H a (.lst ys)) := Step.write e nb
  exact c _ _ _ _ q s (rv.step s) (r.write e nb ⟨ys, upd_same, rs.step s⟩)
def fAppend : FM := fun v ws h Q => match v, ws with
  | .ref a, [w] => (match h a with
    | some (.lst vs) => vs.length < sizeLine ∧ Q .non (put h a (.lst (vs ++ [w])))
    | _ => False)
  | _, _ => False
theorem ml_append : MtL K fAppend rAppend := fun v ws x ys h H Q' Q r rv rs q c => by
  unfold fAppend at q
  split at q
  · rename_i a w
    split at q
    · rename_i vs hv
      obtain ⟨y, e1, ry⟩ := rvs1 rs
      obtain ⟨xs, e2, rx⟩ := r a _ hv
      rw [RV] at rv
      exact ⟨a, xs, y, rv, e1, e2, by rw [← rx.len]; exact q.1, c.write r hv (rx.append (RVs.cons ry RVs.nil)) rv_non q.2⟩
    · exact q.elim
  · exact q.elim
def fPopAt : FM := fun v ws h Q => match v, ws with
  | .ref a, [.int i] => (match h a with
    | some (.lst vs) => (0 ≤ i ∧ i < 2 ^ 62) ∧ (match vs[i.toNat]? with
      | some u => Q u (put h a (.lst (vs.eraseIdx i.toNat)))
      | none => False)
    | _ => False)
  | _, _ => False
theorem ml_popAt : MtL K fPopAt rPopAt := fun v ws x ys h H Q' Q r rv rs q c => by
  unfold fPopAt at q
  split at q
  · rename_i a i
    split at q
    · rename_i vs hv
      obtain ⟨⟨h0, h9⟩, q⟩ := q
      split at q
      · rename_i u eu
        obtain ⟨y, e1, ry⟩ := rvs1 rs
        rw [RV] at ry
        obtain ⟨xs, e2, rx⟩ := r a _ hv
        obtain ⟨z, ez, rz⟩ := rx.get eu
        rw [RV] at rv
        have hi : i.toNat < xs.length := (List.getElem?_eq_some_iff.mp ez).1
        refine ⟨a, xs, i, i.toNat, z, rv, by rw [e1, ry], e2, by omega, by omega, PySem.StrLaws.seqIndex_nonneg h0 (by omega), ez, ?_⟩
        exact c.write r hv (rx.erase _) rz q
      · exact q.elim
    · exact q.elim
  · exact q.elim
end
section
variable {κ : Type} [DecidableEq κ]
def valA (kvs : List (κ × Val)) (k : κ) : Option Val := (kvs.find? fun kv => decide (kv.1 = k)).map (·.2)
def putA (kvs : List (κ × Val)) (k : κ) (v : Val) : List (κ × Val) :=
  if (kvs.any fun kv => decide (kv.1 = k)) = true then kvs.map (fun kv => if kv.1 = k then (kv.1, v) else kv) else kvs ++ [(k, v)]
theorem RKs.val {K : PySem.W.Frag} {H : Hp} {h : Hv} (k : κ) : ∀ {kvs : List (κ × Val)} {xs : List (κ × V)}, RKs K H h kvs xs → (valA kvs k = none ∧ valV xs k = none) ∨ ∃ v x, valA kvs k = some v ∧ valV xs k = some x ∧ RV K H h v x
  | [], xs, r => by rw [show xs = [] from r]; exact .inl ⟨rfl, rfl⟩
  | (j, v) :: kvs, xs, r => by
    obtain ⟨y, ys, e, r1, r2⟩ := r
    rw [e]
    by_cases q : j = k
    · refine .inr ⟨v, y, ?_, ?_, r1⟩
      · unfold valA; rw [List.find?_cons]; simp [q]
      · exact valV_pos q
    · rcases RKs.val k r2 with ⟨a, b⟩ | ⟨w, x, a, b, c⟩
      · refine .inl ⟨?_, by rw [valV_neg q]; exact b⟩
        rw [← a]; unfold valA; rw [List.find?_cons]; simp [q]
      · refine .inr ⟨w, x, ?_, by rw [valV_neg q]; exact b, c⟩
        rw [← a]; unfold valA; rw [List.find?_cons]; simp [q]
theorem RKs.any {K : PySem.W.Frag} {H : Hp} {h : Hv} (k : κ) : ∀ {kvs : List (κ × Val)} {xs : List (κ × V)}, RKs K H h kvs xs → (kvs.any fun kv => decide (kv.1 = k)) = xs.any fun kv => decide (kv.1 = k)
  | [], xs, r => by rw [show xs = [] from r]; rfl
  | (j, v) :: kvs, xs, r => by
    obtain ⟨y, ys, e, r1, r2⟩ := r
    rw [e, List.any_cons, List.any_cons, RKs.any k r2]
theorem RKs.app {K : PySem.W.Frag} {H : Hp} {h : Hv} {k : κ} {v : Val} {x : V} (rv : RV K H h v x) : ∀ {kvs : List (κ × Val)} {xs : List (κ × V)}, RKs K H h kvs xs → RKs K H h (kvs ++ [(k, v)]) (xs ++ [(k, x)])
  | [], xs, r => by rw [show xs = [] from r]; exact ⟨x, [], rfl, rv, rfl⟩
  | (j, w) :: kvs, xs, r => by
    obtain ⟨y, ys, e, r1, r2⟩ := r
    rw [e]
    exact ⟨y, _, rfl, r1, RKs.app rv r2⟩
theorem RKs.repl {K : PySem.W.Frag} {H : Hp} {h : Hv} {k : κ} {v : Val} {x : V} (rv : RV K H h v x) : ∀ {kvs : List (κ × Val)} {xs : List (κ × V)}, RKs K H h kvs xs → RKs K H h (kvs.map fun kv => if kv.1 = k then (kv.1, v) else kv) (xs.map fun kv => if kv.1 = k then (kv.1, x) else kv)
  | [], xs, r => by rw [show xs = [] from r]; exact rfl
  | (j, w) :: kvs, xs, r => by
    obtain ⟨y, ys, e, r1, r2⟩ := r
    rw [e, List.map_cons, List.map_cons]
    by_cases q : j = k
    · simp only [q, if_true]
      exact ⟨x, _, rfl, rv, RKs.repl rv r2⟩
    · simp only [q, if_false]
      exact ⟨y, _, rfl, r1, RKs.repl rv r2⟩
theorem RKs.put {K : PySem.W.Frag} {H : Hp} {h : Hv} {k : κ} {v : Val} {x : V} {kvs : List (κ × Val)} {xs : List (κ × V)} (r : RKs K H h kvs xs) (rv : RV K H h v x) : RKs K H h (putA kvs k v) (putK xs k x) := by
  unfold putA putK
  rw [r.any k]
  split
  · exact RKs.repl rv r
  · exact RKs.app rv r
omit [DecidableEq κ] in
theorem RKs.len {K : PySem.W.Frag} {H : Hp} {h : Hv} : ∀ {kvs : List (κ × Val)} {xs : List (κ × V)}, RKs K H h kvs xs → kvs.length = xs.length
  | [], xs, r => by rw [show xs = [] from r]; rfl
  | (j, w) :: kvs, xs, r => by
    obtain ⟨y, ys, e, r1, r2⟩ := r
    rw [e, List.length_cons, List.length_cons, RKs.len r2]
end
@[simp] def keyOf : Val → Option Key
  | .int i => some (.inl i)
  | .str z => some (.inr z)
  | _ => none
@[simp] def keysOf : List Val → Option (List Key)
  | [] => some []
  | v :: vs => match keyOf v, keysOf vs with
    | some k, some ks => some (k :: ks)
    | _, _ => none
section
variable {K : PySem.W.Frag} {H : Hp} {h : Hv}
theorem keyOf_rel {v : Val} {x : V} {k : Key} (rv : RV K H h v x) (e : keyOf v = some k) : x = kV k := by
  cases v <;> first | (cases e; done) | skip
  · rw [RV] at rv; cases e; exact rv
  · rw [RV] at rv; cases e; exact rv
theorem keysOf_rel : ∀ {vs : List Val} {xs : List V} {ks : List Key}, RVs K H h vs xs → keysOf vs = some ks → xs = ks.map kV
  | [], xs, ks, r, e => by rw [RVs] at r; cases e; exact r
  | v :: vs, xs, ks, r, e => by
    rw [RVs] at r
    obtain ⟨y, ys, e1, r1, r2⟩ := r
    unfold keysOf at e
    split at e
    · rename_i k ks' h1 h2
      cases e
      rw [e1, keyOf_rel r1 h1, keysOf_rel r2 h2]; rfl
    · cases e
@[simp] def dgetA (d k : Val) (h : Hv) : Option (Option Val) := match d with
  | .ref a => (match h a with
    | some (.dK kvs) => (match keyOf k with
      | some k => some (valA kvs k)
      | none => none)
    | some (.dT kvs) => (match k with
      | .tup ks => (match keysOf ks with
        | some ks => some (valA kvs ks)
        | none => none)
      | _ => none)
    | some (.dF _ _ kvs) => (match keyOf k with
      | some k => some (valA kvs k)
      | none => none)
    | some (.dFT _ _ kvs) => (match k with
      | .tup ks => (match keysOf ks with
        | some ks => some (valA kvs ks)
        | none => none)
      | _ => none)
    | _ => none)
  | _ => none
theorem dget_rel {d k : Val} {x y : V} {o : Option Val} (r : RH K H h) (rd : RV K H h d x) (rk : RV K H h k y) (e : dgetA d k h = some o) : ∃ a u, x = .ref a ∧ DGet H a y u ∧ (IsD H a) ∧ ((o = none ∧ u = none) ∨ ∃ v z, o = some v ∧ u = some z ∧ RV K H h v z) := by
  unfold dgetA at e
  split at e
  · rename_i a
    rw [RV] at rd
    split at e
    · rename_i kvs hv
      obtain ⟨xs, e1, rs⟩ := r a _ hv
      split at e
      · rename_i kk hk
        cases e
        refine ⟨a, _, rd, by rw [keyOf_rel rk hk]; exact .k e1, .inl ⟨xs, .inl e1⟩, ?_⟩
        rcases rs.val kk with ⟨p, q⟩ | ⟨v, z, p, q, rv⟩
        · exact .inl ⟨p, q⟩
        · exact .inr ⟨v, z, p, q, rv⟩
      · cases e
    · rename_i kvs hv
      obtain ⟨xs, e1, rs⟩ := r a _ hv
      split at e
      · rename_i ks
        split at e
        · rename_i kk hk
          cases e
          rw [RV] at rk
          obtain ⟨b, ys, eb, n, hb, rb⟩ := rk
          rw [keysOf_rel rb hk] at hb
          refine ⟨a, _, rd, by rw [eb]; exact .t e1 hb, .inr ⟨xs, .inl e1⟩, ?_⟩
          rcases rs.val kk with ⟨p, q⟩ | ⟨v, z, p, q, rv⟩
          · exact .inl ⟨p, q⟩
          · exact .inr ⟨v, z, p, q, rv⟩
        · cases e
      · cases e
    · rename_i o xs kvs hv
      obtain ⟨e1, rs⟩ := r a _ hv
      split at e
      · rename_i kk hk
        cases e
        refine ⟨a, _, rd, by rw [keyOf_rel rk hk]; exact .inl ⟨xs, kk, .inr ⟨o, e1⟩, rfl, rfl⟩, .inl ⟨xs, .inr ⟨o, e1⟩⟩, ?_⟩
        rcases rs.val kk with ⟨p, q⟩ | ⟨v, z, p, q, rv⟩
        · exact .inl ⟨p, q⟩
        · exact .inr ⟨v, z, p, q, rv⟩
      · cases e
    · rename_i o xs kvs hv
      obtain ⟨e1, rs⟩ := r a _ hv
      split at e
      · rename_i ks
        split at e
        · rename_i kk hk
          cases e
          rw [RV] at rk
          obtain ⟨b, ys, eb, n, hb, rb⟩ := rk
          rw [keysOf_rel rb hk] at hb
          refine ⟨a, _, rd, by rw [eb]; exact .inr ⟨xs, kk, b, .inr ⟨o, e1⟩, rfl, hb, rfl⟩, .inr ⟨xs, .inr ⟨o, e1⟩⟩, ?_⟩
          rcases rs.val kk with ⟨p, q⟩ | ⟨v, z, p, q, rv⟩
          · exact .inl ⟨p, q⟩
          · exact .inr ⟨v, z, p, q, rv⟩
        · cases e
      · cases e
    · cases e
  · cases e
def dputA (d k v : Val) (h : Hv) : Option Hv := match d with
  | .ref a => (match h a with
    | some (.dK kvs) => (match keyOf k with
      | some k => if kvs.length < sizeLine then some (put h a (.dK (putA kvs k v))) else none
      | none => none)
    | some (.dT kvs) => (match k with
      | .tup ks => (match keysOf ks with
        | some ks => if kvs.length < sizeLine then some (put h a (.dT (putA kvs ks v))) else none
        | none => none)
      | _ => none)
    | _ => none)
  | _ => none
theorem dput_rel {d k v : Val} {x y z : V} {h' : Hv} (r : RH K H h) (rd : RV K H h d x) (rk : RV K H h k y) (rv : RV K H h v z) (e : dputA d k v h = some h') : ∃ a H', x = .ref a ∧ DPut H a y z H' ∧ Step h H h' H' ∧ RH K H' h' := by
  unfold dputA at e
  split at e
  · rename_i a
    rw [RV] at rd
    split at e
    · rename_i kvs hv
      obtain ⟨xs, e1, rs⟩ := r a _ hv
      split at e
      · rename_i kk hk
        split at e
        · rename_i hl
          cases e
          have s : Step h H (put h a (.dK (putA kvs kk v))) (upd H a (.dK (putK xs kk z))) := Step.write hv (fun z => nomatch z)
          refine ⟨a, _, rd, by rw [keyOf_rel rk hk]; exact .k e1 (by rw [← rs.len]; exact hl), s, r.write hv (fun z => nomatch z) ⟨_, upd_same, (rs.put rv).step s⟩⟩
        · cases e
      · cases e
    · rename_i kvs hv
      obtain ⟨xs, e1, rs⟩ := r a _ hv
      split at e
      · rename_i ks
        split at e
        · rename_i kk hk
          split at e
          · rename_i hl
            cases e
            rw [RV] at rk
            obtain ⟨b, ys, eb, n, hb, rb⟩ := rk
            rw [keysOf_rel rb hk] at hb
            have s : Step h H (put h a (.dT (putA kvs kk v))) (upd H a (.dT (putK xs kk z))) := Step.write hv (fun z => nomatch z)
            refine ⟨a, _, rd, by rw [eb]; exact .t e1 hb (by rw [← rs.len]; exact hl), s, r.write hv (fun z => nomatch z) ⟨_, upd_same, (rs.put rv).step s⟩⟩
          · cases e
        · cases e
      · cases e
    · cases e
  · cases e
end
section
variable {X : Cx} {B : Bs} {o i e f : Expr} {dd di de df : ED} {pos pos' apos cpos : Pos}
@[simp] def dDGet (dd dk : ED) : ED := fun ρ h Q E => dd ρ h (fun v h1 => dk ρ h1 (fun k h2 => match dgetA v k h2 with
  | some (some u) => Q u h2
  | _ => False) E) E
theorem de_dget (hu : X.A.units + 1 < cLine) (ho : DE X B o dd) (hi : DE X B i di) (hs : NoSl i := by exact fun _ _ => rfl) : DE X B (.Subscript o i pos) (dDGet dd di) :=
  PEi (pe_dget hu ho hi hs) fun σ H Q ⟨ρ, h, Q', S, q, C⟩ => ⟨ρ, h, _, S, q, fun v h1 x H1 q1 s1 rv1 r1 => ⟨ρ, h1, _, S.step s1 r1, q1, fun k h2 y H2 q2 s2 rv2 r2 => by
    split at q2
    · rename_i u eu
      obtain ⟨a, z, ex, g, _, z1 | ⟨w, zz, e1, e2, rv⟩⟩ := dget_rel r2 (rv1.step s2) rv2 eu
      · cases z1.1
      · cases e1
        subst e2
        exact ⟨a, zz, ex, g, (C.trans (s1.trans s2)).val r2 rv q2⟩
    · exact q2.elim⟩⟩
@[simp] def dDGet2 (dd dk df : ED) : ED := fun ρ h Q E => dd ρ h (fun v h1 => (dgetA v (.int 0) h1).isSome = true ∧ dk ρ h1 (fun k h2 => df ρ h2 (fun w h3 => match dgetA v k h3 with
  | some (some u) => Q u h3
  | some none => Q w h3
  | none => False) E) E) E
theorem de_dget2 (hu : X.A.units + 1 < cLine) (ho : DE X B o dd) (he : DE X B e de) (hf : DE X B f df) (m : M2 X o "get" apos e f cpos) : DE X B (.Call (.Attribute o "get" apos) [e, f] [] cpos) (dDGet2 dd de df) :=
  PEi (pe_dget2 hu ho he hf m) fun σ H Q ⟨ρ, h, Q', S, q, C⟩ => ⟨ρ, h, _, S, q, fun v h1 x H1 q1 s1 rv1 r1 => by
    obtain ⟨q0, q1⟩ := q1
    obtain ⟨o', e0⟩ := Option.isSome_iff_exists.mp q0
    obtain ⟨a, z, ex, _, isd, _⟩ := dget_rel r1 rv1 (rv_int (b := 0)) e0
    refine ⟨a, ex, isd, ρ, h1, _, S.step s1 r1, q1, fun k h2 y H2 q2 s2 rv2 r2 => ⟨ρ, h2, _, S.step (s1.trans s2) r2, q2, fun w h3 yw H3 q3 s3 rv3 r3 => ?_⟩⟩
    have C3 := C.trans (s1.trans (s2.trans s3))
    split at q3
    · rename_i u eu
      obtain ⟨a', z, ex', g, _, z1 | ⟨w, zz, e1, e2, rv⟩⟩ := dget_rel r3 (rv1.step (s2.trans s3)) (rv2.step s3) eu
      · cases z1.1
      · cases e1
        subst e2
        rw [ex] at ex'
        cases ex'
        exact ⟨_, g, C3.val r3 rv q3⟩
    · rename_i eu
      obtain ⟨a', z, ex', g, _, z1 | ⟨w, zz, e1, e2, rv⟩⟩ := dget_rel r3 (rv1.step (s2.trans s3)) (rv2.step s3) eu
      · rw [ex] at ex'
        cases ex'
        refine ⟨_, g, ?_⟩
        rw [z1.2]
        exact C3.val r3 rv3 q3
      · cases e1
    · exact q3.elim⟩
@[simp] def dDIn (dk dd : ED) : ED := fun ρ h Q E => dk ρ h (fun k h1 => dd ρ h1 (fun v h2 => match dgetA v k h2 with
  | some o => Q (.bl o.isSome) h2
  | none => False) E) E
@[simp] def dDNotIn (dk dd : ED) : ED := fun ρ h Q E => dk ρ h (fun k h1 => dd ρ h1 (fun v h2 => match dgetA v k h2 with
  | some o => Q (.bl (!o.isSome)) h2
  | none => False) E) E
@[simp] def sDPut (dd dk dv : ED) : SD := fun ρ h D E => dv ρ h (fun v h1 => dd ρ h1 (fun d h2 => dk ρ h2 (fun k h3 => match dputA d k v h3 with
  | some h4 => D.nx ρ h4
  | none => False) E) E) E
theorem ds_dput (hu : X.A.units + 1 < cLine) (ho : DE X B o dd) (hi : DE X B i di) (hv : DE X B e de) (hs : swapsWith e (some (.Subscript o i pos')) pos.line X.env = pure false := by rfl) : DS X B (.Assign [.Subscript o i pos'] e pos) (sDPut dd di de) :=
  PSi (ps_dput hu ho hi hv hs) fun D σ H ⟨ρ, h, D', S, q, C⟩ => ⟨ρ, h, _, S, q, fun v h1 z H1 q1 s1 rv1 r1 => ⟨ρ, h1, _, S.step s1 r1, q1, fun d h2 x H2 q2 s2 rv2 r2 => ⟨ρ, h2, _, S.step (s1.trans s2) r2, q2, fun k h3 y H3 q3 s3 rv3 r3 => by
    split at q3
    · rename_i h4 e4
      obtain ⟨a, H4, ex, g, s4, r4⟩ := dput_rel r3 (rv2.step s3) rv3 (rv1.step (s2.trans s3)) e4
      have s14 := s1.trans (s2.trans (s3.trans s4))
      exact ⟨a, H4, ex, g, C.nx _ _ _ _ q3 s14 (S.step s14 r4)⟩
    · exact q3.elim⟩⟩⟩
@[simp] def dNewK : ED := fun _ h Q _ => ∀ p, h p = none → Q (.ref p) (put h p (.dK []))
@[simp] def dNewT : ED := fun _ h Q _ => ∀ p, h p = none → Q (.ref p) (put h p (.dT []))
theorem de_dnewK : DE X B (.Dict [] [] pos) dNewK := PEi pe_dnewK fun σ H Q ⟨ρ, h, Q', S, q, C⟩ p e => C _ _ _ _ (q p (S.r.nof e)) (Step.new e) (by rw [RV]) (S.r.new e ⟨[], upd_same, rfl⟩)
end
end DL
namespace DL
open PySem PySem.Spec PyProof.Rows L2
def gk {α : Type} (np nk : Nat) (us ws : List α) : List α := if us.length = np ∧ ws.length = nk then us ++ ws else []
def FnK (P : Program) (w : World) (K : PySem.W.Frag) (mg : Str → Option Value) (base : Heap) (A : Around) (x : Str) (np : Nat) (ks : List Str) (fs : SpF) : Prop :=
  ∃ (k : Nat) (f : Addr) (fd : FuncData) (ps : List Str), FnOk P w K mg base (L2.CX P w) k f fd ps (spA K mg (np + ks.length) fs) ∧ Room k A ∧ mg x = some (.ref f) ∧ PySem.W.keepIn K (.ref f) = true ∧ KBinds K fd ps ks (gk np ks.length) (gk np ks.length)
section
variable {X : Cx} {B : Bs} {x : Str} {np : Nat} {ks : List Str} {fs : SpF} {p pos kpos : Pos} {e : Expr} {es : List Expr} {kws : List Keyword} {aa dk : AD} {de : ED} {nm : Option Str}
@[simp] def dCallK (np nk : Nat) (fs : SpF) (aa dk : AD) : ED := fun ρ h Q E => aa ρ h (fun vs h1 => dk ρ h1 (fun ws h2 => (vs.length = np ∧ ws.length = nk) ∧ fs (vs ++ ws) h2 Q (fun nm pl h' => E nm pl ρ h')) E) E
end
@[simp] def dPairs : List (ED × ED) → Sl → Hv → (List (Val × Val) → Hv → Prop) → PX → Prop
  | [], _, h, Q, _ => Q [] h
  | (dk, dv) :: r, ρ, h, Q, E => dk ρ h (fun k h1 => dv ρ h1 (fun v h2 => dPairs r ρ h2 (fun ps h3 => Q ((k, v) :: ps) h3) E) E) E
@[simp] def kvsOf : List (Val × Val) → Option (List (Key × Val))
  | [] => some []
  | (k, v) :: r => match keyOf k, kvsOf r with
    | some k, some r => some ((k, v) :: r)
    | _, _ => none
@[simp] def mergeA (kvs more : List (Key × Val)) : List (Key × Val) := more.foldl (fun acc kv => putA acc kv.1 kv.2) kvs
def dDisp (ps : List (ED × ED)) : ED := fun ρ h Q E => ∀ p, h p = none → dPairs ps ρ (put h p .busy) (fun kvs h2 => match kvsOf kvs with
  | some kvs => kvs.length ≤ 15 ∧ Q (.ref p) (put h2 p (.dK (mergeA [] kvs)))
  | none => False) E
def RPs (K : PySem.W.Frag) (H : Hp) (h : Hv) : List (Val × Val) → List (V × V) → Prop
  | [], xs => xs = []
  | (k, v) :: r, xs => ∃ y z ys, xs = (y, z) :: ys ∧ RV K H h k y ∧ RV K H h v z ∧ RPs K H h r ys
theorem RPs.step {K : PySem.W.Frag} {H H' : Hp} {h h' : Hv} (s : Step h H h' H') : ∀ {ps : List (Val × Val)} {xs : List (V × V)}, RPs K H h ps xs → RPs K H' h' ps xs
  | [], xs, r => r
  | (k, v) :: ps, xs, r => by
    obtain ⟨y, z, ys, e, r1, r2, r3⟩ := r
    exact ⟨y, z, ys, e, r1.step s, r2.step s, RPs.step s r3⟩
theorem kvs_rel {K : PySem.W.Frag} {H : Hp} {h : Hv} : ∀ {ps : List (Val × Val)} {xs : List (V × V)} {kvs : List (Key × Val)}, RPs K H h ps xs → kvsOf ps = some kvs → ∃ ws : List (Key × V), xs = ws.map (fun kv => (kV kv.1, kv.2)) ∧ RKs K H h kvs ws
  | [], xs, kvs, r, e => by cases e; exact ⟨[], r, rfl⟩
  | (k, v) :: ps, xs, kvs, r, e => by
    obtain ⟨y, z, ys, e1, r1, r2, r3⟩ := r
    unfold kvsOf at e
    split at e
    · rename_i kk rr h1 h2
      cases e
      obtain ⟨ws, e2, rw'⟩ := kvs_rel r3 h2
      refine ⟨(kk, z) :: ws, ?_, z, ws, rfl, r2, rw'⟩
      rw [e1, e2, keyOf_rel r1 h1]; rfl
    · cases e
theorem merge_rel {K : PySem.W.Frag} {H : Hp} {h : Hv} : ∀ {more : List (Key × Val)} {ws : List (Key × V)} {kvs : List (Key × Val)} {xs : List (Key × V)}, RKs K H h more ws → RKs K H h kvs xs → RKs K H h (mergeA kvs more) (mergeK xs ws)
  | [], ws, kvs, xs, r, q => by rw [show ws = [] from r]; exact q
  | (k, v) :: more, ws, kvs, xs, r, q => by
    obtain ⟨y, ys, e, r1, r2⟩ := r
    rw [e]
    show RKs K H h (mergeA (putA kvs k v) more) (mergeK (putK xs k y) ys)
    exact merge_rel r2 (q.put r1)
section
variable {X : Cx} {B : Bs} {pos : Pos}
def trsOf (K : PySem.W.Frag) (B : Bs) (ps : List (ED × ED)) : List (TE × TE) := ps.map fun p => (rdE K B p.1, rdE K B p.2)
theorem pairs_rel {K : PySem.W.Frag} {B : Bs} : ∀ (ps : List (ED × ED)) {σ : L2.St} {H : Hp} {ρ : Sl} {h : Hv} {Q' : List (Val × Val) → Hv → Prop} {Q : List (V × V) → Hp → Prop}, ST K B σ H ρ h → dPairs ps ρ h Q' B.E →
    (∀ kvs h' xs H', Q' kvs h' → Step h H h' H' → RPs K H' h' kvs xs → RH K H' h' → Q xs H') → tPairs (trsOf K B ps) σ H Q
  | [], σ, H, ρ, h, Q', Q, S, q, C => C _ _ _ _ q (Step.refl _ _) rfl S.r
  | (dk, dv) :: ps, σ, H, ρ, h, Q', Q, S, q, C => by
    refine ⟨ρ, h, _, S, q, fun k h1 y H1 q1 s1 rv1 r1 => ⟨ρ, h1, _, S.step s1 r1, q1, fun v h2 z H2 q2 s2 rv2 r2 => ?_⟩⟩
    exact pairs_rel ps (S.step (s1.trans s2) r2) q2 fun kvs h3 xs H3 q3 s3 rp r3 => C _ _ _ _ q3 (s1.trans (s2.trans s3)) ⟨y, z, xs, rfl, rv1.step (s2.trans s3), rv2.step s3, rp⟩ r3
theorem de_disp {keys : List (Option Expr)} {values : List Expr} {ps : List (ED × ED)} (h : PPs X pos keys values (trsOf X.K B ps)) (hall : keys.all (·.isSome) = true := by rfl) (hl : keys.length = values.length := by rfl) (h0 : keys ≠ [] := by exact fun z => nomatch z)
    (h15 : keys.length ≤ 15 := by decide) : DE X B (.Dict keys values pos) (dDisp ps) := by
  refine PEi (pe_disp h hall hl h0 h15) fun σ H Q ⟨ρ, h, Q', S, q, C⟩ p e => ?_
  have nh : h p = none := S.r.nof e
  have s0 : Step h H (put h p .busy) (upd H p (.dK [])) := Step.new e
  have r0 : RH X.K (upd H p (.dK [])) (put h p .busy) := S.r.new e ⟨_, upd_same, .inr ⟨_, rfl⟩⟩
  refine pairs_rel ps (S.step s0 r0) (q p nh) fun kvs h2 xs H2 q2 s2 rp r2 => ?_
  have b2 := s2.b p _ upd_same put_same
  refine ⟨b2.1, ?_⟩
  split at q2
  · rename_i kvs' ek
    obtain ⟨ws, e1, rw'⟩ := kvs_rel rp ek
    refine ⟨ws, e1, by rw [← rw'.len]; exact q2.1, ?_⟩
    have sN : StepN h2 H2 (put h2 p (.dK (mergeA [] kvs'))) (upd H2 p (.dK (mergeK [] ws))) := fun a o ea n _ => by
      have : a ≠ p := fun z => by rw [z, b2.2] at n; cases n
      rw [upd_ne this, put_ne this]
      exact ⟨ea, n⟩
    have sf : Step h H (put h2 p (.dK (mergeA [] kvs'))) (upd H2 p (.dK (mergeK [] ws))) := ⟨fun a o ea n t => by
      obtain ⟨e2, n2⟩ := (s0.trans s2).n a o ea n t
      exact sN a o e2 n2 t, fun a o ea n => by
      have ne : a ≠ p := ne_of_none ea e
      rw [upd_ne ne, put_ne ne]
      exact (s0.trans s2).b a o ea n⟩
    refine C _ _ _ _ q2.2 sf (by rw [RV]) fun a o qa => ?_
    by_cases ha : a = p
    · subst ha
      rw [put_same] at qa
      cases qa
      exact ⟨_, upd_same, (merge_rel rw' (show RKs X.K H2 h2 [] [] from rfl)).stepN sN⟩
    · rw [put_ne ha] at qa
      exact (r2 a o qa).stepN sN fun _ z => by rw [upd_ne ha]; exact z
  · exact q2.elim
end
end DL
namespace DL
open PySem PySem.Spec PyProof.Rows L2
open PySem.AutoSeq1 (wpAny_loadPart')
open PySem.MeetsSeq PySem.MeetsSeq2 PySem.MeetsSeq3
theorem tuple_mul1 (l : Addr) (items : Array Value) (n : Nat) (dd : Option Addr) (sl : Array (Option Value)) (x : Int) (u : Tok) (c0 : (decide (x < -(2 ^ 63)) || decide (x ≥ 2 ^ 63)) = false) (c1 : (items.isEmpty || x == 1) = true) :
    Meets (Builtin.«tuple.__mul__» ⟨[.ref l, .int x u], []⟩) (fun _ R s => s.heap.get? l = some { cls := .type "tuple", dict := dd, data := .seq items n, slots := sl } ∧ R (.ok (.ret (Value.ref l))) s) :=
  .of_wp fun prog w A R s h => by
    obtain ⟨hp, g, d, tk, os⟩ := s
    obtain ⟨hl, h⟩ := h
    have f1 := AutoSeq1.idx_int
    wp_walk using wpAny_loadPart' hl
    refine wpAny_ite_false (decide_eq_false (by rw [c0]; exact Bool.false_ne_true)) ?_
    wp_walk using wpAny_loadPart' hl
    exact ⟨_, rfl, h⟩
theorem tuple_mul0 (l : Addr) (items : Array Value) (n : Nat) (dd : Option Addr) (sl : Array (Option Value)) (x : Int) (u : Tok) (c0 : (decide (x < -(2 ^ 63)) || decide (x ≥ 2 ^ 63)) = false) (c1 : (items.isEmpty || x == 1) = false) (c2 : (decide (x ≤ 0) || items.isEmpty) = true) :
    Meets (Builtin.«tuple.__mul__» ⟨[.ref l, .int x u], []⟩) (fun _ R s => s.heap.get? l = some { cls := .type "tuple", dict := dd, data := .seq items n, slots := sl } ∧
      R (.ok (.ret (Value.ref s.heap.objs.size))) { s with heap := s.heap.push { cls := Value.type "tuple", data := Data.seq #[] }, toks := s.toks }) :=
  .of_wp fun prog w A R s h => by
    obtain ⟨hp, g, d, tk, os⟩ := s
    obtain ⟨hl, h⟩ := h
    have f1 := AutoSeq1.idx_int
    wp_walk using wpAny_loadPart' hl
    repeat (first
      | (refine wpAny_ite_false (decide_eq_false (by rw [c0]; exact Bool.false_ne_true)) ?_; wp_walk using wpAny_loadPart' hl)
      | (refine wpAny_ite_false (decide_eq_false (by rw [c1]; exact Bool.false_ne_true)) ?_; wp_walk using wpAny_loadPart' hl)
      | (refine wpAny_ite_true (decide_eq_true c2) ?_; wp_walk using wpAny_loadPart' hl))
    exact ⟨_, rfl, h⟩
def rRepA (K : PySem.W.Frag) : R2 := fun x y H Q => ∃ l k xs, x = .ref l ∧ y = .int k ∧ SqT K H l xs ∧ -1000 ≤ k ∧ k ≤ 1000 ∧ xs.length ≤ 1000 ∧
  ((xs = [] ∨ k = 1) → Q (.ref l) H) ∧ (xs ≠ [] → k ≤ 0 → ∀ p, H p = none → Q (.ref p) (upd H p (.tup []))) ∧ (xs ≠ [] → 2 ≤ k → ∀ p, H p = none → Q (.ref p) (upd H p (.tup (List.replicate k.toNat xs).flatten)))
theorem op_repA {X : Cx} : OpR X (binaryOp .Mult) (rRepA X.K) := by
  intro pins s σ H x y v u Q I rx ry h
  obtain ⟨l, k, xs, e1, e2, hT, h1, h2, hz, q1, q2, q3⟩ := h
  by_cases hc : xs ≠ [] ∧ 2 ≤ k
  · exact op_repT pins s σ H x y v u Q I rx ry ⟨l, k, xs, e1, e2, hT, hc.1, hc.2, h2, hz, q3 hc.1 hc.2⟩
  subst e1; subst e2
  cases rx
  obtain ⟨t, rfl⟩ := ry
  obtain ⟨its, r, ⟨⟨cls, dd, data, sl⟩, ho, hcc, n, hd⟩, hs⟩ := I.tuple hT
  simp only at hcc hd
  subst hcc hd
  have hle : its.length = xs.length := r.length.symm
  have c0 : (decide (k < -(2 ^ 63)) || decide (k ≥ 2 ^ 63)) = false := by
    rw [decide_eq_false (by omega), decide_eq_false (by omega)] <;> rfl
  by_cases hx : xs = [] ∨ k = 1
  · have c1 : (its.toArray.isEmpty || k == 1) = true := by
      rcases hx with hx | hx
      · have : its = [] := List.eq_nil_of_length_eq_zero (by rw [hle, hx]; rfl)
        rw [this]; rfl
      · rw [hx]; simp
    exact wpAny_binaryOp_repeat_ref (T := "tuple") (U := "int") (by decide) ⟨_, ho, rfl⟩ (fun s' => typeIs_int s' k t) noFill_tuple_mul F.fills_int_mul F.slot_int_rmul repeat_tuple F.slot_int_index.lookup
      (call_meets F.slot_int_rmul (typeIs_int s k t) F.entry_int_rmul (F.args_int_rmul_2 _ _) (int_rmul_tuple k t l its.toArray n dd sl)
        ⟨ho, rfl, ⟨_, ho, rfl⟩, call_meets F.slot_tuple_mul ⟨_, ho, rfl⟩ F.entry_tuple_mul (F.args_tuple_mul_2 _ _) (tuple_mul1 l its.toArray n dd sl k t c0 c1) ⟨ho, ⟨.ref l, H, I, rfl, q1 hx⟩⟩⟩)
  · have hn : xs ≠ [] := fun z => hx (.inl z)
    have hk : k ≤ 0 := by
      apply Int.not_lt.mp
      intro hk
      exact hc ⟨hn, by have : k ≠ 1 := fun z => hx (.inr z); omega⟩
    have hi : its.toArray.isEmpty = false := by
      cases its with
      | nil => exact absurd (List.eq_nil_of_length_eq_zero hle.symm) hn
      | cons a b => rfl
    have c1 : (its.toArray.isEmpty || k == 1) = false := by
      rw [hi, Bool.false_or]
      exact beq_eq_false_iff_ne.mpr (by omega)
    have c2 : (decide (k ≤ 0) || its.toArray.isEmpty) = true := by rw [decide_eq_true hk]; rfl
    refine wpAny_binaryOp_repeat_ref (T := "tuple") (U := "int") (by decide) ⟨_, ho, rfl⟩ (fun s' => typeIs_int s' k t) noFill_tuple_mul F.fills_int_mul F.slot_int_rmul repeat_tuple F.slot_int_index.lookup
      (call_meets F.slot_int_rmul (typeIs_int s k t) F.entry_int_rmul (F.args_int_rmul_2 _ _) (int_rmul_tuple k t l its.toArray n dd sl)
        ⟨ho, rfl, ⟨_, ho, rfl⟩, call_meets F.slot_tuple_mul ⟨_, ho, rfl⟩ F.entry_tuple_mul (F.args_tuple_mul_2 _ _) (tuple_mul0 l its.toArray n dd sl k t c0 c1 c2) ⟨ho, ?_⟩⟩)
    refine ⟨.ref s.heap.objs.size, _, I.laid (t' := s.toks) (o := .tup []) (fun b ob q => Heap.get?_push_of_some _ q) (Nat.le_refl _) ?_, rfl, q2 hn hk _ (I.hok.fresh (Nat.le_refl _))⟩
    exact ⟨Nat.zero_le _, [], .nil, IsTup.new _ _⟩
@[simp] def fMulA : F2 := fun v w h Q => match v, w with
  | .int i, .int j => CMul i j ∧ Q (.int (i * j)) h
  | .tup xs, .int k => -1000 ≤ k ∧ k ≤ 1000 ∧ xs.length ≤ 1000 ∧ Q (.tup (List.replicate k.toNat xs).flatten) h
  | _, _ => False
theorem or_mul {X : Cx} : OpR X (binaryOp .Mult) (fun x y H Q => rI CMul (fun i j => .int (i * j)) x y H Q ∨ rRepA X.K x y H Q) := op_mul.or op_repA
theorem RVs.rep {K : PySem.W.Frag} {H : Hp} {h : Hv} {vs : List Val} {xs : List V} (r : RVs K H h vs xs) : ∀ k : Nat, RVs K H h (List.replicate k vs).flatten (List.replicate k xs).flatten
  | 0 => RVs.nil
  | k + 1 => by rw [List.replicate_succ, List.replicate_succ, List.flatten_cons, List.flatten_cons]; exact r.append (RVs.rep r k)
theorem ol_mul {K : PySem.W.Frag} : OpL K fMulA (fun x y H Q => rI CMul (fun i j => .int (i * j)) x y H Q ∨ rRepA K x y H Q) := fun v w x y h H Q' Q r rv rw' q c => by
  unfold fMulA at q
  split at q
  · rw [RV] at rv rw'; exact .inl ⟨_, _, rv, rw', q.1, c.val r rv_int q.2⟩
  · rename_i vs k
    have rv0 := rv
    rw [RV] at rv
    rw [RV] at rw'
    obtain ⟨a, xs, e1, n, ha, rs⟩ := rv
    obtain ⟨h1, h2, h3, q⟩ := q
    refine .inr ⟨a, k, xs, e1, rw', .of ha, h1, h2, by rw [← rs.len]; exact h3, fun hx => ?_, fun hx hk p e => ?_, fun hx hk p e => c.tup r (rs.rep _) e q⟩
    · rw [← e1]
      rcases hx with hx | hx
      · have : vs = [] := List.eq_nil_of_length_eq_zero (by rw [rs.len, hx]; rfl)
        subst this
        have : (List.replicate k.toNat ([] : List Val)).flatten = [] := by simp
        rw [this] at q
        exact c.val r rv0 q
      · subst hx
        simp only [Int.toNat_one, List.replicate_one, List.flatten_singleton] at q
        exact c.val r rv0 q
    · have : k.toNat = 0 := by omega
      rw [this] at q
      exact c.tup r RVs.nil e q
  · exact q.elim
section
variable {prog : Program} {w : World} {A : Around} {E : Value → Shared → Prop} {s : Shared}
end
@[simp] def dRev (d : ED) : ED := fun ρ h Q E => d ρ h (fun v h1 => match v with
  | .tup vs => Q (.tup vs.reverse) h1
  | .tpo vs => Q (.tup vs.reverse) h1
  | v => match listOf v h1 with
    | some vs => Q (.lst vs.reverse) h1
    | none => False) E
end DL
namespace DL
open PySem PySem.Spec PyProof.Rows L2
theorem bt_len : bootBuiltins "len" = some (.builtin "len") := by decide +kernel
theorem bt_all : bootBuiltins "all" = some (.builtin "all") := by decide +kernel
theorem bt_any : bootBuiltins "any" = some (.builtin "any") := by decide +kernel
theorem bt_sum : bootBuiltins "sum" = some (.builtin "sum") := by decide +kernel
theorem bt_sorted : bootBuiltins "sorted" = some (.builtin "sorted") := by decide +kernel
theorem bt_isinstance : bootBuiltins "isinstance" = some (.builtin "isinstance") := by decide +kernel
theorem bt_min : bootBuiltins "min" = some (.builtin "min") := by decide +kernel
theorem bt_max : bootBuiltins "max" = some (.builtin "max") := by decide +kernel
theorem bt_tuple : bootBuiltins "tuple" = some (.type "tuple") := by decide +kernel
theorem bt_list : bootBuiltins "list" = some (.type "list") := by decide +kernel
theorem bt_bool : bootBuiltins "bool" = some (.type "bool") := by decide +kernel
theorem bt_str : bootBuiltins "str" = some (.type "str") := by decide +kernel
theorem bt_dict : bootBuiltins "dict" = some (.type "dict") := by decide +kernel
section
variable {X : Cx} {pos : Pos}
theorem gt_name {i : Nat} {x : Str} (hN : X.N.Nodup) (hi : X.N[i]? = some x) (hx : Loc X.env.scope x) (hf : X.fn x = true ∨ X.env.scope.names.lookup x = some .local := by first | exact .inl rfl | exact .inr rfl | assumption) : PG X (.Name x pos) (gT X.K (.nm i)) := by
  rw [gT]; exact pg_name hN hi hx hf
theorem gts_nil : PGs X [] (gTs X.K []) := by rw [gTs]; exact pgs_nil
theorem gts_cons {e : Expr} {es : List Expr} {t : Tg} {ts : List Tg} (h1 : PG X e (gT X.K t)) (h2 : PGs X es (gTs X.K ts))
    (hs : (assignEach (e :: es) X.env).map (·.2) = assign e X.env :: (assignEach es X.env).map (·.2) := by rfl) : PGs X (e :: es) (gTs X.K (t :: ts)) := by
  rw [gTs]; exact pgs_cons h1 h2 hs
theorem gt_tup {es : List Expr} {k : Nat} {ts : List Tg} (hc : X.calm = true) (h : PGs X es (gTs X.K ts))
    (hn : (assignEach es X.env).length = ts.length := by rfl) (hst : (assignEach es X.env).findIdx? (·.1) = none := by rfl) : PG X (.Tuple es k pos) (gT X.K (.tp ts)) := by
  rw [gT]; exact pg_tup hc h hn hst
end
def FnR (P : Program) (w : World) (K : PySem.W.Frag) (mg : Str → Option Value) (base : Heap) (k : Nat) (x : Str) (n : Nat) (fs : SpF) : Prop :=
  ∃ (f : Addr) (fd : FuncData) (ps : List Str), FnOk P w K mg base (L2.CX P w) k f fd ps (spA K mg n fs) ∧ mg x = some (.ref f) ∧ PySem.W.keepIn K (.ref f) = true ∧ Binds K fd ps []
theorem FnR.at {P : Program} {w : World} {K : PySem.W.Frag} {mg : Str → Option Value} {base : Heap} {k j : Nat} {x : Str} {n : Nat} {fs : SpF} {A : Around} (F : FnR P w K mg base k x n fs) (hr : Room j A) (h : k ≤ j := by decide) : Fn P w K mg base A x n fs :=
  let ⟨f, fd, ps, a, b, c, d⟩ := F; ⟨k, f, fd, ps, a, hr.mono h, b, c, d⟩
def FnKR (P : Program) (w : World) (K : PySem.W.Frag) (mg : Str → Option Value) (base : Heap) (k : Nat) (x : Str) (np : Nat) (ks : List Str) (fs : SpF) : Prop :=
  ∃ (f : Addr) (fd : FuncData) (ps : List Str), FnOk P w K mg base (L2.CX P w) k f fd ps (spA K mg (np + ks.length) fs) ∧ mg x = some (.ref f) ∧ PySem.W.keepIn K (.ref f) = true ∧ KBinds K fd ps ks (gk np ks.length) (gk np ks.length)
theorem FnKR.at {P : Program} {w : World} {K : PySem.W.Frag} {mg : Str → Option Value} {base : Heap} {k j : Nat} {x : Str} {np : Nat} {ks : List Str} {fs : SpF} {A : Around} (F : FnKR P w K mg base k x np ks fs) (hr : Room j A) (h : k ≤ j := by decide) : FnK P w K mg base A x np ks fs :=
  let ⟨f, fd, ps, a, b, c, d⟩ := F; ⟨k, f, fd, ps, a, hr.mono h, b, c, d⟩
end DL
namespace DL
open PySem PySem.Spec PyProof.Rows L2
section
variable {X : Cx} {B : Bs}
end
section
variable {α : Type} (le : α → α → Bool)
def insB (x : α) : List α → List α
  | [] => [x]
  | y :: r => if le x y = true then x :: y :: r else y :: insB x r
def srtB : List α → List α
  | [] => []
  | x :: r => insB le x (srtB r)
variable {le}
theorem insB_perm (x : α) : ∀ l, (insB le x l).Perm (x :: l)
  | [] => List.Perm.refl _
  | y :: r => by
    unfold insB
    split
    · exact List.Perm.refl _
    · exact ((insB_perm x r).cons y).trans (List.Perm.swap x y r)
theorem srtB_perm : ∀ l : List α, (srtB le l).Perm l
  | [] => List.Perm.refl _
  | x :: r => (insB_perm x (srtB le r)).trans ((srtB_perm r).cons x)
theorem insB_srt (tot : ∀ a b, le a b = true ∨ le b a = true) (tr : ∀ a b c, le a b = true → le b c = true → le a c = true) (x : α) : ∀ {l}, l.Pairwise (fun a b => le a b = true) → (insB le x l).Pairwise (fun a b => le a b = true)
  | [], _ => by unfold insB; simp
  | y :: r, h => by
    rw [List.pairwise_cons] at h
    unfold insB
    split
    · rename_i hxy
      rw [List.pairwise_cons]
      refine ⟨fun z hz => ?_, List.pairwise_cons.mpr h⟩
      rcases List.mem_cons.mp hz with e | e
      · rw [e]; exact hxy
      · exact tr x y z hxy (h.1 z e)
    · rename_i hxy
      have hyx := (tot y x).resolve_right hxy
      rw [List.pairwise_cons]
      refine ⟨fun z hz => ?_, insB_srt tot tr x h.2⟩
      rcases List.mem_cons.mp ((insB_perm x r).subset hz) with e | e
      · rw [e]; exact hyx
      · exact h.1 z e
theorem srtB_srt (tot : ∀ a b, le a b = true ∨ le b a = true) (tr : ∀ a b c, le a b = true → le b c = true → le a c = true) : ∀ l : List α, (srtB le l).Pairwise (fun a b => le a b = true)
  | [] => List.Pairwise.nil
  | x :: r => insB_srt tot tr x (srtB_srt tot tr r)
theorem srt_unique (asym : ∀ a b, le a b = true → le b a = true → a = b) : ∀ {l m : List α}, l.Perm m → l.Pairwise (fun a b => le a b = true) → m.Pairwise (fun a b => le a b = true) → l = m
  | [], m, p, _, _ => (List.Perm.nil_eq p)
  | x :: r, [], p, _, _ => absurd p.length_eq (by simp)
  | x :: r, y :: t, p, h1, h2 => by
    rw [List.pairwise_cons] at h1 h2
    have hx : x = y := by
      have m1 : x ∈ y :: t := p.subset List.mem_cons_self
      have m2 : y ∈ x :: r := p.symm.subset List.mem_cons_self
      rcases List.mem_cons.mp m1 with e | e
      · exact e
      · rcases List.mem_cons.mp m2 with e2 | e2
        · exact e2.symm
        · exact asym x y (h1.1 y e2) (h2.1 x e)
    subst hx
    rw [srt_unique asym ((List.perm_cons x).mp p) h1.2 h2.2]
theorem srtB_eq (tot : ∀ a b, le a b = true ∨ le b a = true) (tr : ∀ a b c, le a b = true → le b c = true → le a c = true) (asym : ∀ a b, le a b = true → le b a = true → a = b) {l m : List α} (p : l.Perm m) (h : l.Pairwise (fun a b => le a b = true)) : l = srtB le m :=
  srt_unique asym (p.trans (srtB_perm m).symm) h (srtB_srt tot tr m)
end
def leI (a b : Int) : Bool := decide (a ≤ b)
def sortI (ns : List Int) : List Int := srtB leI ns
theorem leI_tot (a b : Int) : leI a b = true ∨ leI b a = true := by unfold leI; simp; omega
theorem leI_tr (a b c : Int) (h : leI a b = true) (h' : leI b c = true) : leI a c = true := by unfold leI at *; simp at *; omega
theorem leI_as (a b : Int) (h : leI a b = true) (h' : leI b a = true) : a = b := by unfold leI at *; simp at *; omega
theorem sortI_eq {l m : List Int} (p : l.Perm m) (h : l.Pairwise (· ≤ ·)) : l = sortI m := srtB_eq leI_tot leI_tr leI_as p (h.imp fun h => decide_eq_true h)
def leS (a b : Str) : Bool := !decide (b.cps.toList < a.cps.toList)
def sortZ (zs : List Str) : List Str := srtB leS zs
theorem leS_iff {a b : Str} : leS a b = true ↔ ¬ b.cps.toList < a.cps.toList := by unfold leS; simp [-Array.lt_toList]
theorem str_ext {a b : Str} (h : a.cps.toList = b.cps.toList) : a = b := by
  obtain ⟨⟨l⟩⟩ := a
  obtain ⟨⟨m⟩⟩ := b
  simp at h
  rw [h]
theorem leS_tot (a b : Str) : leS a b = true ∨ leS b a = true := by
  rw [leS_iff, leS_iff]
  by_cases h : b.cps.toList < a.cps.toList
  · exact .inr (List.lt_asymm h)
  · exact .inl h
theorem leS_tr (a b c : Str) (h : leS a b = true) (h' : leS b c = true) : leS a c = true := by
  rw [leS_iff] at *
  exact List.not_lt.mpr (List.le_trans (List.not_lt.mp h) (List.not_lt.mp h'))
theorem leS_as (a b : Str) (h : leS a b = true) (h' : leS b a = true) : a = b := by
  rw [leS_iff] at *
  exact str_ext (List.le_antisymm (List.not_lt.mp h) (List.not_lt.mp h'))
theorem ltCps_iff (a b : List Nat) : ltCps a b = true ↔ a < b := by
  rw [PyProof.Rows.ltCps_eq, decide_eq_true_eq]
theorem risingS_pw : ∀ {zs : List Str} {p : Str}, risingS p zs = true → (p :: zs).Pairwise fun a b => leS a b = true
  | [], p, _ => by simp
  | x :: r, p, h => by
    unfold risingS at h
    rw [Bool.and_eq_true] at h
    have hpx : leS p x = true := by
      rw [leS_iff, ← ltCps_iff]
      simpa using h.1
    have i := risingS_pw h.2
    rw [List.pairwise_cons]
    refine ⟨fun z hz => ?_, i⟩
    rcases List.mem_cons.mp hz with e | e
    · rw [e]; exact hpx
    · exact leS_tr p x z hpx ((List.pairwise_cons.mp i).1 z e)
theorem sortZ_eq {l m : List Str} (p : l.Perm m) (h : sortedS l = true) : l = sortZ m := by
  refine srtB_eq leS_tot leS_tr leS_as p ?_
  cases l with
  | nil => exact List.Pairwise.nil
  | cons x r => exact risingS_pw h
theorem sortZ_perm (ns : List Str) : (sortZ ns).Perm ns := srtB_perm ns
@[simp] def strsOf : List Val → Option (List Str)
  | [] => some []
  | .str z :: r => (strsOf r).map (z :: ·)
  | _ => none
theorem strsOf_eq : ∀ {vs : List Val} {zs : List Str}, strsOf vs = some zs → vs = zs.map .str
  | [], zs, e => by cases e; rfl
  | v :: r, zs, e => by
    cases v with
    | str z =>
      simp only [strsOf, Option.map_eq_some_iff] at e
      obtain ⟨ys, e1, rfl⟩ := e
      rw [strsOf_eq e1]; rfl
    | _ => simp [strsOf] at e
theorem strsOf_map (zs : List Str) : strsOf (zs.map Val.str) = some zs := by
  induction zs with
  | nil => rfl
  | cons z r ih => simp [strsOf, ih]
def fSorted : FA := fun vs h Q => match vs with
  | [v] => match (listOf v h).bind intsOf, (listOf v h).bind strsOf with
    | some ns, _ => Q (.lst ((sortI ns).map .int)) h
    | none, some zs => zs.length < 64 ∧ Q (.lst ((sortZ zs).map .str)) h
    | none, none => False
  | _ => False
def rSortedAll (K : PySem.W.Frag) : List V → Hp → VK → Prop := fun vs H Q => rSortedI K vs H Q ∨ rSortedS K vs H Q
section
variable {X : Cx} {K : PySem.W.Frag}
theorem CallR.or {f : Value} {r r' : List V → Hp → VK → Prop} (a : CallR X f r) (b : CallR X f r') : CallR X f (fun vs H Q => r vs H Q ∨ r' vs H Q) := by
  intro pins s σ H vs us Q I rv h
  rcases h with h | h
  · exact a pins s σ H vs us Q I rv h
  · exact b pins s σ H vs us Q I rv h
theorem cr_sortedAll : CallR X (.builtin "sorted") (rSortedAll X.K) := CallR.or cr_sortedI cr_sortedS
theorem cl_sorted : CaL K fSorted (rSortedAll K) := fun vs xs h H Q' Q r rs q c => by
  unfold fSorted at q
  split at q
  · obtain ⟨x, e, rv⟩ := rvs1 rs
    split at q
    · rename_i ns eb
      obtain ⟨ws, e1, e2⟩ := Option.bind_eq_some_iff.mp ‹_›
      obtain ⟨a, ys, e3, ha, rss⟩ := listOf_rel r rv e1
      rw [intsOf_eq e2] at rss
      rw [rss.ints] at ha
      refine .inl ⟨a, ns, by rw [e, e3], .of ha, fun ns' p pm pw hp => ?_⟩
      rw [sortI_eq pm pw]
      exact c.lst r (RVs.ofInts _) hp q
    · rename_i zs e0 eb
      obtain ⟨ws, e1, e2⟩ := Option.bind_eq_some_iff.mp eb
      obtain ⟨a, ys, e3, ha, rss⟩ := listOf_rel r rv e1
      rw [strsOf_eq e2] at rss
      rw [rss.strs] at ha
      refine .inr ⟨a, zs, by rw [e, e3], .of ha, q.1, fun ns' p pm pw hp => ?_⟩
      rw [sortZ_eq pm pw]
      exact c.lst r (RVs.ofStrs _) hp q.2
    · exact q.elim
  · exact q.elim
def fMin2 : FA := fun vs h Q => match vs with
  | [.int i, .int j] => Q (.int (if j < i then j else i)) h
  | _ => False
theorem cl_min2 : CaL K fMin2 (fun xs H Q => ∃ i j, xs = [.int i, .int j] ∧ Q (.int (if j < i then j else i)) H) := fun vs xs h H Q' Q r rs q c => by
  unfold fMin2 at q
  split at q
  · rename_i i j
    have : xs = [.int i, .int j] := RVs.ints (ns := [i, j]) rs
    exact ⟨i, j, this, c.val r rv_int q⟩
  · exact q.elim
end
end DL
namespace PySem
set_option maxHeartbeats 1000000 in
theorem meets_enumerate_new1 {v : Value} {o : Obj} {H : Heap → Prop} (B : Begins v o H) :
    Meets (Builtin.«enumerate.__new__» ⟨[.type "enumerate", v], []⟩) (fun _ R s => H s.heap ∧
      R (.ok (.ret (.ref (s.heap.push o).objs.size))) { s with heap := (s.heap.push o).push { cls := .type "enumerate", data := .fields #[.none, .bool false, .ref s.heap.objs.size, rawInt 0, .none, .none] } }) :=
  .of_wp fun prog w A R s h => by
    obtain ⟨hp, g, d, tk, os⟩ := s; obtain ⟨h1, h⟩ := h
    have hsub := sub_enumerate
    have q1 : ∀ {A' : Around} {E : Value → Shared → Prop} {Q : Value → Shared → Prop}, Q (.ref hp.objs.size) ⟨hp.push o, g, d, tk, os⟩ → wpAny (model prog w) A' (pyIter v) Q E ⟨hp, g, d, tk, os⟩ :=
      fun q => B.iter prog w _ _ ⟨hp, g, d, tk, os⟩ _ h1 q
    wp_walk using q1
    refine wpAny_stack_any fun st => wpAny_pure ?_
    split
    · rename_i c _ _ _ _ _
      cases (c == Value.type "enumerate")
      · wp_walk using q1
        exact ⟨_, rfl, h⟩
      · wp_walk using q1
        exact ⟨_, rfl, h⟩
    · wp_walk using q1
      exact ⟨_, rfl, h⟩
theorem enum_begins1 {prog : Program} {w : World} {A : Around} {E : Value → Shared → Prop} {s : Shared} {v : Value} {o : Obj} {H : Heap → Prop} {Q : Value → Shared → Prop} (B : Begins v o H) (h1 : H s.heap)
    (h : ∀ h', IsEnum h' (s.heap.objs.size + 1) s.heap.objs.size 0 .none → h'.get? s.heap.objs.size = some o → h'.objs.size = s.heap.objs.size + 2 →
      (∀ b o, s.heap.get? b = some o → h'.get? b = some o) → Q (.ref (s.heap.objs.size + 1)) { s with heap := h' }) :
    wpAny (model prog w) A (call (.type "enumerate") [v]) Q E s := by
  refine callType_new F.called_enumerate (by decide) (F.typeCall_enumerate_1 _) (F.newCall_enumerate_1 _) (fun obj => F.args_object_init_2 obj _) F.entry_enumerate_new
    (meets_enumerate_new1 B) ⟨h1, ?_⟩
  have hz : (s.heap.push o).objs.size = s.heap.objs.size + 1 := Heap.size_push ..
  show _ ∧ _
  rw [hz]
  have he : IsEnum ((s.heap.push o).push { cls := .type "enumerate", data := .fields #[.none, .bool false, .ref s.heap.objs.size, rawInt 0, .none, .none] }) (s.heap.objs.size + 1) s.heap.objs.size 0 .none := by
    have := Heap.get?_push_size (s.heap.push o) (o := { cls := .type "enumerate", data := .fields #[.none, .bool false, .ref s.heap.objs.size, rawInt 0, .none, .none] }) rfl
    rw [hz] at this; exact this
  refine ⟨⟨_, he, rfl⟩, h _ he (Heap.get?_push_of_some _ (Heap.get?_push_size _ B.free)) (by rw [Heap.size_push, hz]) fun b o x => Heap.get?_push_of_some _ (Heap.get?_push_of_some _ x)⟩
end PySem
namespace DL
open PySem PySem.Spec PyProof.Rows L2
def IteT (K : PySem.W.Frag) (a : Addr) : It :=
  ⟨fun i H => ∃ (xs : List V) (x : V), SqT K H a xs ∧ xs[i]? = some x, fun i H v H' => ∃ T x, v = .ref T ∧ H T = none ∧ H' = upd H T (.tup [.int (i : Nat), x]) ∧ ∀ xs, SqT K H a xs → xs[i]? = some x, fun i H => ∃ xs : List V, SqT K H a xs ∧ xs.length = i⟩
theorem turn_enumT {P : Program} {w : World} {K : PySem.W.Frag} {elts : List Expr} {kk : Nat} {tpos : Pos} (a e it : Addr) :
    Turn P w K (.Tuple elts kk tpos) (IteT K a) [e, it] e (fun i h => (∃ old, IsEnum h e it ((i : Nat) : Int) old) ∧ h.IsTupleIter it a i ∧ e ≠ it ∧ a ≠ it ∧ a ≠ e) where
  mem := by simp
  obj := fun i h st b hb => by
    obtain ⟨⟨old, he⟩, ⟨o, ho, hc, hd⟩, _⟩ := st
    have e' : b = e ∨ b = it := by simpa using hb
    rcases e' with z | z
    · rw [z]; exact ⟨_, he, fun v q => nomatch q⟩
    · rw [z]; exact ⟨o, ho, fun v q => by rw [hd] at q; cases q⟩
  keep := fun i h h' st k => let ⟨⟨old, he⟩, hi, hne⟩ := st; ⟨⟨old, k e (by simp) _ he⟩, hi.at fun o q => k it (by simp) o q, hne⟩
  item := by
    intro X hP hw hK hc i pins s σ H E I hf st hg
    subst hP hw hK
    obtain ⟨⟨old, he⟩, hit, hne, ha1, ha2⟩ := st
    obtain ⟨xs, x, hq, hx⟩ := hg
    obtain ⟨its, rv, p, hz⟩ := I.tuple hq
    obtain ⟨u, hu, ru⟩ := rv.get hx
    have hel : e < s.heap.objs.size := Heap.lt_size he
    have hil : it < s.heap.objs.size := by obtain ⟨_, q, _⟩ := hit; exact Heap.lt_size q
    have pt : s.heap.IsTuple a its.toArray := p
    have hh1 : X.A.in1.handled = none := I.ok.hd hc
    have hi' : i < its.toArray.size := by
      obtain ⟨hlt, _⟩ := List.getElem?_eq_some_iff.mp hu
      simpa using hlt
    refine wpAny_pyNext_enum_itemD (Draws.tuple hh1 it a ha1 its.toArray) he ⟨hit, pt⟩ hi' hne (by simp; exact ⟨hne, ha2.symm⟩) fun x' h' tk hP ho hst hT hsz hk => ?_
    have ex : x' = u := by
      have : its.toArray[i]? = some u := by simpa using hu
      rw [this] at hP
      exact (Option.some.inj hP).symm
    subst ex
    refine ⟨_, rfl, wpAny_letOwnedTupleGo_enum (s := { s with heap := h', toks := tk + 1 }) ho fun h'' he' sb => ?_⟩
    have hT2 : h''.get? s.heap.objs.size = some { cls := .type "tuple", data := .seq #[.int i tk, x'] } := (sb.2 _ (Nat.ne_of_gt hel)).trans hT
    have new : ObjOk X.prog X.w (upd H s.heap.objs.size (.tup [.int (i : Nat), x])) h'' s.heap.objs.size (.tup [.int (i : Nat), x]) :=
      ⟨by show 2 ≤ sizeLine; decide, [.int i tk, x'], .cons ⟨_, rfl⟩ (.cons ru .nil), ⟨_, hT2, rfl, _, rfl⟩⟩
    have I1 : Inv X pins σ (upd H s.heap.objs.size (.tup [.int (i : Nat), x])) { s with heap := h'', toks := tk + 1 } :=
      I.turnedNew (ch := [e, it]) (fun b ob hb q => (sb.2 b (fun z => hb (by simp [z]))).trans (hk b ob (fun z => hb (by simp [z])) (fun z => hb (by simp [z])) q)) hf (Nat.le_refl _) new
    refine ⟨.ref s.heap.objs.size, _, I1, rfl, ⟨_, x, rfl, I.hok.fresh (Nat.le_refl _), rfl, fun ys hy => by rw [I.tuple_inj hy hq]; exact hx⟩, ⟨⟨x', ?_⟩, hst.1.at fun o q => (sb.2 it (Ne.symm hne)).trans q, hne, ha1, ha2⟩, fun b hb => ?_⟩
    · have e1 : ((i + 1 : Nat) : Int) = (i : Int) + 1 := by omega
      rw [e1]; exact he'
    · have hb' : b < s.heap.objs.size := by
        have e' : b = e ∨ b = it := by simpa using hb
        rcases e' with z | z
        · rw [z]; exact hel
        · rw [z]; exact hil
      rw [upd_ne (Nat.ne_of_lt hb')]
      exact (hf b hb).1
  done := by
    intro X hP hw hK hc i pins s σ H E I hf st hg
    subst hP hw hK
    obtain ⟨⟨old, he⟩, hit, hne, ha1, ha2⟩ := st
    obtain ⟨xs, hq, hx⟩ := hg
    obtain ⟨its, rv, p, hz⟩ := I.tuple hq
    obtain ⟨f0, f1, f2, f3, f4, f5⟩ := hf it (by simp)
    have hl := rv.length
    have pt : s.heap.IsTuple a its.toArray := p
    have hh1 : X.A.in1.handled = none := I.ok.hd hc
    have hsz : its.toArray.size = i := by simp; omega
    have st' : (fun i h => h.IsTupleIter it a i ∧ h.IsTuple a its.toArray) its.toArray.size s.heap := by rw [hsz]; exact ⟨hit, pt⟩
    exact wpAny_pyNext_enum_endD (Draws.tuple hh1 it a ha1 its.toArray) he st' fun h' eb => ⟨rfl, I.turned (t' := s.toks) (fun b o hb q => eb b o hb q) f0 f1 f3 f4 f5⟩
  self := fun A i s Q E st h => let ⟨⟨_, he⟩, _⟩ := st; wpAny_pyIter_enum he h
def iEnumA (K : PySem.W.Frag) (ta : TA) : TI := fun σ H R => ta σ H fun vs H1 => ∃ a xs, vs = [.ref a] ∧ ((SqL K H1 a xs ∧ R (Ite K a) H1) ∨ (SqT K H1 a xs ∧ R (IteT K a) H1))
theorem pi_enumA {X : Cx} {e : Expr} {ta : TA} {p pos tpos : Pos} {elts : List Expr} {kk : Nat} (hg : Gl X "enumerate") (hm : X.mg "enumerate" = none) (ha : PA X [e] ta) (hs : starEach [e] X.env = [(false, eval e X.env)] := by rfl) :
    PI X (.Tuple elts kk tpos) (.Call (.Name "enumerate" p) [e] [] pos) (iEnumA X.K ta) := by
  refine ⟨fun pins s σ H R I h => ?_⟩
  refine Call_ (ld_blt I hg hm boot_enumerate (PyProof.Rows.callWith_type1 (thn (ha.run pos pins s σ H _ I h) fun us s1 ⟨vs, H1, I1, r1, q1⟩ => ?_) hs rfl))
  obtain ⟨a, xs, ex, q1⟩ := q1
  subst ex
  cases r1 with
  | cons r rr =>
    cases rr
    cases r
    have fp : ∀ b ∈ [s1.heap.objs.size + 1, s1.heap.objs.size], FpOk X pins H1 b := fun b hb => by
      have e' : b = s1.heap.objs.size + 1 ∨ b = s1.heap.objs.size := by simpa using hb
      have hle : s1.heap.objs.size ≤ b := by
        rcases e' with z | z
        · rw [z]; exact Nat.le_add_right _ _
        · rw [z]; exact Nat.le_refl _
      exact I1.fpOk hle (I1.hok.fresh hle)
    rcases q1 with ⟨hq, q⟩ | ⟨hq, q⟩
    · obtain ⟨its, rv, p', hz⟩ := I1.list hq
      refine call_enumerate_list p'.isList fun h' he hit hsz hk => wpAny_pyIter_enum he ?_
      have I2 : Inv X pins σ H1 { s1 with heap := h' } := I1.kept (t' := s1.toks) hk
      exact ⟨s1.heap.objs.size + 1, [s1.heap.objs.size + 1, s1.heap.objs.size], _, _, H1, rfl, I2, turn_enum a (s1.heap.objs.size + 1) s1.heap.objs.size, ⟨⟨.none, he⟩, hit, Nat.succ_ne_self _⟩, fp, q⟩
    · obtain ⟨its, rv, p', hz⟩ := I1.tuple hq
      have pt : s1.heap.IsTuple a its.toArray := p'
      have hal : a < s1.heap.objs.size := by obtain ⟨o, ho, _⟩ := id p'; exact Heap.lt_size ho
      refine enum_begins1 (begins_tuple a its.toArray) pt fun h' he hit hsz hk => wpAny_pyIter_enum he ?_
      have I2 : Inv X pins σ H1 { s1 with heap := h' } := I1.kept (t' := s1.toks) hk
      exact ⟨s1.heap.objs.size + 1, [s1.heap.objs.size + 1, s1.heap.objs.size], _, _, H1, rfl, I2, turn_enumT a (s1.heap.objs.size + 1) s1.heap.objs.size, ⟨⟨.none, he⟩, ⟨_, hit, rfl, rfl⟩, Nat.succ_ne_self _, Nat.ne_of_lt hal, Nat.ne_of_lt (Nat.lt_succ_of_lt hal)⟩, fp, q⟩
def enumV (vs : List Val) : List Val := (vs.zip (List.range vs.length)).map fun p => Val.tup [.int (p.2 : Nat), p.1]
theorem enumV_get {vs : List Val} {i : Nat} {u : Val} (h : (enumV vs)[i]? = some u) : ∃ v, vs[i]? = some v ∧ u = .tup [.int (i : Nat), v] := by
  unfold enumV at h
  rw [List.getElem?_map, Option.map_eq_some_iff] at h
  obtain ⟨⟨a, b⟩, h1, h2⟩ := h
  rw [List.getElem?_zip_eq_some] at h1
  obtain ⟨h3, h4⟩ := h1
  have : b = i := by
    obtain ⟨_, e⟩ := List.getElem?_eq_some_iff.mp h4
    simpa using e.symm
  subst this
  exact ⟨a, h3, h2.symm⟩
theorem enumV_len (vs : List Val) : (enumV vs).length = vs.length := by unfold enumV; simp
theorem ite_rel {K : PySem.W.Frag} {h : Hv} {H : Hp} {a : Addr} {vs : List Val} {ok : Hv → Prop} (e : ∀ h2 H2, StepN h H h2 H2 → RH K H2 h2 → ok h2 → ∃ xs, SqL K H2 a xs ∧ RVs K H2 h2 vs xs) : ItRel K ⟨enumV vs, ok⟩ (Ite K a) h H := fun h2 H2 s2 r2 o2 => by
  obtain ⟨xs, hq, rs⟩ := e h2 H2 s2 r2 o2
  refine ⟨fun i v hv => ?_, xs, hq, by show xs.length ≤ (enumV vs).length; rw [enumV_len, rs.len]; exact Nat.le_refl _⟩
  obtain ⟨w, hw, rfl⟩ := enumV_get hv
  obtain ⟨x, ex, rx⟩ := rs.get hw
  refine ⟨⟨xs, x, hq, ex⟩, fun y H3 hy => ?_⟩
  obtain ⟨T, x', ez, nT, eH, hx⟩ := hy
  have := hx xs hq
  rw [ex] at this
  cases this
  subst ez eH
  exact pair_rel r2 rv_int rx nT
theorem iteT_rel {K : PySem.W.Frag} {h : Hv} {H : Hp} {a : Addr} {vs : List Val} {ok : Hv → Prop} (e : ∀ h2 H2, StepN h H h2 H2 → RH K H2 h2 → ok h2 → ∃ xs, SqT K H2 a xs ∧ RVs K H2 h2 vs xs) : ItRel K ⟨enumV vs, ok⟩ (IteT K a) h H := fun h2 H2 s2 r2 o2 => by
  obtain ⟨xs, hq, rs⟩ := e h2 H2 s2 r2 o2
  refine ⟨fun i v hv => ?_, xs, hq, by show xs.length = (enumV vs).length; rw [enumV_len, rs.len]⟩
  obtain ⟨w, hw, rfl⟩ := enumV_get hv
  obtain ⟨x, ex, rx⟩ := rs.get hw
  refine ⟨⟨xs, x, hq, ex⟩, fun y H3 hy => ?_⟩
  obtain ⟨T, x', ez, nT, eH, hx⟩ := hy
  have := hx xs hq
  rw [ex] at this
  cases this
  subst ez eH
  exact pair_rel r2 rv_int rx nT
@[simp] def dEnum (aa : AD) : ID := fun ρ h Q E => aa ρ h (fun vs h1 => match vs with
  | [.tup us] => Q ⟨enumV us, fun _ => True⟩ h1
  | [.lst us] => Q ⟨enumV us, fun _ => True⟩ h1
  | [.ref a] => (match h1 a with
    | some (.lst us) => Q ⟨enumV us, fun h' => h' a = some (.lst us)⟩ h1
    | _ => False)
  | _ => False) E
theorem di_enum {X : Cx} {B : Bs} {e : Expr} {aa : AD} {p pos tpos : Pos} {elts : List Expr} {kk : Nat} (hg : Gl X "enumerate") (hm : X.mg "enumerate" = none) (ha : DA X B [e] aa) (hs : starEach [e] X.env = [(false, eval e X.env)] := by rfl) :
    DI X B (.Tuple elts kk tpos) (.Call (.Name "enumerate" p) [e] [] pos) (dEnum aa) :=
  PIi (pi_enumA hg hm ha hs) fun σ H R ⟨ρ, h, Q', S, q, C⟩ => ⟨ρ, h, _, S, q, fun vs h1 xs H1 q1 s1 rv1 r1 => by
    split at q1
    · rename_i us
      obtain ⟨x, e1, rx⟩ := rvs1 rv1
      rw [RV] at rx
      obtain ⟨a, ys, ea, na, ha, ra⟩ := rx
      exact ⟨a, ys, by rw [e1, ea], .inr ⟨.of ha, C _ h1 H1 _ q1 s1 r1 (iteT_rel fun h2 H2 s2 r2 _ => ⟨ys, .of (s2 a _ ha na nt_tup).1, ra.stepN s2⟩)⟩⟩
    · rename_i us
      obtain ⟨x, e1, rx⟩ := rvs1 rv1
      rw [RV] at rx
      obtain ⟨a, ys, ea, na, ha, ra⟩ := rx
      exact ⟨a, ys, by rw [e1, ea], .inl ⟨.of ha, C _ h1 H1 _ q1 s1 r1 (ite_rel fun h2 H2 s2 r2 _ => ⟨ys, .of (s2 a _ ha na nt_lst).1, ra.stepN s2⟩)⟩⟩
    · rename_i a
      obtain ⟨x, e1, rx⟩ := rvs1 rv1
      rw [RV] at rx
      subst rx
      split at q1
      · rename_i us eu
        obtain ⟨ys, hy, ry⟩ := r1 a _ eu
        exact ⟨a, ys, e1, .inl ⟨.of hy, C _ h1 H1 _ q1 s1 r1 (ite_rel fun h2 H2 s2 r2 o2 => by
          obtain ⟨zs, hz, rz⟩ := r2 a _ o2
          exact ⟨zs, .of hz, rz⟩)⟩⟩
      · exact q1.elim
    · exact q1.elim⟩
@[simp] def sLPut (dd dk dv : ED) : SD := fun ρ h D E => dv ρ h (fun v h1 => dd ρ h1 (fun d h2 => dk ρ h2 (fun k h3 => match d, k with
  | .ref a, .int i => (match h3 a with
    | some (.lst us) => (match ixN us.length i with
      | some j => D.nx ρ (put h3 a (.lst (us.set j v)))
      | none => False)
    | _ => False)
  | _, _ => False) E) E) E
theorem RVs.setv {K : PySem.W.Frag} {H : Hp} {h : Hv} {v : Val} {x : V} (rv : RV K H h v x) : ∀ {vs : List Val} {xs : List V} (j : Nat), RVs K H h vs xs → RVs K H h (vs.set j v) (xs.set j x)
  | [], xs, j, r => by rw [RVs] at r; subst r; exact RVs.nil
  | w :: vs, xs, j, r => by
    rw [RVs] at r
    obtain ⟨y, ys, rfl, r1, r2⟩ := r
    cases j with
    | zero => exact RVs.cons rv r2
    | succ j => exact RVs.cons r1 (RVs.setv rv j r2)
theorem ds_lput {X : Cx} {B : Bs} {o i e : Expr} {dd di de : ED} {pos' pos : Pos} (ho : DE X B o dd) (hi : DE X B i di) (hv : DE X B e de) (hs : swapsWithSole [.Subscript o i pos'] e pos.line X.env = pure false := by rfl) (hw : swappedStores [.Subscript o i pos'] e X.env = pure none := by rfl)
    (h1 : (assignEach [.Subscript o i pos'] X.env).map (·.2) = [assign (.Subscript o i pos') X.env] := by rfl) (ha : ∀ v, assign (.Subscript o i pos') X.env v = (do
      let ov ← holding [v] (eval o X.env)
      let iv ← holding [v, ov] (eval i X.env)
      standAt pos'
      holding [v, ov, iv] (setItem ov iv v)
      release [v, ov, iv] []) := by intro _; rfl) : DS X B (.Assign [.Subscript o i pos'] e pos) (sLPut dd di de) :=
  PSi (ps_asg hv (pg_sub ho hi set_list ha) hs hw h1) fun D σ H ⟨ρ, h, D', S, q, C⟩ => ⟨ρ, h, _, S, q, fun v h1 z H1 q1 s1 rv1 r1 => ⟨ρ, h1, _, S.step s1 r1, q1, fun d h2 x H2 q2 s2 rv2 r2 => ⟨ρ, h2, _, S.step (s1.trans s2) r2, q2, fun k h3 y H3 q3 s3 rv3 r3 => by
    split at q3
    · rename_i a i
      split at q3
      · rename_i us eu
        split at q3
        · rename_i j ej
          have rv2 := rv2.step s3
          rw [RV] at rv2
          rw [RV] at rv3
          obtain ⟨xs, e1, rx⟩ := r3 a _ eu
          have nb : Ob.lst us ≠ .busy := fun z => nomatch z
          have rv1 := rv1.step (s2.trans s3)
          have s4 : Step h3 H3 (put h3 a (.lst (us.set j v))) (upd H3 a (.lst (xs.set j z))) := Step.write eu nb
          have r4 : RH X.K (upd H3 a (.lst (xs.set j z))) (put h3 a (.lst (us.set j v))) := r3.write eu nb ⟨xs.set j z, upd_same, (RVs.setv rv1 j rx).step s4⟩
          have s14 := s1.trans (s2.trans (s3.trans s4))
          exact ⟨a, xs, i, j, rv2, rv3, e1, by rw [← rx.len]; exact ej, C.nx _ _ _ _ q3 s14 (S.step s14 r4)⟩
        · exact q3.elim
      · exact q3.elim
    · exact q3.elim⟩⟩⟩
def tListRange (ta : TE) : TE := fun σ H Q => ta σ H fun x H1 => ∃ j : Nat, x = .int (j : Int) ∧ j ≤ 1000 ∧ ∀ p, H1 p = none → Q (.ref p) (upd H1 p (.lst (((List.range j).map fun (i : Nat) => (i : Int)).map V.int)))
theorem pe_listRange {X : Cx} {a : Expr} {ta : TE} {p p2 q pos : Pos} (hg : Gl X "list") (hm : X.mg "list" = none) (hg2 : Gl X "range") (hm2 : X.mg "range" = none) (ha : PE X a ta) (hc : X.calm = true := by rfl)
    (na : starEach [a] X.env = (false, eval a X.env) :: starEach [] X.env := by rfl) : PE X (.Call (.Name "list" p) [.Call (.Name "range" p2) [a] [] q] [] pos) (tListRange ta) := by
  refine ⟨fun pins s σ H Q I h => ?_⟩
  refine Call_ (ld_blt I hg hm bt_list ?_)
  refine PyProof.Rows.callWith_type1 (PyProof.Rows.args_cons ?_ rfl) rfl rfl
  refine Call_ (ld_blt I hg2 hm2 boot_range ?_)
  refine PyProof.Rows.callWith_type1 (PyProof.Rows.args_cons (thn (ha.run pins s σ H _ I h) fun v s1 ⟨x, H1, I1, r1, q1⟩ => PyProof.Rows.args_nil ?_) na) na rfl
  obtain ⟨j, rfl, hj, q1⟩ := q1
  obtain ⟨t, rfl⟩ := r1
  refine call_range_1 ?_
  refine PyProof.Rows.args_nil ?_
  have hR : IsRange (s1.heap.push { cls := .type "range", data := .fields #[.int 0 s1.toks, .int (j : Int) t, .int 1 (s1.toks + 1)] }) s1.heap.objs.size 0 j 1 s1.toks t (s1.toks + 1) := Heap.get?_push_size _ rfl
  refine call_list_range (n := j) (I1.ok.hd hc) hR ?_ ?_ (by omega) fun h' tk acc' c' hk hS hacc => ?_
  · exact small_one (by decide) (by omega) (by omega) (by omega)
  · rw [rangeSize_one]; split <;> omega
  · have I2 : Inv X pins σ H1 { s1 with heap := s1.heap.push { cls := .type "range", data := .fields #[.int 0 s1.toks, .int (j : Int) t, .int 1 (s1.toks + 1)] }, toks := s1.toks + 1 + 1 } := I1.kept fun b o e => Heap.get?_push_of_some _ e
    have hz : s1.heap.objs.size ≤ (s1.heap.push { cls := .type "range", data := .fields #[.int 0 s1.toks, .int (j : Int) t, .int 1 (s1.toks + 1)] }).objs.size := by rw [Heap.size_push]; omega
    refine ⟨.ref _, upd H1 _ (.lst (((List.range j).map fun (i : Nat) => (i : Int)).map V.int)), I2.laid (t' := tk) (fun b o e => hk b o e) (Nat.le_refl _) ⟨by simp; rw [sizeLine_eq]; omega, acc'.toList, c', ?_, by simpa using hS⟩, rfl, q1 _ (I2.hok.fresh (Nat.le_refl _))⟩
    have hl : acc'.toList.length = j := by rw [Array.length_toList]; exact hacc.1
    have := vals_of_get acc'.toList (fun i => V.int (i : Nat)) fun i u hu => by
      obtain ⟨tt, e⟩ := hacc.2 i u (by simpa using hu)
      exact ⟨tt, by rw [e]; simp⟩
    rw [hl] at this
    rw [List.map_map]
    exact this
@[simp] def dListRange (de : ED) : ED := fun ρ h Q E => de ρ h (fun v h1 => match v with
  | .int j => 0 ≤ j ∧ j ≤ 1000 ∧ Q (.lst (((List.range j.toNat).map fun (i : Nat) => (i : Int)).map .int)) h1
  | _ => False) E
theorem de_listRange {X : Cx} {B : Bs} {a : Expr} {da : ED} {p p2 q pos : Pos} (hg : Gl X "list") (hm : X.mg "list" = none) (hg2 : Gl X "range") (hm2 : X.mg "range" = none) (ha : DE X B a da) (hc : X.calm = true := by rfl)
    (na : starEach [a] X.env = (false, eval a X.env) :: starEach [] X.env := by rfl) : DE X B (.Call (.Name "list" p) [.Call (.Name "range" p2) [a] [] q] [] pos) (dListRange da) :=
  PEi (pe_listRange hg hm hg2 hm2 ha hc na) fun σ H Q ⟨ρ, h, Q', S, q, C⟩ => ⟨ρ, h, _, S, q, fun v h1 x H1 q1 s1 rv1 r1 => by
    split at q1
    · rename_i j
      rw [RV] at rv1
      exact ⟨j.toNat, by rw [rv1]; congr 1; omega, by omega, fun l hl => (C.trans s1).lst r1 (RVs.ofInts _) hl q1.2.2⟩
    · exact q1.elim⟩
end DL
namespace DL
open PySem PySem.Spec PyProof.Rows L2
section
variable {X : Cx} {pins : List (Addr × Obj)} {σ : L2.St} {H : Hp} {s : Shared}
end
section
variable {X : Cx} {x n : Str} {c : Value} {i : Nat} {body suite : List Stmt} {b₀ : Stmt} {np pos pos' : Pos} {tb : WX → TS} {ts : Addr → TS}
end
end DL
namespace DL
open PySem PySem.Spec PyProof.Rows L2
section
variable {X : Cx}
end
def keyV : Key → Val
  | .inl i => .int i
  | .inr x => .str x
theorem RKs.keys {K : PySem.W.Frag} {H : Hp} {h : Hv} : ∀ {kvs : List (Key × Val)} {xs : List (Key × V)}, RKs K H h kvs xs → kvs.map (·.1) = xs.map (·.1)
  | [], xs, r => by rw [show xs = [] from r]; rfl
  | (k, v) :: kvs, xs, r => by
    obtain ⟨y, ys, e, _, r2⟩ := r
    rw [e, List.map_cons, List.map_cons, RKs.keys r2]
structure XcR (K : PySem.W.Frag) (mg : Str → Option Value) (x : Str) : Prop where
  ex : ∃ C, mg x = some (.ref C) ∧ PySem.W.excIn K C [.type "ValueError", .type "Exception", .type "BaseException", .type "object"] "ValueError.__new__" = true ∧ PySem.W.keepIn K (.ref C) = true ∧ PySem.W.subIn K (.ref C) (.type "BaseException") = some true ∧ PySem.W.typeIn K (.ref C) = some (.type "type")
@[simp] def sRaise (x : Str) : SD := fun ρ h _ E => E x none ρ h
theorem ds_raise {X : Cx} {B : Bs} {x m : Str} {j : Nat} {p p2 pos pos' : Pos} (c : XcR X.K X.mg x) (tk : TakesB X B) (hc : X.calm = true := by rfl) (hg : Gl X x := by rfl) (hdb : (x == ("__debug__" : Str)) = false := by decide) :
    DS X B (.Raise (some (.Call (.Name x p) [.Constant (.str m) j p2] [] pos)) none pos') (sRaise x) := by
  obtain ⟨C, hm, q, k, h1, h2⟩ := c.ex
  exact PSi (ps_raise hc tk (pmk_own PySem.F.excBase_ValueError q hm k (raises_own h1 h2) hg hdb)) fun D σ H ⟨ρ, h, D', S, z, c⟩ => ⟨x, none, ρ, h, hm, S, .inl ⟨rfl, rfl⟩, z⟩
end DL
namespace DL
open PySem PySem.Spec PyProof.Rows L2
section
variable {K : PySem.W.Frag} {H H1 : Hp} {h : Hv} {P : Addr} {q : Str}
theorem ro_nt {a : Addr} {o : Ob} (r : RO K H h a o) (n : ∀ q, o ≠ .tab q) {u : HO} (e : H a = some u) : NT u := by
  cases o with
  | lst vs => obtain ⟨_, e1, _⟩ := r; rw [e] at e1; cases e1; exact fun _ z => nomatch z
  | dK vs => obtain ⟨_, e1, _⟩ := r; rw [e] at e1; cases e1; exact fun _ z => nomatch z
  | dT vs => obtain ⟨_, e1, _⟩ := r; rw [e] at e1; cases e1; exact fun _ z => nomatch z
  | ins C fs => obtain ⟨_, _, e1, _⟩ := r; rw [e] at e1; cases e1; exact fun _ z => nomatch z
  | dF o xs kvs => have e1 := r.1; rw [e] at e1; cases e1; exact fun _ z => nomatch z
  | dFT o xs kvs => have e1 := r.1; rw [e] at e1; cases e1; exact fun _ z => nomatch z
  | exc C => obtain ⟨_, _, e1, _⟩ := r; rw [e] at e1; cases e1; exact fun _ z => nomatch z
  | tab q => exact absurd rfl (n q)
  | dN w kvs => obtain ⟨_, e1, _⟩ := r; rw [e] at e1; cases e1; exact fun _ z => nomatch z
  | busy =>
    obtain ⟨_, e1, f⟩ := r; rw [e] at e1; cases e1
    rcases f with ⟨_, z⟩ | ⟨_, z⟩ <;> subst z <;> exact fun _ z => nomatch z
theorem dno_code {w : World} {c : Addr} {xs : List NE} {q : Str} : DNO w c xs ≠ LamX.CodeO c q := fun e => by
  unfold DNO LamX.CodeO at e
  have e := congrFun (HO.ext.inj e) ⟨Array.replicate (c + 1) { cls := .none, data := .fields #[.none, .str q 0] }, {}⟩
  have g : Heap.get? ⟨Array.replicate (c + 1) { cls := .none, data := .fields #[.none, .str q 0] }, {}⟩ c = some { cls := .none, data := .fields #[.none, .str q 0] } := by
    unfold Heap.get?
    simp
  have p : DNp w c xs ⟨Array.replicate (c + 1) { cls := .none, data := .fields #[.none, .str q 0] }, {}⟩ := by
    rw [e]
    exact ⟨_, _, 0, g, rfl, rfl⟩
  obtain ⟨_, _, _, _, o, _, _, h1, _, h3, _⟩ := p
  rw [g] at h1
  cases h1
  cases h3
theorem ro_noext {a : Addr} {o : Ob} (r : RO K H h a o) {q : Str} : H a ≠ some (LamX.CodeO a q) := fun e => by
  cases o with
  | lst vs => obtain ⟨_, e1, _⟩ := r; rw [e] at e1; cases e1
  | dK vs => obtain ⟨_, e1, _⟩ := r; rw [e] at e1; cases e1
  | dT vs => obtain ⟨_, e1, _⟩ := r; rw [e] at e1; cases e1
  | ins C fs => obtain ⟨_, _, e1, _⟩ := r; rw [e] at e1; cases e1
  | dF o xs kvs => have e1 := r.1; rw [e] at e1; cases e1
  | dFT o xs kvs => have e1 := r.1; rw [e] at e1; cases e1
  | exc C => obtain ⟨_, _, e1, _⟩ := r; rw [e] at e1; cases e1
  | tab q => obtain ⟨_, e1, _⟩ := r; rw [e] at e1; cases e1
  | dN w kvs => obtain ⟨_, e1, _⟩ := r; rw [e] at e1; exact dno_code (Option.some.inj e1).symm
  | busy =>
    obtain ⟨_, e1, f⟩ := r; rw [e] at e1; cases e1
    rcases f with ⟨_, z⟩ | ⟨_, z⟩ <;> cases z
theorem ro_some {a : Addr} {o : Ob} (r : RO K H h a o) : ∃ u, H a = some u := by
  cases o with
  | lst vs => obtain ⟨_, e1, _⟩ := r; exact ⟨_, e1⟩
  | dK vs => obtain ⟨_, e1, _⟩ := r; exact ⟨_, e1⟩
  | dT vs => obtain ⟨_, e1, _⟩ := r; exact ⟨_, e1⟩
  | ins C fs => obtain ⟨_, _, e1, _⟩ := r; exact ⟨_, e1⟩
  | dF o xs kvs => exact ⟨_, r.1⟩
  | dFT o xs kvs => exact ⟨_, r.1⟩
  | exc C => obtain ⟨_, _, e1, _⟩ := r; exact ⟨_, e1⟩
  | tab q => obtain ⟨_, e1, _⟩ := r; exact ⟨_, e1⟩
  | dN w kvs => obtain ⟨_, e1, _⟩ := r; exact ⟨_, e1⟩
  | busy => obtain ⟨_, e1, f⟩ := r; exact ⟨_, e1⟩
end
structure Tbs (Ts : List (Addr × Str)) (h : Hv) : Prop where
  has : ∀ p ∈ Ts, h p.1 = some (.tab p.2)
  all : ∀ b q, h b = some (.tab q) → (b, q) ∈ Ts
section
variable {K : PySem.W.Frag} {H H1 : Hp} {h : Hv} {Ts : List (Addr × Str)}
theorem Tbs.tabs (t : Tbs Ts h) (r : RH K H h) : LamX.Tabs Ts H := fun p hp => by
  obtain ⟨ps, e, k, z⟩ := r p.1 _ (t.has p hp)
  exact ⟨ps, e, k, fun pos cv hc => let ⟨c, e1, e2, _⟩ := z pos cv hc; ⟨c, e1, e2⟩⟩
theorem Tbs.uniq (t : Tbs Ts h) {P : Addr} {q : Str} (m : (P, q) ∈ Ts) : ∀ p ∈ Ts, p.1 = P → p.2 = q := fun p hp e => by
  have a := t.has p hp
  have b := t.has _ m
  rw [e, b] at a
  cases a
  rfl
theorem Tbs.step (t : Tbs Ts h) (r : RH K H h) (e : LamX.ExtN H H1) (T : LamX.Tabs Ts H1) : RH K H1 h ∧ Step h H h H1 := by
  have s : Step h H h H1 := ⟨fun a o ha hn n => ⟨e a o ha n, hn⟩, fun a o ha hn => ⟨e a o ha (ro_nt (r a _ hn) (fun _ z => nomatch z) ha), hn⟩⟩
  refine ⟨fun a o ha => ?_, s⟩
  have ra := r a o ha
  by_cases n : ∃ q', o = .tab q'
  · obtain ⟨q', rfl⟩ := n
    obtain ⟨ps, e1, k, z⟩ := T (a, q') (t.all a q' ha)
    refine ⟨ps, e1, k, fun pos cv hc => ?_⟩
    obtain ⟨c, e2, e3⟩ := z pos cv hc
    refine ⟨c, e2, e3, ?_⟩
    cases hx : h c with
    | none => rfl
    | some ob =>
      have rc := r c ob hx
      by_cases m : ∃ q', ob = .tab q'
      · obtain ⟨q2, rfl⟩ := m
        obtain ⟨ps2, e4, _⟩ := T (c, q2) (t.all c q2 hx)
        have e4 : H1 c = some (.tbl ps2) := e4
        rw [e4] at e3
        exact absurd (Option.some.inj e3).symm (LamX.codeO_ne _)
      · obtain ⟨u, hu⟩ := ro_some rc
        have := e c u hu (ro_nt rc (fun q' z => m ⟨q', z⟩) hu)
        rw [this] at e3
        rw [Option.some.inj e3] at hu
        exact absurd hu (ro_noext rc)
  · exact ra.stepN s.n fun u hu => e a u hu (ro_nt ra (fun q' z => n ⟨q', z⟩) hu)
theorem Tbs.put {p : Addr} {o : Ob} (x : Tbs Ts h) (e : h p = none) (n : ∀ q, o ≠ .tab q) : Tbs Ts (DL.put h p o) := by
  refine ⟨fun a ha => ?_, fun b q hb => ?_⟩
  · have := x.has a ha
    rw [put_ne (fun z => by rw [z, e] at this; cases this)]; exact this
  · by_cases z : b = p
    · subst z; rw [put_same] at hb; exact absurd (Option.some.inj hb) (n q)
    · rw [put_ne z] at hb; exact x.all b q hb
theorem Tbs.write {p : Addr} {o u : Ob} (x : Tbs Ts h) (e : h p = some u) (nu : ∀ q, u ≠ .tab q) (n : ∀ q, o ≠ .tab q) : Tbs Ts (DL.put h p o) := by
  refine ⟨fun a ha => ?_, fun b q hb => ?_⟩
  · have := x.has a ha
    rw [put_ne (fun z => by rw [z, e] at this; exact nu _ (Option.some.inj this))]; exact this
  · by_cases z : b = p
    · subst z; rw [put_same] at hb; exact absurd (Option.some.inj hb) (n q)
    · rw [put_ne z] at hb; exact x.all b q hb
theorem Tbs.drop {p : Addr} {u : Ob} (x : Tbs Ts h) (e : h p = some u) (nu : ∀ q, u ≠ .tab q) : Tbs Ts (DL.drop h p) := by
  refine ⟨fun a ha => ?_, fun b q hb => ?_⟩
  · have := x.has a ha
    rw [drop_ne (fun z => by rw [z, e] at this; exact nu _ (Option.some.inj this))]; exact this
  · by_cases z : b = p
    · subst z; rw [drop_same] at hb; cases hb
    · rw [drop_ne z] at hb; exact x.all b q hb
end
section
variable {X : Cx} {sg : Scope} {g : Addr} {cdg : Value} {q : Str} {cs : Str → Addr} {rs : List Str} {den : SD} {s1 : Stmt} {rest : List Stmt} {p1 p2 p3 p4 p5 p6 p7 p8 p9 p10 p11 : Pos}
end
end DL
namespace DL
open PySem PySem.Spec PyProof.Rows L2
abbrev lamQ (n : Str) : Str := (n ++ ".<locals>.") ++ "<lambda>"
structure Gx where
  ns : List Str
  T : Str → Addr
  C : Str → Addr
  w : World
def Gx.Ts (G : Gx) : List (Addr × Str) := G.ns.map fun n => (G.T n, lamQ n)
theorem Gx.mem {G : Gx} {n : Str} (h : n ∈ G.ns) : (G.T n, lamQ n) ∈ G.Ts := List.mem_map.mpr ⟨n, h, rfl⟩
end DL
namespace DL
open PySem PySem.Spec PyProof.Rows L2
section
variable {K : PySem.W.Frag} {H : Hp} {h : Hv}
end
end DL
namespace DL
open PySem PySem.Spec PyProof.Rows L2
def putFA (f : Str) (v : Val) : List (Str × Val) → List (Str × Val)
  | [] => [(f, v)]
  | (g, x) :: r => if g = f then (g, v) :: r else (g, x) :: putFA f v r
section
variable {K : PySem.W.Frag} {H : Hp} {h : Hv}
theorem RKs.look {f : Str} : ∀ {fs : List (Str × Val)} {xs : List (Str × V)}, RKs K H h fs xs → (fs.lookup f = none ∧ xs.lookup f = none) ∨ ∃ v x, fs.lookup f = some v ∧ xs.lookup f = some x ∧ RV K H h v x
  | [], xs, r => by rw [show xs = [] from r]; exact .inl ⟨rfl, rfl⟩
  | (g, v) :: fs, xs, r => by
    obtain ⟨y, ys, e, r1, r2⟩ := r
    subst e
    rw [List.lookup_cons, List.lookup_cons]
    cases f == g with
    | true => exact .inr ⟨v, y, rfl, rfl, r1⟩
    | false => exact RKs.look r2
end
section
variable {X : Cx} {B : Bs} {o e : Expr} {es : List Expr} {d dv : ED} {aa : AD} {f m x : Str} {C : Addr} {pos pos' apos p : Pos}
@[simp] def dFld (C : Addr) (f : Str) (d : ED) : ED := fun ρ h Q E => d ρ h (fun v h1 => match v with
  | .ref a => (match h1 a with
    | some (.ins C' fs) => C' = C ∧ (match fs.lookup f with
      | some u => Q u h1
      | none => False)
    | _ => False)
  | _ => False) E
@[simp] def sFldA (C : Addr) (f : Str) (d dv : ED) : SD := fun ρ h D E => dv ρ h (fun v h1 => d ρ h1 (fun o h2 => match o with
  | .ref a => (match h2 a with
    | some (.ins C' fs) => C' = C ∧ fs.length < 1000 ∧ D.nx ρ (put h2 a (.ins C (putFA f v fs)))
    | _ => False)
  | _ => False) E) E
@[simp] def dMeth (C : Addr) (m : Str) (n : Nat) (fs : SpF) (d : ED) (aa : AD) : ED := fun ρ h Q E => d ρ h (fun v h1 => match v with
  | .ref a => (match h1 a with
    | some (.ins C' fl) => C' = C ∧ fl.lookup m = none ∧ aa ρ h1 (fun vs h2 => vs.length + 1 = n ∧ fs (.ref a :: vs) h2 Q (fun nm pl h' => E nm pl ρ h')) E
    | _ => False)
  | _ => False) E
def MtF (P : Program) (w : World) (K : PySem.W.Frag) (mg : Str → Option Value) (base : Heap) (A : Around) (C : Addr) (m : Str) (n : Nat) (fs : SpF) : Prop :=
  ∃ (k : Nat) (f : Addr) (fd : FuncData) (ps : List Str), FnOk P w K mg base (L2.CX P w) k f fd ps (spA K mg n fs) ∧ Room k A ∧ Meth K C m f ∧ L2.Binds K fd ps []
@[simp] def dNew (C : Addr) (n : Nat) (fs : SpF) (aa : AD) : ED := fun ρ h Q E => aa ρ h (fun vs h1 => ∀ a, h1 a = none → vs.length + 1 = n ∧ fs (.ref a :: vs) (put h1 a (.ins C [])) (fun v h2 => v = .non ∧ Q (.ref a) h2) (fun nm pl h' => E nm pl ρ h')) E
def MkF (P : Program) (w : World) (K : PySem.W.Frag) (mg : Str → Option Value) (base : Heap) (A : Around) (x : Str) (C : Addr) (n : Nat) (fs : SpF) : Prop :=
  ∃ (k : Nat) (f : Addr) (fd : FuncData) (ps : List Str), FnOk P w K mg base (L2.CX P w) k f fd ps (spA K mg n fs) ∧ Room (k + 1) A ∧ Mk K C f ∧ mg x = some (.ref C) ∧ L2.Binds K fd ps []
end
end DL
namespace DL
open PySem PySem.Spec PyProof.Rows L2
section
variable {X : Cx} {pins : List (Addr × Obj)} {σ : L2.St} {H : Hp} {s : Shared}
structure Own (X : Cx) (pins : List (Addr × Obj)) (b : Addr) : Prop where
  sz : X.s_0.heap.objs.size ≤ b
  L : b ≠ X.env.locals
  c : ∀ x c, X.env.cells.lookup x = some c → c ≠ b
  p : ∀ p ∈ X.pn ++ pins, p.1 ≠ b
  fs : b ∉ X.fs
theorem own_of (I : Inv X pins σ H s) {b : Addr} (hb : s.heap.objs.size ≤ b) : Own X pins b where
  sz := Nat.le_trans I.sz hb
  L := fun e => absurd (e ▸ I.lt) (Nat.not_lt.mpr hb)
  c := fun x c e z => by
    obtain ⟨v, o, ho, _⟩ := I.cell x c e
    exact absurd (z ▸ Heap.lt_size ho) (Nat.not_lt.mpr hb)
  p := fun p hp z => by
    exact absurd (z ▸ Heap.lt_size (I.pin p hp).1) (Nat.not_lt.mpr hb)
  fs := I.nofs hb
theorem Inv.ownw {b : Addr} {h' : Heap} {t' : Nat} (I : Inv X pins σ H s) (o : Own X pins b) (hn : H b = none) (hs : Heap.SameBut b s.heap h') : Inv X pins σ H { s with heap := h', toks := t' } :=
  I.turned (fun c u hc e => (hs.2 c hc).trans e) hn o.L (.inr o.sz) o.c o.p
theorem Inv.fewer {more : List (Addr × Obj)} (I : Inv X (more ++ pins) σ H s) : Inv X pins σ H s := I.pins_of fun p hp => I.pin p (List.mem_append_right _ (List.mem_append_right _ hp))
end
section
variable {X : Cx} {pins : List (Addr × Obj)} {σ : L2.St} {H : Hp} {s : Shared} {h : Hv}
end
theorem cxF {P : Program} {w : World} {outer : List Env} {H : Hp} {s s' : Shared} {e : Value} (z : L2.CX P w outer H s (fun _ _ _ => False) e s') : False := by
  obtain ⟨_, _, _, _, _, _, _, _, _, _, _, _, hE⟩ := z
  exact hE
theorem lam1_run {P : Program} {w : World} {K : PySem.W.Frag} {mg : Str → Option Value} {base : Heap} {A : Around} {outer : List Env} {s : Shared} {H : Hp} {k : Nat} {f c' : Addr} {q a : Str} {params : Arguments} {body : Expr} {scope : Scope} {pm ctv u : Value} {x : V} {Q : VK} {E : XK} {t : TE}
    (S : FnScope [a] [a] scope) (hr : Room (k + 1) A) (e0 : Env0 P w K mg base A outer s H) (hf : s.heap.get? f = some (PySem.W.kla_obj "<lambda>" q params body scope [] pm c' ctv)) (hc : s.heap.CodeRec (.ref c') q)
    (hb : bindArgs (PySem.W.kla_fn "<lambda>" q params body scope [] pm (.ref c') ctv) ⟨[u], []⟩ = pure [(a, u)]) (r : RelV x u)
    (hbody : Room k (A.deeper (envOfC q scope s.heap.objs.size f (.ref c'))) → PE (cxOf (L2.CX P w) P w K mg base [a] q scope f (.ref c') A outer s H E) body t) (ht : t [some x] H Q) :
    codeAny (model P w) A (.call (.ref f) ⟨[u], []⟩) (CR (L2.CX P w) outer P w H s Q E) s := by
  have lim : s.heap.NoLimit := e0.mod.nolimit.keeps fun b o e => (e0.bs b o e).1
  have hkind : ∀ y ∈ [a].zip [u], scope.names.lookup y.1 = some .local ∨ (scope.names.lookup y.1 = some .cell ∧ ((cellsFrom (s.heap.objs.size + 1) scope.names []).lookup y.1).isSome = true) := fun ⟨n, v⟩ hy => by
    rcases S.par n (List.of_mem_zip hy).1 with q | q
    · exact .inl q
    · exact .inr ⟨q, PySem.W.cellsFrom_some _ _ _ (.inl q)⟩
  refine PySem.W.kla_callFunE hr.depth hf rfl S.co S.gen rfl hc ?_
  rw [hb]
  refine wpAny_pure (wpAny_newFunctionEnv_cells (binds := [a].zip [u]) S.kind hkind fun env he s1 xx => ?_)
  subst he
  refine ⟨lim.keeps xx.toInCall.keep, ?_⟩
  have I : Inv (cxOf (L2.CX P w) P w K mg base [a] q scope f (.ref c') A outer s H E) [] (L2.start [a] [x]) H s1 := inv_start S hr.hd e0 rfl (.cons r .nil) xx
  refine PySem.W.kla_codeExpr (wpAny_mono ((hbody (hr.deeper _)).run [] s1 (L2.start [a] [x]) H Q I ht) (fun v s' hq => ?_) fun e s' hq => hq)
  obtain ⟨w', H', J', rv, qq⟩ := hq
  exact ⟨w', H', J'.os, J'.bare, J'.base, J'.hok, rv, qq⟩
end DL
namespace DL
open PySem PySem.Spec PyProof.Rows L2
section
variable {X : Cx} {B : Bs} {kx vx tg iter c : Expr} {ifs : List Expr} {scope : Scope} {own : List (Str × Nat)} {pos spos : Pos} {di : ID} {t : Tg} {tt : TD} {tk tv : ED}
end
section
variable {X : Cx} {B : Bs} {C : Addr} {pos pos' : Pos}
end
def MtR (P : Program) (w : World) (K : PySem.W.Frag) (mg : Str → Option Value) (base : Heap) (k : Nat) (C : Addr) (m : Str) (n : Nat) (fs : SpF) : Prop :=
  ∃ (f : Addr) (fd : FuncData) (ps : List Str), FnOk P w K mg base (L2.CX P w) k f fd ps (spA K mg n fs) ∧ Meth K C m f ∧ L2.Binds K fd ps []
theorem MtR.at {P : Program} {w : World} {K : PySem.W.Frag} {mg : Str → Option Value} {base : Heap} {k j : Nat} {C : Addr} {m : Str} {n : Nat} {fs : SpF} {A : Around} (F : MtR P w K mg base k C m n fs) (hr : Room j A) (h : k ≤ j := by decide) : MtF P w K mg base A C m n fs :=
  let ⟨f, fd, ps, a, b, c⟩ := F; ⟨k, f, fd, ps, a, hr.mono h, b, c⟩
def MkR (P : Program) (w : World) (K : PySem.W.Frag) (mg : Str → Option Value) (base : Heap) (k : Nat) (x : Str) (C : Addr) (n : Nat) (fs : SpF) : Prop :=
  ∃ (f : Addr) (fd : FuncData) (ps : List Str), FnOk P w K mg base (L2.CX P w) k f fd ps (spA K mg n fs) ∧ Mk K C f ∧ mg x = some (.ref C) ∧ L2.Binds K fd ps []
theorem MkR.at {P : Program} {w : World} {K : PySem.W.Frag} {mg : Str → Option Value} {base : Heap} {k j : Nat} {x : Str} {C : Addr} {n : Nat} {fs : SpF} {A : Around} (F : MkR P w K mg base k x C n fs) (hr : Room j A) (h : k + 1 ≤ j := by decide) : MkF P w K mg base A x C n fs :=
  let ⟨f, fd, ps, a, b, c, d⟩ := F; ⟨k, f, fd, ps, a, hr.mono h, b, c, d⟩
end DL
namespace DL
open PySem PySem.Spec PyProof.Rows L2
theorem keyV_rel {K : PySem.W.Frag} {H : Hp} {h : Hv} {k : Key} {x : V} (r : RV K H h (keyV k) x) : x = kV k := by
  cases k with
  | inl i => unfold keyV at r; rw [RV] at r; exact r
  | inr i => unfold keyV at r; rw [RV] at r; exact r
@[simp] def dDGet1 (dd dk : ED) : ED := fun ρ h Q E => dd ρ h (fun v h1 => (dgetA v (.int 0) h1).isSome = true ∧ dk ρ h1 (fun k h2 => match dgetA v k h2 with
  | some o => Q (o.getD .non) h2
  | none => False) E) E
def lcL2 (ok : Hv → Prop) (t : Tg) (tt : TD) (di1 : ID) (t1 : Tg) (tt1 : TD) (te : ED) (vs1 : List Nat) (ρw : Sl) : List Val → List Val → Hv → (List Val → Hv → Prop) → Prop
  | [], acc, h, Q => ok h ∧ Q acc h
  | v :: vs, acc, h, Q => ok h ∧ match bT t v ρw with
    | some ρ' => tt ρ' h (fun b h1 => if b = true then di1 ρ' h1 (fun it h2 => lcL it.ok t1 tt1 te (wipeA ρ' vs1) it.items acc h2 (fun acc' h3 => lcL2 ok t tt di1 t1 tt1 te vs1 ρw vs acc' h3 Q)) EF else lcL2 ok t tt di1 t1 tt1 te vs1 ρw vs acc h1 Q) EF
    | none => False
def dLc2 (di : ID) (t : Tg) (tt : TD) (di1 : ID) (t1 : Tg) (tt1 : TD) (te : ED) (vs vs1 : List Nat) : ED := fun ρ h Q E => di ρ h (fun it h1 => ∀ D, h1 D = none → lcL2 it.ok t tt di1 t1 tt1 te vs1 (wipeA ρ vs) it.items [] (put h1 D .busy) (fun acc h2 => Q (.lst acc) (drop h2 D))) E
theorem rd_lc2 {K : PySem.W.Frag} {B : Bs} {di di1 : ID} {t t1 : Tg} {tt tt1 : TD} {te : ED} {vs vs1 : List Nat} (hsl : ∀ i ∈ slots t, i ∈ vs) (hsl1 : ∀ i ∈ slots t1, i ∈ vs1) :
    ∀ σ H Q, rdE K B (dLc2 di t tt di1 t1 tt1 te vs vs1) σ H Q → tLc2 (rdI K B di) (gT K t) (rdT K B.blk tt) (rdI K B.blk di1) (gT K t1) (rdT K B.blk tt1) (rdE K B.blk te) vs vs1 σ H Q := by
  rintro σ H Q ⟨ρ, h, Q', S, q, C⟩
  refine ⟨ρ, h, _, S, q, fun it h1 H1 J q1 s1 r1 hJ D nD => ?_⟩
  have S1 := S.step s1 r1
  have nd : h1 D = none := r1.nof nD
  have sN : Step h1 H1 (put h1 D .busy) (upd H1 D (.lst [])) := Step.new nD
  have rN : RH K (upd H1 D (.lst [])) (put h1 D .busy) := r1.new nD ⟨_, upd_same, .inl ⟨_, rfl⟩⟩
  refine ⟨fun i m H2 => ∃ acc xs h2, i + m = it.items.length ∧ RH K H2 h2 ∧ Step h1 H1 h2 H2 ∧ h2 D = some .busy ∧ H2 D = some (.lst xs) ∧ RVs K H2 h2 acc xs ∧ lcL2 it.ok t tt di1 t1 tt1 te vs1 (wipeA ρ vs) (it.items.drop i) acc h2 (fun acc h2 => Q' (.lst acc) (drop h2 D)),
    ⟨it.items.length, [], [], put h1 D .busy, by omega, rN, sN, put_same, upd_same, RVs.nil, q1 D nd⟩, ?_⟩
  rintro i m H2 ⟨acc, xs, h2, em, r2, s2, hb2, hD2, ra2, q2⟩
  cases hdr : it.items.drop i with
  | nil =>
    rw [hdr] at q2
    have hi : it.items.length ≤ i := List.drop_eq_nil_iff.mp hdr
    have ei : i = it.items.length := by omega
    subst ei
    refine .inl ⟨(hJ h2 H2 s2.n r2 q2.1).2, ?_⟩
    have q3 := q2.2
    have sf : Step h1 H1 (drop h2 D) H2 := ⟨fun a o e n t => by
      obtain ⟨e2, n2⟩ := s2.n a o e n t
      exact less_drop.stepN a o e2 n2 t, fun a o e n => by
      have ne : a ≠ D := ne_of_none e nD
      rw [drop_ne ne]
      exact s2.b a o e n⟩
    refine C _ _ _ _ q3 (s1.trans sf) ?_ (r2.less less_drop)
    rw [RV]
    exact ⟨D, xs, rfl, drop_same, hD2, ra2.stepN less_drop.stepN⟩
  | cons v ws =>
    rw [hdr] at q2
    have hi : i < it.items.length := by
      apply Nat.lt_of_not_le
      intro hh
      rw [List.drop_eq_nil_iff.mpr hh] at hdr
      cases hdr
    have hv : it.items[i]? = some v := by
      have := congrArg (·[0]?) hdr
      simpa using this
    have hdr' : it.items.drop (i + 1) = ws := by
      rw [← List.drop_drop, hdr] <;> rfl
    obtain ⟨ok2, q2⟩ := q2
    obtain ⟨go, yl⟩ := (hJ h2 H2 s2.n r2 ok2).1 i v hv
    refine .inr ⟨go, fun H3 => ∃ acc xs h3, RH K H3 h3 ∧ Step h1 H1 h3 H3 ∧ h3 D = some .busy ∧ H3 D = some (.lst xs) ∧ RVs K H3 h3 acc xs ∧ lcL2 it.ok t tt di1 t1 tt1 te vs1 (wipeA ρ vs) ws acc h3 (fun acc h2 => Q' (.lst acc) (drop h2 D)),
      fun H3 ⟨acc, xs, h3, r3, s3, b3, d3, a3, q3⟩ => ⟨m - 1, by omega, acc, xs, h3, by omega, r3, s3, b3, d3, a3, by rw [hdr']; exact q3⟩, fun x H3 hy => ?_⟩
    obtain ⟨s3, r3, rv3⟩ := yl x H3 hy
    split at q2
    · rename_i ρ' eρ
      have sl3 : RS K H3 h2 (wipeA ρ vs) (L2.wipe σ vs) := ((S1.s.wipe vs).step s2).step s3
      refine gT_rel rv3 sl3 eρ _ fun σ' rs' hw => ⟨?_, ?_⟩
      · rw [hw vs hsl]
        exact wipe_wipe σ vs
      · refine ⟨ρ', h2, _, ⟨rs', r3, S1.b.trans (s2.trans s3)⟩, q2, fun k h4 H4 q4 s4 r4 => ?_⟩
        have s24 := s3.trans s4
        have b4 := s24.b D _ hD2 hb2
        cases k with
        | false =>
          rw [if_neg Bool.false_ne_true] at q4
          exact iteF ⟨acc, xs, h4, r4, s2.trans s24, b4.2, b4.1, ra2.step s24, q4⟩
        | true =>
          rw [if_pos rfl] at q4
          refine iteT ⟨ρ', h4, _, ⟨rs'.step s4, r4, (S1.b.trans (s2.trans s3)).trans s4⟩, q4, fun it1 h5 H5 J1 q5 s5 r5 hJ1 => ?_⟩
          have s25 := s24.trans s5
          have b5 := s25.b D _ hD2 hb2
          have S5 : RS K H5 h5 ρ' σ' := (rs'.step s4).step s5
          refine ⟨fun j k H6 => ∃ acc xs h6, j + k = it1.items.length ∧ RH K H6 h6 ∧ StepN h5 H5 h6 H6 ∧ Step h1 H1 h6 H6 ∧ h6 D = some .busy ∧ H6 D = some (.lst xs) ∧ RVs K H6 h6 acc xs ∧ lcL it1.ok t1 tt1 te (wipeA ρ' vs1) (it1.items.drop j) acc h6 (fun acc' h3 => lcL2 it.ok t tt di1 t1 tt1 te vs1 (wipeA ρ vs) ws acc' h3 (fun acc h2 => Q' (.lst acc) (drop h2 D))),
            ⟨it1.items.length, acc, xs, h5, by omega, r5, (Step.refl h5 H5).n, s2.trans s25, b5.2, b5.1, ra2.step s25, q5⟩, ?_⟩
          rintro j k H6 ⟨acc, xs, h6, ek, r6, s56, s6, hb6, hD6, ra6, q6⟩
          cases hdr1 : it1.items.drop j with
          | nil =>
            rw [hdr1] at q6
            have hj : it1.items.length ≤ j := List.drop_eq_nil_iff.mp hdr1
            have ej : j = it1.items.length := by omega
            subst ej
            exact .inl ⟨(hJ1 h6 H6 s56 r6 q6.1).2, acc, xs, h6, r6, s6, hb6, hD6, ra6, q6.2⟩
          | cons v1 ws1 =>
            rw [hdr1] at q6
            have hj : j < it1.items.length := by
              apply Nat.lt_of_not_le
              intro hh
              rw [List.drop_eq_nil_iff.mpr hh] at hdr1
              cases hdr1
            have hv1 : it1.items[j]? = some v1 := by
              have := congrArg (·[0]?) hdr1
              simpa using this
            have hdr1' : it1.items.drop (j + 1) = ws1 := by
              rw [← List.drop_drop, hdr1] <;> rfl
            obtain ⟨ok6, q6⟩ := q6
            obtain ⟨go1, yl1⟩ := (hJ1 h6 H6 s56 r6 ok6).1 j v1 hv1
            refine .inr ⟨go1, fun H7 => ∃ acc xs h7, RH K H7 h7 ∧ StepN h5 H5 h7 H7 ∧ Step h1 H1 h7 H7 ∧ h7 D = some .busy ∧ H7 D = some (.lst xs) ∧ RVs K H7 h7 acc xs ∧ lcL it1.ok t1 tt1 te (wipeA ρ' vs1) ws1 acc h7 (fun acc' h3 => lcL2 it.ok t tt di1 t1 tt1 te vs1 (wipeA ρ vs) ws acc' h3 (fun acc h2 => Q' (.lst acc) (drop h2 D))),
              fun H7 ⟨acc, xs, h7, r7, s57, s7, b7, d7, a7, q7⟩ => ⟨k - 1, by omega, acc, xs, h7, by omega, r7, s57, s7, b7, d7, a7, by rw [hdr1']; exact q7⟩, fun x1 H7 hy1 => ?_⟩
            obtain ⟨s7, r7, rv7⟩ := yl1 x1 H7 hy1
            split at q6
            · rename_i ρ2 eρ2
              have sl7 : RS K H7 h6 (wipeA ρ' vs1) (L2.wipe σ' vs1) := ((S5.wipe vs1).stepN s56).step s7
              refine gT_rel rv7 sl7 eρ2 _ fun σ2 rs2 hw2 => ⟨?_, ?_⟩
              · rw [hw2 vs1 hsl1]
                exact wipe_wipe σ' vs1
              · have bB : Step B.h0 B.H0 h6 H7 := (S1.b.trans s6).trans s7
                refine ⟨ρ2, h6, _, ⟨rs2, r7, bB⟩, q6, fun k1 h8 H8 q8 s8 r8 => ?_⟩
                have s68 := s7.trans s8
                have b8 := s68.b D _ hD6 hb6
                cases k1 with
                | false =>
                  rw [if_neg Bool.false_ne_true] at q8
                  exact iteF ⟨acc, xs, h8, r8, s56.trans s68.n, s6.trans s68, b8.2, b8.1, ra6.step s68, q8⟩
                | true =>
                  rw [if_pos rfl] at q8
                  refine iteT ⟨ρ2, h8, _, ⟨rs2.step s8, r8, bB.trans s8⟩, q8, fun y h9 yx H9 q9 s9 rv9 r9 => ?_⟩
                  have s69 := s68.trans s9
                  have b9 := s69.b D _ hD6 hb6
                  have sD : StepN h9 H9 h9 (upd H9 D (.lst (xs ++ [yx]))) := fun a o e n _ => by
                    have : a ≠ D := fun z => by rw [z, b9.2] at n; cases n
                    rw [upd_ne this]
                    exact ⟨e, n⟩
                  refine ⟨xs, b9.1, by rw [← ra6.len]; exact q9.1, acc ++ [y], xs ++ [yx], h9, ?_, ?_, ?_, b9.2, upd_same, ?_, q9.2⟩
                  · intro a o q
                    by_cases ha : a = D
                    · subst ha
                      rw [b9.2] at q
                      cases q
                      exact ⟨_, upd_same, .inl ⟨_, rfl⟩⟩
                    · exact (r9 a o q).stepN sD fun _ z => by rw [upd_ne ha]; exact z
                  · exact (s56.trans s69.n).trans sD
                  · have s19 := s6.trans s69
                    exact ⟨fun a o e n t => by
                      obtain ⟨e2, n2⟩ := s19.n a o e n t
                      rw [upd_ne (ne_of_none e nD)]
                      exact ⟨e2, n2⟩, fun a o e n => by
                      obtain ⟨e2, n2⟩ := s19.b a o e n
                      rw [upd_ne (ne_of_none e nD)]
                      exact ⟨e2, n2⟩⟩
                  · exact ((ra6.step s69).append (RVs.cons rv9 RVs.nil)).stepN sD
            · exact q6.elim
    · exact q2.elim
section
variable {X : Cx} {B : Bs} {elt tg iter tg1 iter1 : Expr} {ifs ifs1 : List Expr} {scope : Scope} {own : List (Str × Nat)} {vs1 : List Nat} {pos spos : Pos} {di di1 : ID} {t t1 : Tg} {tt tt1 : TD} {te : ED}
theorem de_lc2 (hc : X.calm = true) (hN : X.N.Nodup) (hi : DI X B tg iter di) (ok : BlkOk X.N X.env.scope scope own) (hv : ∀ i ∈ vs1, i ∈ own.map (·.2)) (hsl : ∀ i ∈ slots t, i ∈ own.map (·.2)) (hsl1 : ∀ i ∈ slots t1, i ∈ vs1)
    (hg : ∀ (s : Shared) (H : Hp) (C : Addr) (cl : List (Str × Addr)) (fp : List Addr), PG (X.blk s H scope (compEnvC scope cl C X.env) fp) tg (gT X.K t)) (ht : ∀ (s : Shared) (H : Hp) (C : Addr) (cl : List (Str × Addr)) (fp : List Addr), PTs (X.blk s H scope (compEnvC scope cl C X.env) fp) ifs (rdT X.K B.blk tt))
    (hi1 : ∀ (s : Shared) (H : Hp) (C : Addr) (cl : List (Str × Addr)) (fp : List Addr), DI (X.blk s H scope (compEnvC scope cl C X.env) fp) B.blk tg1 iter1 di1)
    (hg1 : ∀ (s : Shared) (H : Hp) (C : Addr) (cl : List (Str × Addr)) (fp : List Addr), PG (X.blk s H scope (compEnvC scope cl C X.env) fp) tg1 (gT X.K t1)) (ht1 : ∀ (s : Shared) (H : Hp) (C : Addr) (cl : List (Str × Addr)) (fp : List Addr), PTs (X.blk s H scope (compEnvC scope cl C X.env) fp) ifs1 (rdT X.K B.blk tt1))
    (he : ∀ (s : Shared) (H : Hp) (C : Addr) (cl : List (Str × Addr)) (fp : List Addr), DE (X.blk s H scope (compEnvC scope cl C X.env) fp) B.blk elt te) (hs : ∀ x, foldedSetIterable iter X.env x = pure x := by intro _; rfl) (hs1 : ∀ env x, foldedSetIterable iter1 env x = pure x := by intro _ _; rfl) :
    DE X B (.ListComp elt [⟨tg, iter, ifs, 0⟩, ⟨tg1, iter1, ifs1, 0⟩] scope pos) (dLc2 di t tt di1 t1 tt1 te (own.map (·.2)) vs1) := PEi (pe_lc2 hc hN hi ok hv hg ht hi1 hg1 ht1 he hs hs1) (rd_lc2 hsl hsl1)
variable {o e : Expr} {dd de : ED} {apos cpos : Pos}
end
theorem u65 {k : Nat} {A : Around} (r : Room k A) : A.units + 65 < cLine := by have := r.un; omega
end DL
namespace DL
open PySem PySem.Spec PyProof.Rows L2
def rNotInT (K : PySem.W.Frag) : R2 := fun x y H Q => ∃ d ds, Dp K H x d ∧ Dp K H y (.tuple ds) ∧ SeqAt.shaped d = true ∧ SeqAt.shaped (.tuple ds) = true ∧ Q (.bl (!ds.any fun z => PyData.eqv z d)) H
theorem op_notInT {X : Cx} (hu : X.A.units + 65 < cLine) : OpR X (compareOp .NotIn) (rNotInT X.K) := by
  intro pins s σ H x y v u Q I rx ry h
  obtain ⟨d, ds, hd, he, sd, se, q⟩ := h
  obtain ⟨as, r1⟩ := Dp.reads I d x v hd rx
  obtain ⟨bs, r2⟩ := Dp.reads I (.tuple ds) y u he ry
  exact SeqAt.notIn_tuple_reads r2 r1 (SeqAt.canLay_of_shaped se) (SeqAt.canLay_of_shaped sd) (room_in_shaped sd hu) ⟨.bl _, H, I, rfl, q⟩
def fNotInT : F2 := fun v w h Q => ∃ d ds, datH v h = some d ∧ datH w h = some (.tuple ds) ∧ SeqAt.shaped d = true ∧ SeqAt.shaped (.tuple ds) = true ∧ Q (.bl (!ds.any fun z => PyData.eqv z d)) h
theorem ol_notInT {K : PySem.W.Frag} : OpL K fNotInT (rNotInT K) := fun v w x y h H Q' Q r rv rw' q c => by
  obtain ⟨d, ds, e1, e2, s1, s2, q⟩ := q
  exact ⟨d, ds, datH_rel r rv e1, datH_rel r rw' e2, s1, s2, c.val r rv_bl q⟩
end DL
namespace DL
open PySem PySem.Spec PyProof.Rows L2
def kIt (k : Bool) (h : Heap) (it l : Addr) (i : Nat) : Prop := match k with
  | true => h.IsListIter it l i
  | false => h.IsTupleIter it l i
def kSq (k : Bool) (h : Heap) (l : Addr) (xs : Array Value) : Prop := match k with
  | true => h.IsList l xs
  | false => h.IsTuple l xs
section
variable {h h' : Heap} {k : Bool} {it l b : Addr} {i : Nat} {xs : Array Value}
theorem kIt.ext (x : kIt k h it l i) (hs : Heap.ExtBut b h h') (ne : it ≠ b) : kIt k h' it l i := by
  cases k with
  | true => exact Heap.IsListIter.extBut x hs ne
  | false => exact Heap.IsTupleIter.extBut x hs ne
theorem kSq.ext (x : kSq k h l xs) (hs : Heap.ExtBut b h h') (ne : l ≠ b) : kSq k h' l xs := by
  cases k with
  | true => exact Heap.IsList.extBut x hs ne
  | false => exact Heap.IsTuple.extBut x hs ne
theorem kIt.at (x : kIt k h it l i) (e : ∀ o, h.get? it = some o → h'.get? it = some o) : kIt k h' it l i := by
  cases k with
  | true => exact Heap.IsListIter.at x e
  | false => exact Heap.IsTupleIter.at x e
theorem kIt.obj (x : kIt k h it l i) : ∃ o, h.get? it = some o ∧ ∀ v, o.data ≠ .cell v := by
  cases k with
  | true => obtain ⟨o, e, _, d⟩ := x; exact ⟨o, e, fun v q => by rw [d] at q; cases q⟩
  | false => obtain ⟨o, e, _, d⟩ := x; exact ⟨o, e, fun v q => by rw [d] at q; cases q⟩
end
section
variable {prog : Program} {w : World} {A : Around} {E : Value → Shared → Prop} {s : Shared}
variable {kx ky : Bool} {z TI TO i1 i2 l1 l2 : Addr} {k1 k2 : Nat} {xs ys : Array Value} {x y a b : Value}
end
end DL
namespace DL
open PySem PySem.Spec PyProof.Rows L2
section
variable {prog : Program} {w : World} {A : Around} {E : Value → Shared → Prop} {s : Shared}
end
def SqM (k : Bool) (K : PySem.W.Frag) (H : Hp) (a : Addr) (xs : List V) : Prop := match k with
  | true => SqL K H a xs
  | false => SqT K H a xs
theorem SqM.get {k : Bool} {X : Cx} {pins : List (Addr × Obj)} {σ : L2.St} {H : Hp} {s : Shared} {a : Addr} {xs : List V} (I : Inv X pins σ H s) (h : SqM k X.K H a xs) : ∃ its, Vals xs its ∧ kSq k s.heap a its.toArray := by
  cases k with
  | true => obtain ⟨its, rv, p, _⟩ := I.list h; exact ⟨its, rv, p.isList⟩
  | false => obtain ⟨its, rv, p, _⟩ := I.tuple h; exact ⟨its, rv, p⟩
theorem SqM.inj {k : Bool} {X : Cx} {pins : List (Addr × Obj)} {σ : L2.St} {H : Hp} {s : Shared} {a : Addr} {xs ys : List V} (I : Inv X pins σ H s) (h : SqM k X.K H a xs) (h' : SqM k X.K H a ys) : xs = ys := by
  cases k with
  | true => exact I.list_inj h h'
  | false => exact I.tuple_inj h h'
theorem kSq.lt {k : Bool} {h : Heap} {l : Addr} {xs : Array Value} (x : kSq k h l xs) : l < h.objs.size := by
  cases k with
  | true => obtain ⟨o, e, _⟩ := x; exact Heap.lt_size e
  | false => obtain ⟨o, e, _⟩ := x; exact Heap.lt_size e
@[simp] def zipOfM (v w : Val) (h : Hv) : Option Itr := match v, w with
  | .lst xs, .tup ys => some ⟨(xs.zip ys).map fun p => Val.tup [p.1, p.2], fun _ => True⟩
  | .tup xs, .lst ys => some ⟨(xs.zip ys).map fun p => Val.tup [p.1, p.2], fun _ => True⟩
  | .tup xs, .ref a => (match h a with
    | some (.lst ys) => some ⟨(xs.zip ys).map fun p => Val.tup [p.1, p.2], fun h2 => h2 a = some (.lst ys)⟩
    | _ => none)
  | _, _ => none
@[simp] def dZipM (aa : AD) : ID := fun ρ h Q E => aa ρ h (fun vs h1 => match vs with
  | [v, w] => (match zipOfM v w h1 with
    | some it => Q it h1
    | none => False)
  | _ => False) E
section
variable {X : Cx} {B : Bs} {e e2 : Expr} {aa : AD} {p pos : Pos}
end
end DL
namespace DL
open PySem PySem.Spec PyProof.Rows L2
section
variable {prog : Program} {w : World} {A : Around} {E : Value → Shared → Prop} {s : Shared}
end
end DL
namespace DL
open PySem PySem.Spec PyProof.Rows L2
section
variable {prog : Program} {w : World} {A : Around} {E : Value → Shared → Prop} {s : Shared}
variable {z TI TO i1 i2 l1 l2 : Addr} {k1 k2 : Nat} {xs ys : Array Value} {x y a b : Value}
end
end DL
namespace DL
open PySem PySem.Spec PyProof.Rows L2
section
variable {M : Model} {A : Around} {E : Value → Shared → Prop} {s : Shared} {env : Env}
end
@[simp] def dZipS (aa : AD) : ID := fun ρ h Q E => aa ρ h (fun vs h1 => match vs with
  | [.tup xs, .tup ys] => xs.length = ys.length ∧ Q ⟨(xs.zip ys).map fun p => Val.tup [p.1, p.2], fun _ => True⟩ h1
  | _ => False) E
section
variable {X : Cx} {B : Bs} {e e2 : Expr} {aa : AD} {p pos kp cp : Pos} {kc : Nat}
end
end DL
namespace DL
open PySem PySem.Spec PyProof.Rows L2
section
variable {X : Cx}
theorem call_tupleF : CallR X (.type "tuple") (fun xs H Q => ∃ p ys, xs = [.ref p] ∧ SqL X.K H p ys ∧ ∀ l (o : Obj), H l = none → o.dict = none → Q (.ref l) (upd H l (.frz o (.tup ys)))) := by
  intro pins s σ H xs us Q I r q
  obtain ⟨p, ys, ex, hs, q⟩ := q
  subst ex
  obtain ⟨u, eu, rx⟩ := vals1 r
  subst eu
  cases rx
  obtain ⟨its, rv, pl, hz⟩ := I.list hs
  refine call_tuple_list pl.isList (fun h' hk => ?_) (by rw [List.size_toArray, ← rv.length]; exact hz)
  have I1 : Inv X pins σ H { s with heap := h' } := I.kept (t' := s.toks) hk
  have I2 : Inv X pins σ (upd H h'.objs.size (.frz { cls := .type "tuple", data := .seq its.toArray } (.tup ys))) { s with heap := h'.push { cls := .type "tuple", data := .seq its.toArray } } :=
    I1.laid (t' := s.toks) (fun b o e => Heap.get?_push_of_some _ e) (Nat.le_refl _) (show ObjOk X.prog X.w _ _ _ (.frz _ (.tup ys)) from ⟨Heap.get?_push_size _ rfl, hz, its, rv, IsTup.new _ _⟩)
  exact ⟨.ref h'.objs.size, _, I2, rfl, q _ _ (I1.hok.fresh (Nat.le_refl _)) rfl⟩
theorem pairs_ofT {pins : List (Addr × Obj)} {σ : L2.St} {H : Hp} {s : Shared} (I : Inv X pins σ H s) : ∀ {ps : List Addr} {kvs : List (List Key × V)}, Paired (fun p kv => ∃ b, SqT X.K H p [.ref b, kv.2] ∧ H b = some (.tup (kv.1.map kV))) ps kvs →
    ∃ es : List (List Key × Addr × Value), KT H kvs es ∧ es.length = ps.length ∧ ∀ (j : Nat) (q : List Key × Addr × Value), es[j]? = some q → ∃ (T : Addr), ps[j]? = some T ∧ IsTup s.heap T #[.ref q.2.1, q.2.2]
  | _, _, .nil => ⟨[], .nil, rfl, fun j q e => by simp at e⟩
  | _, _, .cons (a := p) (b := kv) h t => by
    obtain ⟨es, r, hl, hp⟩ := pairs_ofT I t
    obtain ⟨b, h, hb⟩ := h
    obtain ⟨its, rv, ht, _⟩ := I.tuple h
    obtain ⟨u, y, ei, ru, ry⟩ := vals2 rv
    subst ei
    cases ru
    refine ⟨(kv.1, b, y) :: es, .cons ⟨rfl, hb, ry⟩ r, by rw [List.length_cons, List.length_cons, hl], fun j q e => ?_⟩
    cases j with
    | zero =>
      have e' : (kv.1, b, y) = q := Option.some.inj e
      subst e'
      exact ⟨p, rfl, ht⟩
    | succ j =>
      obtain ⟨T, e1, e2⟩ := hp j q (by simpa using e)
      exact ⟨T, by simpa using e1, e2⟩
def mergeT (kvs more : List (List Key × V)) : List (List Key × V) := more.foldl (fun acc kv => putK acc kv.1 kv.2) kvs
theorem KT.merge {H : Hp} : ∀ {more : List (List Key × V)} {es : List (List Key × Addr × Value)}, KT H more es → ∀ {kvs : List (List Key × V)} {xs : List (List Key × Addr × Value)}, KT H kvs xs → KT H (mergeT kvs more) (storedAllH xs es)
  | _, _, .nil, kvs, xs, r => r
  | _, _, .cons (a := p) (b := q) h t, kvs, xs, r => by
    obtain ⟨h1, h2, h3⟩ := h
    have := KT.merge t (r.put p.1 h2 h3)
    unfold mergeT storedAllH
    rw [List.foldl_cons, List.foldl_cons, ← h1]
    exact this
theorem dictTT_run (hcalm : X.calm = true) (hu : X.A.units + 2 < cLine) {pins : List (Addr × Obj)} {s : Shared} {σ : L2.St} {H : Hp} {Q : VK} (I : Inv X pins σ H s) {a : Addr} {o : Obj} {ps : List Addr} {kvs : List (List Key × V)} (ha : H a = some (.frz o (.tup (ps.map V.ref)))) (hd : o.dict = none)
    (hp : Paired (fun p kv => ∃ b, SqT X.K H p [.ref b, kv.2] ∧ H b = some (.tup (kv.1.map kV))) ps kvs) (q : ∀ p, H p = none → Q (.ref p) (upd H p (.dT (mergeT [] kvs)))) :
    wpAny (model X.prog X.w) X.A (call (.type "dict") [.ref a]) (EP X pins σ Q) X.xe s := by
  obtain ⟨ho, hz, its, rv, hit⟩ := (show ObjOk X.prog X.w H s.heap a (.frz o (.tup (ps.map V.ref))) from I.hok a _ ha)
  have ei := refs_at rv
  subst ei
  rw [List.length_map] at hz
  obtain ⟨es, rel, hl, hpr⟩ := pairs_ofT I hp
  obtain ⟨o', ho', hc, n, hdat⟩ := hit
  rw [ho] at ho'
  cases ho'
  let prs : List (Value × Value) := es.map fun x => (Value.ref x.2.1, x.2.2)
  let Ts : Nat → Addr := fun j => (ps[j]?).getD 0
  have lp : prs.length = ps.length := by simp only [prs, List.length_map]; exact hl
  have PI : PairItems s.heap (ps.map Value.ref).toArray Ts prs := by
    refine ⟨by rw [List.size_toArray, List.length_map, lp], fun j k v e => ?_⟩
    simp only [prs, List.getElem?_map, Option.map_eq_some_iff] at e
    obtain ⟨x, ex, e2⟩ := e
    obtain ⟨T, eT, it⟩ := hpr j x ex
    cases e2
    refine ⟨?_, .inl ?_⟩
    · simp only [Ts, eT, List.getElem?_toArray, List.getElem?_map, Option.map_some, Option.getD_some]
    · simp only [Ts, eT, Option.getD_some]; exact it
  have kall : ∀ x ∈ es, (tupleKind (mixKind X.prog X.w)).is s.heap x.1 x.2.1 := by
    have all : ∀ {l : List (List Key × V)} {m : List (List Key × Addr × Value)}, KT H l m → ∀ x ∈ m, (tupleKind (mixKind X.prog X.w)).is s.heap x.1 x.2.1 := by
      intro l m q
      induction q with
      | nil => intro x hx; exact nomatch hx
      | @cons p q ps qs hq t ih =>
        intro x hx
        rcases List.mem_cons.mp hx with e | hx
        · subst e
          exact key_of I.hok (by rw [← hq.1]; exact hq.2.1)
        · exact ih x hx
    exact all rel
  refine call_dict_pairsH (knd := tupleKind (mixKind X.prog X.w)) (ps := es) (PairArg.tuple a (ps.map Value.ref).toArray Ts prs) (I.ok.hd hcalm) (show X.A.in1.in1.units < cLine from hu) ⟨⟨o, n, ho, hc, hd, hdat⟩, PI⟩ ⟨by rw [lp, hl], fun i key v e => ?_⟩ (fun h' hk x hx => ?_) (by rw [lp]; exact hz) fun h' tk hd' k => ?_
  · have e' : prs[i]? = some (key, v) := e
    simp only [prs, List.getElem?_map, Option.map_eq_some_iff] at e'
    obtain ⟨x, ex, e2⟩ := e'
    cases e2
    exact ⟨x.1, x.2.1, ex, rfl⟩
  · obtain ⟨ob, items, m, g, r⟩ := kall x hx
    exact ⟨ob, items, m, hk _ _ (Nat.ne_of_lt (Heap.lt_size g)) (fun z => nomatch z) g, r⟩
  · have hm : (s.heap.objs.size == sysModules) = false := beq_eq_false_iff_ne.mpr (Nat.ne_of_gt I.big)
    have hn := I.hok.fresh (Nat.le_refl s.heap.objs.size)
    have rel2 : KT H (mergeT [] kvs) (storedAllH [] es) := KT.merge rel .nil
    have hlen : (mergeT [] kvs).length ≤ sizeLine := by
      rw [rel2.length]
      have := storedAllH_length es []
      rw [List.length_nil, Nat.zero_add, hl] at this
      exact Nat.le_trans this hz
    obtain ⟨od, ed, ep, g1, g2, g3, g4, _, g5⟩ := hd'
    exact ⟨.ref s.heap.objs.size, upd H s.heap.objs.size (.dT (mergeT [] kvs)), I.laid (t' := tk) (fun b ob e => k b ob (fun z => nomatch z) e) (Nat.le_refl _) (show ObjOk X.prog X.w _ _ _ (.dT (mergeT [] kvs)) from ⟨hlen, hm, storedAllH [] es, rel2.keeps (fun b ys e => by rw [upd_ne (ne_of_none e hn)]; exact e), od, ed, ep, g1, g2, g3, g4, g5⟩), rfl, q _ hn⟩
theorem call_dictTT (hcalm : X.calm = true) (hu : X.A.units + 2 < cLine) : CallR X (.type "dict") (fun xs H Q => ∃ (a : Addr) (o : Obj) (ps : List Addr) (kvs : List (List Key × V)), xs = [.ref a] ∧ H a = some (.frz o (.tup (ps.map V.ref))) ∧ o.dict = none ∧ Paired (fun p kv => ∃ b, SqT X.K H p [.ref b, kv.2] ∧ H b = some (.tup (kv.1.map kV))) ps kvs ∧
    ∀ p, H p = none → Q (.ref p) (upd H p (.dT (mergeT [] kvs)))) := by
  intro pins s σ H xs us Q I r q
  obtain ⟨a, o, ps, kvs, ex, ha, hd, hp, q⟩ := q
  subst ex
  obtain ⟨u, eu, rx⟩ := vals1 r
  subst eu
  cases rx
  exact dictTT_run hcalm hu I ha hd hp q
end
section
variable {K : PySem.W.Frag}
theorem hu2_of {A : Around} {k : Nat} (hr : Room k A) : A.units + 2 < cLine := by have := hr.un; omega
def fTupleF : FA := fun vs h Q => ∃ v ws, vs = [v] ∧ listOf v h = some ws ∧ Q (.tpo ws) h
theorem Cont.tpo {h : Hv} {H : Hp} {Q' : PV} {Q : VK} (c : Cont K h H Q' Q) (r : RH K H h) {vs : List Val} {xs : List V} {p : Addr} {o : Obj} (rs : RVs K H h vs xs) (e : H p = none) (hd : o.dict = none) (q : Q' (.tpo vs) h) : Q (.ref p) (upd H p (.frz o (.tup xs))) :=
  c _ _ _ _ q (Step.fresh e) (by rw [RV]; exact ⟨p, xs, o, rfl, r.nof e, upd_same, hd, rs.step (Step.fresh e)⟩) (r.fresh e)
theorem cl_tupleF : CaL K fTupleF (fun xs H Q => ∃ p ys, xs = [.ref p] ∧ SqL K H p ys ∧ ∀ l (o : Obj), H l = none → o.dict = none → Q (.ref l) (upd H l (.frz o (.tup ys)))) := fun vs xs h H Q' Q r rs q c => by
  obtain ⟨v, ws, rfl, hl, q⟩ := q
  obtain ⟨x, ex, rx⟩ := rvs1 rs
  obtain ⟨a, ys, e1, e2, e3⟩ := listOf_rel r rx hl
  subst e1
  exact ⟨a, ys, ex, .of e2, fun l o np hd => c.tpo r e3 np hd q⟩
def fDictTT : FA := fun vs h Q => ∃ (kvs : List (List Key × Val)), vs = [.tpo (kvs.map fun p => Val.tup [.tup (p.1.map keyV), p.2])] ∧ (kvs.map (·.1)).Nodup ∧ ∀ p, h p = none → Q (.ref p) (put h p (.dT kvs))
theorem keyVs_rel {H : Hp} {h : Hv} : ∀ {k : List Key} {xs : List V}, RVs K H h (k.map keyV) xs → xs = k.map kV
  | [], xs, r => by rw [List.map_nil, RVs] at r; exact r
  | k :: ks, xs, r => by
    rw [List.map_cons, RVs] at r
    obtain ⟨y, ys, e, r1, r2⟩ := r
    rw [e, keyV_rel r1, keyVs_rel r2]; rfl
theorem pairsT_rel {H : Hp} {h : Hv} : ∀ {kvs : List (List Key × Val)} {xs : List V}, RVs K H h (kvs.map fun p => Val.tup [.tup (p.1.map keyV), p.2]) xs → ∃ (ps : List Addr) (ws : List (List Key × V)), xs = ps.map V.ref ∧ Paired (fun p kv => ∃ b, SqT K H p [.ref b, kv.2] ∧ H b = some (.tup (kv.1.map kV))) ps ws ∧ RKs K H h kvs ws ∧ ws.map (·.1) = kvs.map (·.1)
  | [], xs, r => by
    rw [List.map_nil, RVs] at r
    exact ⟨[], [], r, .nil, rfl, rfl⟩
  | (k, v) :: kvs, xs, r => by
    rw [List.map_cons, RVs] at r
    obtain ⟨y, ys, e, r1, r2⟩ := r
    obtain ⟨ps, ws, e2, p2, k2, m2⟩ := pairsT_rel r2
    rw [RV] at r1
    obtain ⟨a, zs, e1, _, ha, rz⟩ := r1
    obtain ⟨u, w, ez, ru, rw'⟩ := rvs2 rz
    subst ez
    rw [RV] at ru
    obtain ⟨b, us, eb, _, hb, rb⟩ := ru
    have eu := keyVs_rel rb
    subst eu eb
    exact ⟨a :: ps, (k, w) :: ws, by rw [e, e1, e2]; rfl, .cons ⟨b, .of ha, hb⟩ p2, ⟨w, ws, rfl, rw', k2⟩, by rw [List.map_cons, List.map_cons, m2]⟩
theorem mergeT_nodup : ∀ (ws acc : List (List Key × V)), ((acc ++ ws).map (·.1)).Nodup → mergeT acc ws = acc ++ ws
  | [], acc, _ => by unfold mergeT; simp
  | w :: ws, acc, h => by
    unfold mergeT
    rw [List.foldl_cons]
    have hn : ¬ (acc.any fun kv => decide (kv.1 = w.1)) = true := fun z => by
      obtain ⟨kv, hkv, e⟩ := List.any_eq_true.mp z
      rw [List.map_append, List.map_cons, List.nodup_append] at h
      exact h.2.2 kv.1 (List.mem_map_of_mem hkv) w.1 List.mem_cons_self (of_decide_eq_true e)
    have e : putK acc w.1 w.2 = acc ++ [w] := by unfold putK; rw [if_neg hn]
    rw [e]
    have := mergeT_nodup ws (acc ++ [w]) (by rw [List.append_assoc]; exact h)
    unfold mergeT at this
    rw [this, List.append_assoc]; rfl
theorem cl_dictTT : CaL K fDictTT (fun xs H Q => ∃ (a : Addr) (o : Obj) (ps : List Addr) (kvs : List (List Key × V)), xs = [.ref a] ∧ H a = some (.frz o (.tup (ps.map V.ref))) ∧ o.dict = none ∧ Paired (fun p kv => ∃ b, SqT K H p [.ref b, kv.2] ∧ H b = some (.tup (kv.1.map kV))) ps kvs ∧
    ∀ p, H p = none → Q (.ref p) (upd H p (.dT (mergeT [] kvs)))) := fun vs xs h H Q' Q r rs q c => by
  obtain ⟨kvs, rfl, nd, q⟩ := q
  obtain ⟨x, ex, rx⟩ := rvs1 rs
  rw [RV] at rx
  obtain ⟨a, ys, o, e1, n, ha, hd, rz⟩ := rx
  obtain ⟨ps, ws, e4, e5, e6, e7⟩ := pairsT_rel rz
  subst e1
  rw [e4] at ha
  refine ⟨a, o, ps, ws, ex, ha, hd, e5, fun p np => ?_⟩
  rw [mergeT_nodup ws [] (by rw [List.nil_append, e7]; exact nd), List.nil_append]
  have st : Step h H (put h p (.dT kvs)) (upd H p (.dT ws)) := Step.new np
  exact c _ _ _ _ (q p (r.nof np)) st (by rw [RV]) (r.new np ⟨_, upd_same, e6.step st⟩)
end
end DL
namespace DL
open PySem PySem.Spec PyProof.Rows L2
section
variable {K : PySem.W.Frag} {H : Hp} {h : Hv}
theorem RKs.keysT {κ : Type} : ∀ {kvs : List (κ × Val)} {xs : List (κ × V)}, RKs K H h kvs xs → kvs.map (·.1) = xs.map (·.1)
  | [], xs, r => by rw [show xs = [] from r]; rfl
  | (k, v) :: kvs, xs, r => by
    obtain ⟨y, ys, e, _, r2⟩ := r
    rw [e, List.map_cons, List.map_cons, RKs.keysT r2]
theorem RKs.lenT {κ : Type} {kvs : List (κ × Val)} {xs : List (κ × V)} (r : RKs K H h kvs xs) : kvs.length = xs.length := by
  have := congrArg List.length r.keysT
  rwa [List.length_map, List.length_map] at this
theorem RKs.getT {κ : Type} : ∀ {kvs : List (κ × Val)} {xs : List (κ × V)} {i : Nat} {p : κ × Val} {k : κ} {x : V}, RKs K H h kvs xs → kvs[i]? = some p → xs[i]? = some (k, x) → p.1 = k ∧ RV K H h p.2 x
  | [], xs, i, p, k, x, r, e, _ => by simp at e
  | (k0, v0) :: kvs, xs, 0, p, k, x, r, e, e2 => by
    obtain ⟨y, ys, ex, rv, _⟩ := r
    subst ex
    simp only [List.getElem?_cons_zero, Option.some.injEq] at e e2
    subst e
    cases e2
    exact ⟨rfl, rv⟩
  | (k0, v0) :: kvs, xs, i + 1, p, k, x, r, e, e2 => by
    obtain ⟨y, ys, ex, _, r2⟩ := r
    subst ex
    simp only [List.getElem?_cons_succ] at e e2
    exact RKs.getT r2 e e2
theorem RH.noTup (r : RH K H h) {q : Addr} {ys : List V} (e : H q = some (.tup ys)) : h q = none := by
  cases z : h q with
  | none => rfl
  | some o =>
    have r := r q o z
    cases o with
    | lst vs => obtain ⟨_, e1, _⟩ := r; rw [e] at e1; cases e1
    | dK vs => obtain ⟨_, e1, _⟩ := r; rw [e] at e1; cases e1
    | dT vs => obtain ⟨_, e1, _⟩ := r; rw [e] at e1; cases e1
    | ins C fs => obtain ⟨_, _, e1, _⟩ := r; rw [e] at e1; cases e1
    | dF o xs kvs => have e1 := r.1; rw [e] at e1; cases e1
    | dFT o xs kvs => have e1 := r.1; rw [e] at e1; cases e1
    | exc C => obtain ⟨_, _, e1, _⟩ := r; rw [e] at e1; cases e1
    | tab q => obtain ⟨_, e1, _⟩ := r; rw [e] at e1; cases e1
    | dN w kvs => obtain ⟨_, e1, _⟩ := r; rw [e] at e1; cases e1
    | busy =>
      obtain ⟨_, e1, f⟩ := r; rw [e] at e1; cases e1
      rcases f with ⟨_, z⟩ | ⟨_, z⟩ <;> cases z
theorem rv_keys : ∀ (k : List Key), RVs K H h (k.map keyV) (k.map kV)
  | [] => RVs.nil
  | .inl i :: ks => RVs.cons (by show RV K H h (.int i) (.int i); rw [RV]) (rv_keys ks)
  | .inr z :: ks => RVs.cons (by show RV K H h (.str z) (.str z); rw [RV]) (rv_keys ks)
end
end DL
namespace DL
open PySem PySem.Spec PyProof.Rows L2
section
variable {P : Program} {w : World} {A : Around} {E : Value → Shared → Prop} {s : Shared}
end
end DL
namespace DL
open PySem PySem.Spec PyProof.Rows L2
theorem sortedI {X : Cx} (hc : X.calm = true) {pins : List (Addr × Obj)} {s : Shared} {σ : L2.St} {H : Hp} {Q : VK} {a : Addr} {S : Int → Bool} {n : Nat} (I : Inv X pins σ H s) (R : SetR X.w s.heap a S n) (h64 : n < 64)
    (q : ∀ (ns : List Int) (p : Addr), ns.Pairwise (· < ·) → (∀ k : Int, k ∈ ns ↔ S k = true) → ns.length = n → H p = none → Q (.ref p) (upd H p (.lst (ns.map V.int)))) : wpAny (model X.prog X.w) X.A (call (.builtin "sorted") [.ref a]) (EP X pins σ Q) X.xe s := by
  refine sorted_set R (I.ok.hd hc) h64 fun s' p out c ms k g o hp hgt hi hs hm hln => ?_
  have hn : H p = none := I.hok.fresh hp
  have hlen : (ms.map V.int).length ≤ sizeLine := by rw [List.length_map, hln, sizeLine_eq]; omega
  exact ⟨.ref p, _, I.call' (H' := upd H p (.lst (ms.map V.int))) (ch := []) o (Un.laid k hp hn) (I.hok.laid k hp ⟨hlen, out.toList, c, vals_of_ints hi, hgt⟩) (by rw [g]; exact I.bare) (fun _ z => nomatch z), rfl, q ms p hs hm hln hn⟩
end DL
namespace DL
open PySem PySem.Spec PySem.W PyProof.Rows L2 L2.DX
def Asc (P : Program) (w : World) (A : Around) (s : Shared) (es : Array DictEntry) (b : Bool) : Prop :=
  ∀ (i j : Nat) (e f : DictEntry), es[i]? = some e → es[j]? = some f → ∀ (s2 : Shared), (∀ c o, s.heap.get? c = some o → s2.heap.get? c = some o) → ∀ (Q : Bool → Shared → Prop), Q (decide (i < j)) s2 → KatLex P w A b false Q [(e.key, f.key), (e.val, f.val)] 0 s2
def rkA : Value → Int
  | .ref a => (a : Int)
  | _ => 0
theorem perm_rise : ∀ {l m : List Nat}, l.Perm m → l.Pairwise (· ≤ ·) → m.Pairwise (· < ·) → l = m
  | [], m, p, _, _ => by rw [List.nil_perm.mp p]
  | x :: l, [], p, _, _ => absurd p.length_eq (by simp)
  | x :: l, y :: m, p, hl, hm => by
    rw [List.pairwise_cons] at hl hm
    have e : x = y := by
      have h1 : x ∈ y :: m := p.mem_iff.mp List.mem_cons_self
      have h2 : y ∈ x :: l := p.mem_iff.mpr List.mem_cons_self
      rcases List.mem_cons.mp h1 with h | h
      · exact h
      · rcases List.mem_cons.mp h2 with h' | h'
        · exact h'.symm
        · have := hm.1 x h; have := hl.1 y h'; omega
    subst e
    rw [perm_rise ((List.perm_cons x).mp p) hl.2 hm.2]
theorem kat_of {h : Heap} : ∀ {as : List Addr} {es : List DictEntry}, as.length = es.length → (∀ (j : Nat) (a : Addr), as[j]? = some a → ∃ e, es[j]? = some e ∧ h.get? a = some { cls := .type "tuple", data := .seq #[e.key, e.val] }) → KatTups h (as.map Value.ref) (es.map (·.key))
  | [], [], _, _ => KatTups.nil
  | [], _ :: _, e, _ => by simp at e
  | _ :: _, [], e, _ => by simp at e
  | a :: as, e :: es, hl, hp => by
    obtain ⟨e', he, hg⟩ := hp 0 a rfl
    have : e = e' := Option.some.inj he
    subst this
    exact KatTups.cons hg rfl rfl rfl (kat_of (by simpa using hl) fun j b hj => hp (j + 1) b hj)
theorem paired_get' {α β : Type} {F : α → β → Prop} : ∀ {l : List α} {m : List β}, l.length = m.length → (∀ (j : Nat) (x : α) (y : β), l[j]? = some x → m[j]? = some y → F x y) → Paired F l m
  | [], [], _, _ => .nil
  | [], _ :: _, e, _ => by simp at e
  | _ :: _, [], e, _ => by simp at e
  | x :: l, y :: m, e, h => .cons (h 0 x y rfl rfl) (paired_get' (by simpa using e) fun j a b ha hb => h (j + 1) a b ha hb)
section
variable {X : Cx}
theorem sorted_asc (hh : X.A.handled = none) {pins : List (Addr × Obj)} {s : Shared} {σ : L2.St} {H : Hp} {Q : VK} (I : Inv X pins σ H s) {p a : Addr} {es : Array DictEntry} {ep : Nat} {b : Bool} {T : Value}
    (view : s.heap.IsItemsView p a) (raw : DT.Raw s.heap a es ep) (h64 : es.size < 64)
    (hT : ∀ e ∈ es.toList, ∀ s2 : Shared, (∀ c o, s.heap.get? c = some o → s2.heap.get? c = some o) → PySem.W.Looks (model X.prog X.w) s2.heap (typeOf e.key) T) (hT2 : (T == T) = true) (hb : (T != Value.type "tuple") = b)
    (hA : Asc X.prog X.w X.A.in1.in1 s es b) {kvs : List (V × V)} (hkv : Paired (fun (kv : V × V) (e : DictEntry) => RelV kv.1 e.key ∧ RelV kv.2 e.val) kvs es.toList)
    (q : ∀ (H' : Hp) (l : Addr) (as : List Addr), (∀ b o, H b = some o → H' b = some o) → H l = none → (∀ a ∈ as, H a = none) → H' l = some (.lst (as.map V.ref)) → Paired (fun (t : Addr) (kv : V × V) => H' t = some (.tup [kv.1, kv.2])) as kvs → Q (.ref l) H') :
    wpAny (model X.prog X.w) X.A (call (.builtin "sorted") [.ref p]) (EP X pins σ Q) X.xe s := by
  refine DT.sortedI (es := es) (ep := ep) hh view raw (by rw [sizeLine_eq]; omega) fun h' tk as hk hlt hl hG => ?_
  have nd : as.Nodup := List.Pairwise.imp (fun h => Nat.ne_of_lt h) hG.rise
  have hob : (h'.push { cls := .type "list", data := .seq (as.map Value.ref).toArray }).get? h'.objs.size = some (seqObj "list" (as.map Value.ref).toArray 0) := Heap.get?_push_size _ rfl
  have kb : ∀ b o, s.heap.get? b = some o → (h'.push { cls := .type "list", data := .seq (as.map Value.ref).toArray }).get? b = some o := fun b o e => Heap.get?_push_of_some _ (hk b o e)
  have ne0 : ∀ b o, h'.get? b = some o → b ≠ h'.objs.size := fun b o e => Nat.ne_of_lt (Heap.lt_size e)
  generalize hh2 : h'.push { cls := .type "list", data := .seq (as.map Value.ref).toArray } = h2 at hob kb ⊢
  have ka : ∀ b o, h'.get? b = some o → h2.get? b = some o := fun b o e => by rw [← hh2]; exact Heap.get?_push_of_some _ e
  have rise : ∀ (i j : Nat) (x y : Addr), as[i]? = some x → as[j]? = some y → (decide (rkA (.ref x) < rkA (.ref y)) = decide (i < j)) := by
    intro i j x y hi hj
    obtain ⟨li, ei⟩ := List.getElem?_eq_some_iff.mp hi
    obtain ⟨lj, ej⟩ := List.getElem?_eq_some_iff.mp hj
    have up := List.pairwise_iff_getElem.mp hG.rise
    show decide ((x : Int) < (y : Int)) = decide (i < j)
    rcases Nat.lt_trichotomy i j with h | h | h
    · have := up i j li lj h
      rw [ei, ej] at this
      rw [decide_eq_true h, decide_eq_true (Int.ofNat_lt.mpr this)]
    · subst h
      rw [ei] at ej
      subst ej
      simp
    · have := up j i lj li h
      rw [ei, ej] at this
      rw [decide_eq_false (by omega : ¬ i < j), decide_eq_false (fun z => Nat.lt_asymm this (Int.ofNat_lt.mp z))]
  have mid : ∀ (j : Nat) (a : Addr), as[j]? = some a → ∃ e, es.toList[j]? = some e ∧ (TS.midHeap h2 h'.objs.size (as.map Value.ref)).get? a = some { cls := .type "tuple", data := .seq #[e.key, e.val] } := by
    intro j a hj
    obtain ⟨e, he, hg⟩ := hG.pairs j a hj
    exact ⟨e, by simpa using he, TS.midHeap_old (ne0 _ _ hg) (ka _ _ hg)⟩
  have kmid : ∀ c o, s.heap.get? c = some o → (TS.midHeap h2 h'.objs.size (as.map Value.ref)).get? c = some o := fun c o e => TS.midHeap_old (ne0 _ _ (hk c o e)) (kb c o e)
  refine wpAny_call_entry PyProof.Rows.slot_list_sort ⟨_, hob, rfl⟩ PyProof.Rows.entry_list_sort
    (SK.plain_sort (s := { s with heap := h2, toks := tk }) (r := rkA) hob (by rw [List.length_map]; omega) (fun h2' Qk hQk => ?_) fun ps out o1 o2 o3 => ⟨.none, rfl, ?_⟩) (PyProof.Rows.args_list_sort _)
  · refine kat_kind (T := T) (fs := es.toList.map (·.key)) (kat_of (by rw [hl]; simp) mid) (by rw [List.length_map] at h2' ⊢; rw [Array.length_toList]; omega) (fun v hv => ?_) hT2 (hQk _ ?_)
    · obtain ⟨e, he, rfl⟩ := List.mem_map.mp hv
      exact hT e he { s with heap := TS.midHeap h2 h'.objs.size (as.map Value.ref), toks := tk } kmid
    · rw [hb]
      intro x y hx hy Q' E' hQ
      rw [pairsOf_toList] at hx hy
      have mx := (mem_zip_self hx).2
      have my := (mem_zip_self hy).2
      obtain ⟨x1, x2⟩ := x
      obtain ⟨y1, y2⟩ := y
      obtain ⟨c, hc, rfl⟩ := List.mem_map.mp mx
      obtain ⟨d, hd, rfl⟩ := List.mem_map.mp my
      obtain ⟨i, hi⟩ := List.mem_iff_getElem?.mp hc
      obtain ⟨j, hj⟩ := List.mem_iff_getElem?.mp hd
      obtain ⟨e, he, ge⟩ := mid i c hi
      obtain ⟨f, hf, gf⟩ := mid j d hj
      refine kat_lt ge rfl gf rfl ?_
      have hQ' : Q' (decide (i < j)) { s with heap := TS.midHeap h2 h'.objs.size (as.map Value.ref), toks := tk } := by rw [← rise i j c d hi hj]; exact hQ
      exact hA i j e f (by simpa using he) (by simpa using hf) _ kmid Q' hQ'
  · show EP X pins σ Q (.ref h'.objs.size) { s with heap := sortedHeap h2 h'.objs.size (as.map Value.ref) out, toks := tk }
    obtain ⟨zs, pz, ez⟩ := perm_lift (fun z : Addr => (Value.ref z, Value.ref z)) o2 as (by rw [List.zip_map'])
    have hzs : zs = as := by
      refine perm_rise pz ?_ hG.rise
      rw [← ez, List.pairwise_map] at o3
      refine List.Pairwise.imp (fun {x y} h => ?_) o3
      have : (x : Int) ≤ (y : Int) := h
      omega
    subst hzs
    have hout : out.toList = zs.map Value.ref := by rw [o1, ← ez, List.map_map]; rfl
    have kF : ∀ b o, b ≠ h'.objs.size → h2.get? b = some o → (sortedHeap h2 h'.objs.size (zs.map Value.ref) out).get? b = some o := fun b o hb e => (PyProof.Rows.sortedHeap_old hb (Heap.lt_size e)).trans e
    have kS : ∀ b o, s.heap.get? b = some o → (sortedHeap h2 h'.objs.size (zs.map Value.ref) out).get? b = some o := fun b o e => kF b o (ne0 _ _ (hk b o e)) (kb b o e)
    obtain ⟨eF, heF⟩ := PyProof.Rows.sortedHeap_at (vs := zs.map Value.ref) (out := out) hob
    have I1 : Inv X pins σ H { s with heap := sortedHeap h2 h'.objs.size (zs.map Value.ref) out, toks := tk } := I.kept (t' := tk) kS
    have hn0 : H h'.objs.size = none := I.hok.fresh (Nat.le_of_lt hlt)
    have hlen : (zs.map fun z => V.ref z).length ≤ sizeLine := by
      rw [List.length_map, sizeLine_eq]
      omega
    have rv : Vals (zs.map V.ref) out.toList := by
      rw [hout]
      exact vals_maps (fun z : Addr => V.ref z) (fun z => Value.ref z) zs fun _ _ => rfl
    have I2 : Inv X pins σ (upd H h'.objs.size (.lst (zs.map V.ref))) { s with heap := sortedHeap h2 h'.objs.size (zs.map Value.ref) out, toks := tk } :=
      I1.take (h' := sortedHeap h2 h'.objs.size (zs.map Value.ref) out) (t' := tk) (fun b ob _ e => e) (I.fpOk (Nat.le_of_lt hlt) hn0) ⟨hlen, out.toList, eF, rv, heF⟩
    have lkv : kvs.length = es.size := by have := Paired.length hkv; simpa using this
    have new : ∀ t ∈ zs, H t = none := fun t ht => I.hok.fresh (Nat.le_of_lt (hG.above t ht))
    obtain ⟨H2, I3, g, qt⟩ := takeT (P := fun b vs => ∃ (j : Nat) (kv : V × V), zs[j]? = some b ∧ kvs[j]? = some kv ∧ vs = [kv.1, kv.2]) I zs _ I2 nd fun b hb => by
      obtain ⟨j, hj⟩ := List.mem_iff_getElem?.mp hb
      obtain ⟨e, he, hg⟩ := hG.pairs j b hj
      have he' : es.toList[j]? = some e := by simpa using he
      obtain ⟨kv, hkvj, r1, r2⟩ := pget hkv he'
      have hbl : s.heap.objs.size ≤ b := Nat.le_of_lt (hG.above b hb)
      refine ⟨hbl, ?_, [kv.1, kv.2], ⟨j, kv, hj, hkvj, rfl⟩, fun H3 => ⟨(by rw [sizeLine_eq]; show 2 ≤ 16777216; omega), [e.key, e.val], .cons r1 (.cons r2 .nil), ⟨_, kF _ _ (ne0 _ _ hg) (ka _ _ hg), rfl, 0, rfl⟩⟩⟩
      rw [upd_ne (ne0 _ _ hg)]
      exact I.hok.fresh hbl
    have gr : ∀ b o, H b = some o → H2 b = some o := fun b o e => g b o (by rw [upd_ne (ne_of_none e hn0)]; exact e)
    refine ⟨.ref h'.objs.size, H2, I3, rfl, q H2 h'.objs.size zs gr hn0 new (g _ _ upd_same) ?_⟩
    refine paired_get' (by omega) fun j t kv h1 h2 => ?_
    obtain ⟨vs, ⟨i, kv', j1, j2, ev⟩, hH⟩ := qt t (List.mem_of_getElem? h1)
    have eij : j = i := (List.getElem?_inj (List.getElem?_eq_some_iff.mp h1).1 nd).mp (h1.trans j1.symm)
    subst eij
    have ee : kv' = kv := Option.some.inj (j2.symm.trans h2)
    rw [ev, ee] at hH
    exact hH
end
theorem eqBool_same {P : Program} {w : World} {A : Around} {s : Shared} {E : Value → Shared → Prop} {v : Value} {Q : Bool → Shared → Prop} (q : Q true s) : wpAny (model P w) A (eqBool v v) Q E s := by
  unfold eqBool
  try with_reducible refine wpAny_holding ?_
  show wpAny _ _ (if (v == v) = true then _ else _) Q E s
  rw [if_pos (beq_self_eq_true v)]
  exact wpAny_bind (wpAny_rule (wpAny_pure q))
theorem kat_same {P : Program} {w : World} {A : Around} {s : Shared} {b : Bool} {k v : Value} {Q : Bool → Shared → Prop} (q : Q false s) : KatLex P w A b false Q [(k, k), (v, v)] 0 s :=
  kat_cons (eqBool_same (kat_yes (kat_cons (eqBool_same (kat_yes (kat_nil q))))))
def intK (ks : List Int) : List Key := ks.map Sum.inl
theorem intK_inj {x y : List Int} (h : intK x = intK y) : x = y := (List.map_inj_right fun _ _ e => Sum.inl.inj e).mp h
theorem lexLt_irr : ∀ a : List Int, HT.lexLt a a = false
  | [] => rfl
  | x :: a => by unfold HT.lexLt; simp [lexLt_irr a]
theorem lexLt_asym : ∀ {a b : List Int}, HT.lexLt a b = true → HT.lexLt b a = false
  | [], [], h => by unfold HT.lexLt at h; cases h
  | [], _ :: _, _ => by unfold HT.lexLt; rfl
  | _ :: _, [], h => by unfold HT.lexLt at h; cases h
  | x :: a, y :: b, h => by
    unfold HT.lexLt at h ⊢
    by_cases e : x = y
    · subst e
      simp at h ⊢
      exact lexLt_asym h
    · have e' : ¬ y = x := fun z => e z.symm
      simp [e] at h
      simp [e']
      omega
def RiseI (ks : List (List Int)) : Prop := ks.Pairwise fun x y => HT.lexLt x y = true
section
variable {X : Cx}
def rSortT : List V → Hp → VK → Prop := fun vs H Q => ∃ (p a : Addr) (ks : List (List Int)) (kvs : List (List Key × V)), vs = [.ref p] ∧ H p = some (itemsO p a) ∧ H a = some (.dT kvs) ∧ kvs.map (·.1) = ks.map intK ∧ RiseI ks ∧ ks.length < 64 ∧
  ∀ (H' : Hp) (l : Addr) (as : List Addr) (bs : List Addr), (∀ b o, H b = some o → H' b = some o) → H l = none → (∀ a ∈ as, H a = none) → H' l = some (.lst (as.map V.ref)) → Paired (fun (t : Addr) (kv : V × V) => H' t = some (.tup [kv.1, kv.2])) as (List.zipWith (fun b (kv : List Key × V) => (V.ref b, kv.2)) bs kvs) → bs.length = kvs.length → Paired (fun (b : Addr) (kv : List Key × V) => H b = some (.tup (kv.1.map kV))) bs kvs → Q (.ref l) H'
theorem paired_at {α β : Type} {F : α → β → Prop} : ∀ {l : List α} {m : List β} {j : Nat} {x : α} {y : β}, Paired F l m → l[j]? = some x → m[j]? = some y → F x y
  | _, _, j, x, y, .nil, h, _ => by simp at h
  | _, _, 0, x, y, .cons h _, h1, h2 => by
    have e1 := Option.some.inj h1
    have e2 := Option.some.inj h2
    subst e1 e2
    exact h
  | _, _, j + 1, x, y, .cons _ t, h1, h2 => paired_at t (by simpa using h1) (by simpa using h2)
theorem cr_sortT (hc : X.calm = true) (hu : X.A.units + 64 < cLine) : CallR X (.builtin "sorted") rSortT := by
  intro pins s σ H vs us Q I r h
  obtain ⟨p, a, ks, kvs, rfl, hp, ha, ek, up, h64, q⟩ := h
  obtain rfl := Vals.ref1 r
  have view : s.heap.IsItemsView p a := (show ObjOk X.prog X.w H s.heap p (itemsO p a) from I.hok p _ hp).1
  obtain ⟨z, hd, xs, rel, o, es, ep, ho, hx, hdat, hes, his, hn⟩ := dt_of I.hok ha
  have l1 : kvs.length = xs.length := Paired.length rel
  have l2 : es.size = xs.length := size_of_entries hes
  have l3 : kvs.length = ks.length := by have := congrArg List.length ek; simpa using this
  have hh : X.A.handled = none := I.ok.hd hc
  -- an entry
  have ent : ∀ (j : Nat) (e : DictEntry), es[j]? = some e → ∃ (k : List Int) (kv : List Key × V) (b : Addr), ks[j]? = some k ∧ kvs[j]? = some kv ∧ kv.1 = intK k ∧ xs[j]? = some (kv.1, b, e.val) ∧ e.key = .ref b ∧ RelV kv.2 e.val ∧ H b = some (.tup (kv.1.map kV)) := by
    intro j e he
    rw [entry_at hes j] at he
    cases hxj : xs[j]? with
    | none => rw [hxj] at he; exact nomatch (show (none : Option DictEntry) = some e from he)
    | some x =>
      rw [hxj] at he
      have een : entryOfKey (tupleKind (mixKind X.prog X.w)) x = e := Option.some.inj he
      obtain ⟨kv, hkv, r1, r2, r3⟩ := pget rel hxj
      have hkj : (kvs.map (·.1))[j]? = some kv.1 := by rw [List.getElem?_map, hkv]; rfl
      rw [ek, List.getElem?_map] at hkj
      obtain ⟨k, hk, ekk⟩ := Option.map_eq_some_iff.mp hkj
      refine ⟨k, kv, x.2.1, hk, hkv, ekk.symm, ?_, by rw [← een]; rfl, by rw [← een]; exact r3, r2⟩
      rw [← een, r1]; rfl
  have tupAt : ∀ (b : Addr) (k : List Int), H b = some (.tup ((intK k).map kV)) → ∃ its : Array Value, IsTup s.heap b its ∧ IntsAre its.toList k := by
    intro b k hb
    obtain ⟨_, its, rv, it⟩ := (show ObjOk X.prog X.w H s.heap b (.tup ((intK k).map kV)) from I.hok b _ hb)
    refine ⟨its.toArray, it, ?_⟩
    have : (intK k).map kV = k.map V.int := by unfold intK; rw [List.map_map]; rfl
    rw [this] at rv
    exact intsAre_of rv
  refine sorted_asc (T := Value.type "tuple") (b := false) hh I view ⟨o, ho, hx, hdat⟩ (by omega) (fun e he s2 k2 => ?_) (by rfl) (by rfl) (fun i j e f he hf s2 k2 Q' hQ => ?_) (kvs := List.zipWith (fun (x : List Key × Addr × Value) (kv : List Key × V) => (V.ref x.2.1, kv.2)) xs kvs) (paired_get' ?_ fun j kv e hkv he => ?_) fun H' l as hk hl has e1 e2 => ?_
  · obtain ⟨j, hj⟩ := List.mem_iff_getElem?.mp he
    obtain ⟨k, kv, b, _, _, _, _, ekey, _, hb⟩ := ent j e (by simpa using hj)
    rw [ekey]
    obtain ⟨_, _, _, ⟨ob, hob, hcl, _⟩⟩ := (show ObjOk X.prog X.w H s.heap b (.tup (kv.1.map kV)) from I.hok b _ hb)
    have z : PySem.W.Looks (model X.prog X.w) s2.heap (typeOf (.ref b)) ob.cls := (PySem.W.Looks.ld (k2 _ _ hob)).andThen .now
    rw [hcl] at z
    exact z
  · obtain ⟨k, kv, b, hk, hkv, ekk, _, ekey, _, hb⟩ := ent i e he
    obtain ⟨k', kv', b', hk', hkv', ekk', _, ekey', _, hb'⟩ := ent j f hf
    by_cases eij : i = j
    · subst eij
      rw [he] at hf
      cases hf
      refine kat_same ?_
      have : decide (i < i) = false := decide_eq_false (Nat.lt_irrefl i)
      rw [this] at hQ
      exact hQ
    · rw [ekey, ekey']
      have m1 : IsTupleKey (mixKind X.prog X.w) s2.heap kv.1 b := by
        obtain ⟨ok, it, nk, hok, ck, dk, rr⟩ := (show IsTupleKey (mixKind X.prog X.w) s.heap kv.1 b from key_of I.hok hb)
        exact ⟨ok, it, nk, k2 _ _ hok, ck, dk, rr⟩
      have m2 : IsTupleKey (mixKind X.prog X.w) s2.heap kv'.1 b' := by
        obtain ⟨ok, it, nk, hok, ck, dk, rr⟩ := (show IsTupleKey (mixKind X.prog X.w) s.heap kv'.1 b' from key_of I.hok hb')
        exact ⟨ok, it, nk, k2 _ _ hok, ck, dk, rr⟩
      have hA : X.A.in1.in1.units < cLine := by show X.A.units + 1 + 1 < cLine; omega
      obtain ⟨li, ei⟩ := List.getElem?_eq_some_iff.mp hk
      obtain ⟨lj, ej⟩ := List.getElem?_eq_some_iff.mp hk'
      have up' := List.pairwise_iff_getElem.mp up
      have hlt : HT.lexLt k k' = decide (i < j) := by
        rcases Nat.lt_or_gt_of_ne eij with h | h
        · have := up' i j li lj h
          rw [ei, ej] at this
          rw [this, decide_eq_true h]
        · have := up' j i lj li h
          rw [ei, ej] at this
          rw [lexLt_asym this, decide_eq_false (by omega)]
      have hne : kv.1 ≠ kv'.1 := fun z => by
        rw [ekk, ekk'] at z
        have := intK_inj z
        subst this
        rw [lexLt_irr] at hlt
        rcases Nat.lt_or_gt_of_ne eij with h | h
        · rw [decide_eq_true h] at hlt; cases hlt
        · have := up' j i lj li h
          rw [ei, ej, lexLt_irr] at this; cases this
      refine kat_cons (wpAny_eqBool_tuple hA m1 m2 ?_)
      rw [decide_eq_false hne]
      refine kat_no ?_
      show wpAny _ _ (oneLt' false _ _) _ _ _
      rw [ekk] at hb
      rw [ekk'] at hb'
      obtain ⟨its, ⟨o1, ho1, hc1, hd1⟩, ia1⟩ := tupAt b k hb
      obtain ⟨its', ⟨o2, ho2, hc2, hd2⟩, ia2⟩ := tupAt b' k' hb'
      refine kat_one _ _ (HT.lt_tupInts ⟨o1, k2 _ _ ho1, hc1, hd1⟩ ⟨o2, k2 _ _ ho2, hc2, hd2⟩ ia1 ia2 hA ?_)
      show Q' (HT.lexLt k k') s2
      rw [hlt]
      exact hQ
  · rw [List.length_zipWith]
    have : es.toList.length = es.size := Array.length_toList
    omega
  · rw [Array.getElem?_toList] at he
    obtain ⟨k, kv', b, _, hkv', _, hx', ekey, rv, _⟩ := ent j e he
    rw [List.getElem?_zipWith, hx', hkv'] at hkv
    have := Option.some.inj hkv
    subst this
    exact ⟨by rw [ekey]; rfl, rv⟩
  · refine q H' l as (xs.map fun x => x.2.1) hk hl has e1 ?_ (by rw [List.length_map, l1]) (paired_get' (by rw [List.length_map, l1]) fun j b kv hb hkv => ?_)
    · rw [List.zipWith_map_left]; exact e2
    · rw [List.getElem?_map] at hb
      obtain ⟨x, hx', rfl⟩ := Option.map_eq_some_iff.mp hb
      exact (paired_at rel hkv hx').2.1
end
end DL
namespace DL
open PySem PySem.Spec PyProof.Rows L2
theorem dataLt_irr (x : PyData) : PySem.W.dataLt x x = false := PyProof.Rows.lex_irrefl (O := PyProof.Rows.itemOrd) _
theorem dataLt_neg {x y z : PyData} (h1 : PySem.W.dataLt x z = false) (h2 : PySem.W.dataLt x y = true) : PySem.W.dataLt y z = false := by
  cases h : PySem.W.dataLt y z with
  | false => rfl
  | true =>
    have : PySem.W.dataLt x z = true := PyProof.Rows.lex_trans (O := PyProof.Rows.itemOrd) _ _ _ h2 h
    rw [h1] at this; cases this
section
variable {X : Cx} {pins : List (Addr × Obj)} {σ : L2.St} {H : Hp} {s : Shared} {h : Hv}
theorem Inv.ownx {b : Addr} {h' : Heap} {t' : Nat} (I : Inv X pins σ H s) (o : Own X pins b) (hn : H b = none) (hk : ∀ c u, c ≠ b → s.heap.get? c = some u → h'.get? c = some u) : Inv X pins σ H { s with heap := h', toks := t' } :=
  I.turned (fun c u hc e => hk c u hc e) hn o.L (.inr o.sz) o.c o.p
structure MaxSt (X : Cx) (pins : List (Addr × Obj)) (σ : L2.St) (H : Hp) (h : Hv) (I S l : Addr) (n : Nat) (cur : Array Value) (H' : Hp) (s' : Shared) : Prop where
  J : Inv X pins σ H' s'
  nI : H' I = none
  nS : H' S = none
  gS : ∃ c, s'.heap.get? S = some (seqObj "list" cur c)
  gI : s'.heap.IsTupleIter I l n
  st : Step h H h H'
  rH : RH X.K H' h
theorem max_turn {I S l f : Addr} {n : Nat} {cur : Array Value} {H' : Hp} {s' : Shared} {v : Value} {R : Value → Shared → Prop} {E : Value → Shared → Prop} {w : Val} {x : V} {k : Val → Val} (oI : Own X pins I) (oS : Own X pins S) (hne : S ≠ I)
    (M : MaxSt X pins σ H h I S l n cur H' s') (rx : RV X.K H' h w x) (rxv : RelV x v)
    (turn : ∀ (more : List (Addr × Obj)) (s' : Shared) (H' : Hp), Inv X (more ++ pins) σ H' s' → Step h H h H' → RH X.K H' h → RV X.K H' h w x →
      wpAny (model X.prog X.w) X.A.in1 (call (.ref f) [v]) (EP X (more ++ pins) σ (fun y H2 => Step h H' h H2 ∧ RH X.K H2 h ∧ RV X.K H2 h (k w) y)) (fun _ _ => False) s')
    (q : ∀ (u : Value) (y : V) (H2 : Hp) (s2 : Shared), MaxSt X pins σ H h I S l n cur H2 s2 → Step h H' h H2 → RV X.K H2 h (k w) y → RelV y u → R u s2) :
    wpAny (model X.prog X.w) X.A.in1 (call (.ref f) [v]) R E s' := by
  obtain ⟨J, nI, nS, ⟨c, gS⟩, ⟨o, gI, oc, od⟩, st, rH⟩ := M
  have P : Inv X ([(S, seqObj "list" cur c), (I, o)] ++ pins) σ H' s' := J.pins_of fun p hp => by
    rcases List.mem_append.mp hp with hp | hp
    · rcases List.mem_cons.mp hp with z | hp
      · subst z; exact ⟨gS, nS, oS.L, oS.fs, fun v z => by cases z⟩
      · rw [List.mem_singleton.mp hp]; exact ⟨gI, nI, oI.L, oI.fs, fun v z => by rw [show (I, o).2.data = _ from od] at z; cases z⟩
    · exact J.pin p (List.mem_append_right _ hp)
  refine wpAny_mono (turn _ s' H' P st rH rx) (fun u s2 ⟨y, H2, J2, ry, st2, rH2, rk⟩ => ?_) fun _ _ z => z.elim
  have p1 := J2.pin (S, seqObj "list" cur c) (List.mem_append_right _ (List.mem_append_left _ (by simp)))
  have p2 := J2.pin (I, o) (List.mem_append_right _ (List.mem_append_left _ (by simp)))
  exact q u y H2 s2 ⟨Inv.fewer J2, p2.2.1, p1.2.1, ⟨c, p1.1⟩, ⟨o, p2.1, oc, od⟩, st.trans st2, rH2⟩ st2 rk ry
theorem max_put {I S l : Addr} {n : Nat} {cur new : Array Value} {H' : Hp} {s' : Shared} (oS : Own X pins S) (hne : S ≠ I) (M : MaxSt X pins σ H h I S l n cur H' s') : MaxSt X pins σ H h I S l n new H' { s' with heap := s'.heap.update S (Obj.mapSeq fun _ => new) } := by
  obtain ⟨J, nI, nS, ⟨c, gS⟩, ⟨o, gI, oc, od⟩, st, rH⟩ := M
  have sb := Heap.SameBut.update s'.heap S (Obj.mapSeq fun _ => new)
  exact ⟨Inv.ownw (t' := s'.toks) J oS nS sb, nI, nS, ⟨_, get?_update_seq gS fun _ => new⟩, ⟨o, (sb.2 I (Ne.symm hne)).trans gI, oc, od⟩, st, rH⟩
structure MaxD (X : Cx) (H : Hp) (h : Hv) (l : Addr) (ws : List Val) (xs : List V) (kd : Val → PyData) (k : Val → Val) : Prop where
  hl : H l = some (.tup xs)
  hn : h l = none
  rs : RVs X.K H h ws xs
  hk : ∀ w ∈ ws, dat (k w) = some (kd w)
  al : ∀ w ∈ ws, ∀ v ∈ ws, PySem.W.alike (kd w) (kd v) = true
  nn : ∀ w ∈ ws, kd w ≠ .none
  hu : ∀ w ∈ ws, X.A.units + 2 + (kd w).depth < cLine
abbrev TurnI (X : Cx) (pins : List (Addr × Obj)) (σ : L2.St) (H : Hp) (h : Hv) (f : Addr) (ws : List Val) (k : Val → Val) : Prop :=
  ∀ (more : List (Addr × Obj)) (w : Val) (x : V) (u : Value) (s' : Shared) (H' : Hp), w ∈ ws → Inv X (more ++ pins) σ H' s' → Step h H h H' → RH X.K H' h → RV X.K H' h w x → RelV x u →
      wpAny (model X.prog X.w) X.A.in1 (call (.ref f) [u]) (EP X (more ++ pins) σ (fun y H2 => Step h H' h H2 ∧ RH X.K H2 h ∧ RV X.K H2 h (k w) y)) (fun _ _ => False) s'
theorem max_loopI {I S l f : Addr} {ws : List Val} {xs : List V} {k : Val → Val} {kd : Val → PyData} {R : Result → Shared → Prop} (hh : X.A.handled = none) (D : MaxD X H h l ws xs kd k) (turn : TurnI X pins σ H h f ws k) (oI : Own X pins I) (oS : Own X pins S) (hne : S ≠ I) (hlI : l ≠ I)
    (hR : ∀ (i : Nat) (w : Val) (x : V) (v : Value) (H' : Hp) (s' : Shared), ws[i]? = some w → xs[i]? = some x → RelV x v → (∀ w' ∈ ws, PySem.W.dataLt (kd w) (kd w') = false) → Inv X pins σ H' s' → Step h H h H' → RH X.K H' h → R (.ok (.ret v)) s') :
    ∀ (r j i : Nat) (H' : Hp) (s' : Shared) (vb ub : Value) (wb : Val) (xb yb : V), xs.length - (j + 1) = r → j + 1 ≤ xs.length → MaxSt X pins σ H h I S l (j + 1) #[vb, ub] H' s' → xs[i]? = some xb → RelV xb vb → ws[i]? = some wb → RV X.K H' h (k wb) yb → RelV yb ub → i ≤ j → (∀ j' w', j' ≤ j → ws[j']? = some w' → PySem.W.dataLt (kd wb) (kd w') = false) →
      codeAny (model X.prog X.w) X.A (.builtin "max.loop" ⟨[.ref I, .ref f, .ref S], []⟩) R s' := by
  have hname : (toString "max" ++ toString ".loop" : String) = "max.loop" := by decide
  have lw : ws.length = xs.length := D.rs.len
  intro r
  induction r with
  | zero =>
    intro j i H' s' vb ub wb xb yb hr hj M hxb hvb hwb ryb rub hij best
    obtain ⟨J, nI, nS, ⟨c, gS⟩, gI, st, rH⟩ := id M
    refine codeAny_builtin PySem.F.entry_max_loop ?_
    rw [Around.under_plainId PySem.F.plain_max_loop _]
    show wpAny _ X.A.in1 (seqItems? (.ref S) >>= _) _ _ _
    refine wpAny_bind (wpAny_seqItems gS rfl ?_)
    show wpAny _ X.A.in1 (tryCatch (pyNext (.ref I)) _ >>= _) _ _ _
    obtain ⟨_, its, rvi, ht⟩ := (show ObjOk X.prog X.w H' s'.heap l (.tup xs) from J.hok l _ (st.n l _ D.hl D.hn nt_tup).1)
    have li : xs.length = its.length := rvi.length
    refine wpAny_bind (wpAny_tryCatch (wpAny_pyNext_tuple_end (show X.A.in1.handled = none from hh) gI (show s'.heap.IsTuple l its.toArray from ht) (by rw [Array.getElem?_eq_none_iff, List.size_toArray]; omega) fun h' he' => ?_))
    have J1 : Inv X pins σ H' { s' with heap := h' } := Inv.ownx (t' := s'.toks) J oI nI fun c u hc e => he' c u hc e
    have hS' := he' S _ hne gS
    show wpAny _ X.A.in1 (updateSeq S (fun _ => #[]) >>= _) _ _ _
    refine wpAny_bind ?_
    refine wpAny_updateSeq hS' rfl (wpAny_bind (wpAny_letGo (wpAny_pure ?_)))
    refine hR i wb xb vb H' _ hwb hxb hvb (fun w' hw' => ?_) (Inv.ownw (t' := s'.toks) J1 oS nS (Heap.SameBut.update h' S (Obj.mapSeq fun _ => (#[] : Array Value)))) st rH
    obtain ⟨j', hj'⟩ := List.mem_iff_getElem?.mp hw'
    exact best j' w' (by have := (List.getElem?_eq_some_iff.mp hj').1; omega) hj'
  | succ r ih =>
    intro j i H' s' vb ub wb xb yb hr hj M hxb hvb hwb ryb rub hij best
    have hlt : j + 1 < xs.length := by omega
    obtain ⟨J, nI, nS, ⟨c, gS⟩, gI, st, rH⟩ := id M
    refine codeAny_builtin PySem.F.entry_max_loop ?_
    rw [Around.under_plainId PySem.F.plain_max_loop _]
    show wpAny _ X.A.in1 (seqItems? (.ref S) >>= _) _ _ _
    refine wpAny_bind (wpAny_seqItems gS rfl ?_)
    show wpAny _ X.A.in1 (tryCatch (pyNext (.ref I)) _ >>= _) _ _ _
    obtain ⟨_, its, rvi, ht⟩ := (show ObjOk X.prog X.w H' s'.heap l (.tup xs) from J.hok l _ (st.n l _ D.hl D.hn nt_tup).1)
    have li : xs.length = its.length := rvi.length
    refine wpAny_bind (wpAny_tryCatch (wpAny_pyNext_tuple_item gI (show s'.heap.IsTuple l its.toArray from ht) (x := its[j + 1]'(by omega)) (by simp) fun h' hit' hs' => ?_))
    have hv : its[j + 1]? = some (its[j + 1]'(by omega)) := List.getElem?_eq_getElem _
    generalize its[j + 1]'(by omega) = v1 at hv ⊢
    obtain ⟨w, hw⟩ : ∃ w, ws[j + 1]? = some w := ⟨_, List.getElem?_eq_getElem (by omega)⟩
    obtain ⟨x, hx, rx⟩ := D.rs.get hw
    obtain ⟨v', hv', rxv⟩ := rvi.get hx
    rw [hv] at hv'
    cases hv'
    have wm := List.mem_of_getElem? hw
    have wbm := List.mem_of_getElem? hwb
    have M1 : MaxSt X pins σ H h I S l (j + 1 + 1) #[vb, ub] H' { s' with heap := h' } := ⟨Inv.ownx (t' := s'.toks) J oI nI fun c u hc e => hs'.extBut c u hc e, nI, nS, ⟨c, hs'.extBut S _ hne gS⟩, hit', st, rH⟩
    show wpAny _ X.A.in1 (tryCatch (holding [v1] (call (.ref f) [v1])) _ >>= _) _ _ _
    refine wpAny_bind (wpAny_tryCatch (wpAny_holding (max_turn (k := k) oI oS hne M1 (rx.step st) rxv (fun more s2 H2 J2 st2 r2 rx2 => turn more w x _ s2 H2 wm J2 st2 r2 rx2 rxv) fun u y H2 s2 M2 st2 rk ru => ?_)))
    obtain ⟨J2, nI2, nS2, ⟨c2, gS2⟩, gI2, st3, rH2⟩ := id M2
    obtain ⟨a1, e1⟩ := Dp.reads J2 _ _ _ (dat_rel rk (D.hk w wm)) ru
    obtain ⟨a2, e2⟩ := Dp.reads J2 _ _ _ (dat_rel (ryb.step st2) (D.hk wb wbm)) rub
    show wpAny _ X.A.in1 (tryCatch (holding [v1, u] (richCompare .Gt u ub >>= _)) _ >>= _) _ _ _
    have hA : X.A.in1.units + min (kd w).depth (kd wb).depth < cLine := by
      have := D.hu w wm
      have := Nat.min_le_left (kd w).depth (kd wb).depth
      show X.A.units + 1 + _ < _
      omega
    refine wpAny_bind (wpAny_tryCatch (wpAny_holding (wpAny_bind (PySem.W.rcGt_alike _ _ X.A.in1 s2 u ub _ _ e1 e2 (D.al w wm wb wbm) (D.nn w wm) hA X.prog X.w _ _ ?_))))
    refine wpAny_bind (wpAny_holding (wpAny_truthy_bool ?_))
    refine wpAny_bind (wpAny_letGo (wpAny_pure ?_))
    cases hb : PySem.W.dataLt (kd wb) (kd w) with
    | true =>
      simp only [if_true]
      refine wpAny_bind ?_
      refine wpAny_updateSeq gS2 rfl (wpAny_bind (wpAny_letGo ?_))
      rw [hname]
      refine wpAny_pure ⟨plainId_quiet PySem.F.plain_max_loop _, ih (j + 1) (j + 1) H2 _ _ u w x y (by omega) hlt (max_put oS hne M2) hx rxv hw rk ru (Nat.le_refl _) fun j' w' hj' hw' => ?_⟩
      have wm' := List.mem_of_getElem? hw'
      by_cases e : j' = j + 1
      · subst e
        rw [hw] at hw'
        cases hw'
        exact dataLt_irr (kd w)
      · exact dataLt_neg (best j' w' (by omega) hw') hb
    | false =>
      simp only [Bool.false_eq_true, if_false]
      refine wpAny_bind (wpAny_letGo ?_)
      rw [hname]
      refine wpAny_pure ⟨plainId_quiet PySem.F.plain_max_loop _, ih (j + 1) i H2 s2 vb ub wb xb yb (by omega) hlt M2 hxb hvb hwb (ryb.step st2) rub (by omega) fun j' w' hj' hw' => ?_⟩
      by_cases e : j' = j + 1
      · subst e
        rw [hw] at hw'
        cases hw'
        exact hb
      · exact best j' w' (by omega) hw'
theorem max_keyI {Q : VK} {l f : Addr} {ws : List Val} {xs : List V} {k : Val → Val} {kd : Val → PyData} (hc : X.calm = true) (I : Inv X pins σ H s) (r : RH X.K H h) (D : MaxD X H h l ws xs kd k) (turn : TurnI X pins σ H h f ws k) (ne : ws ≠ [])
    (q : ∀ (i : Nat) (w : Val) (x : V) (H' : Hp), ws[i]? = some w → xs[i]? = some x → (∀ w' ∈ ws, PySem.W.dataLt (kd w) (kd w') = false) → Step h H h H' → RH X.K H' h → Q x H') :
    wpAny (model X.prog X.w) X.A (call (.builtin "max") [.ref l] [(Str.ofString "key", .ref f)]) (EP X pins σ Q) X.xe s := by
  have hname : (toString "max" ++ toString ".loop" : String) = "max.loop" := by decide
  have hh : X.A.handled = none := I.ok.hd hc
  obtain ⟨_, its0, rvi0, ht⟩ := (show ObjOk X.prog X.w H s.heap l (.tup xs) from I.hok l _ D.hl)
  have lw : ws.length = xs.length := D.rs.len
  have l0 : 0 < xs.length := by rw [← lw]; exact List.length_pos_iff.mpr ne
  have hlt : l < s.heap.objs.size := by obtain ⟨_, e, _⟩ := ht; exact Heap.lt_size e
  refine kmk_tree PySem.F.kind_max PySem.F.plain_max PySem.F.entry_max (kmk_max_key _ _) ?_
  show wpAny _ X.A.in1 (Builtin.Builtins.bindParams "max" ["key", "default"] 0 ⟨[], [(Str.ofString "key", .ref f)]⟩ >>= _) _ _ s
  refine wpAny_bind (wpAny_of_eq (t := Builtin.Builtins.bindParams _ _ _ _) (a := [some (Value.ref f), none]) rfl ?_)
  refine wpAny_bind (wpAny_pure ?_)
  refine wpAny_bind (wpAny_pyIter_tuple (show s.heap.IsTuple l its0.toArray from ht) ?_)
  refine wpAny_bind (wpAny_newList ?_ (Nat.zero_le _))
  rw [hname]
  refine wpAny_pure ⟨plainId_quiet PySem.F.plain_max_loop _, ?_⟩
  have gI0 : (s.heap.push { cls := .type "tuple_iterator", data := .fields #[.ref l, .int 0 0] }).get? s.heap.objs.size = some { cls := .type "tuple_iterator", data := .fields #[.ref l, .int 0 0] } := Heap.get?_push_size _ rfl
  have zS : (s.heap.push { cls := .type "tuple_iterator", data := .fields #[.ref l, .int 0 0] }).objs.size = s.heap.objs.size + 1 := size_push' ..
  have kp : ∀ b u, s.heap.get? b = some u → ((s.heap.push { cls := .type "tuple_iterator", data := .fields #[.ref l, .int 0 0] }).push (seqObj "list" #[] 0)).get? b = some u := fun b u e => Heap.get?_push_of_some _ (Heap.get?_push_of_some _ e)
  have gS : ((s.heap.push { cls := .type "tuple_iterator", data := .fields #[.ref l, .int 0 0] }).push (seqObj "list" #[] 0)).get? (s.heap.push { cls := .type "tuple_iterator", data := .fields #[.ref l, .int 0 0] }).objs.size = some (seqObj "list" #[] 0) := Heap.get?_push_size _ rfl
  have gI : ((s.heap.push { cls := .type "tuple_iterator", data := .fields #[.ref l, .int 0 0] }).push (seqObj "list" #[] 0)).get? s.heap.objs.size = some { cls := .type "tuple_iterator", data := .fields #[.ref l, .int 0 0] } := Heap.get?_push_of_some _ gI0
  have oI : Own X pins s.heap.objs.size := own_of I (Nat.le_refl _)
  have oS : Own X pins (s.heap.push { cls := .type "tuple_iterator", data := .fields #[.ref l, .int 0 0] }).objs.size := own_of I (by rw [zS]; exact Nat.le_succ _)
  have nI : H s.heap.objs.size = none := I.hok.fresh (Nat.le_refl _)
  have nS : H (s.heap.push { cls := .type "tuple_iterator", data := .fields #[.ref l, .int 0 0] }).objs.size = none := I.hok.fresh (by rw [zS]; exact Nat.le_succ _)
  have I2 : Inv X pins σ H { s with heap := (s.heap.push { cls := .type "tuple_iterator", data := .fields #[.ref l, .int 0 0] }).push (seqObj "list" #[] 0) } := I.kept (t' := s.toks) kp
  have hSI : (s.heap.push { cls := .type "tuple_iterator", data := .fields #[.ref l, .int 0 0] }).objs.size ≠ s.heap.objs.size := by rw [zS]; exact Nat.succ_ne_self _
  have hlI : l ≠ s.heap.objs.size := Nat.ne_of_lt hlt
  show codeAny _ _ _ _ { s with heap := (s.heap.push { cls := .type "tuple_iterator", data := .fields #[.ref l, .int 0 0] }).push (seqObj "list" #[] 0) }
  generalize (s.heap.push { cls := .type "tuple_iterator", data := .fields #[.ref l, .int 0 0] }).objs.size = S at *
  generalize (s.heap.push { cls := .type "tuple_iterator", data := .fields #[.ref l, .int 0 0] }).push (seqObj "list" #[] 0) = hp at *
  have M0 : MaxSt X pins σ H h s.heap.objs.size S l 0 #[] H { s with heap := hp } := ⟨I2, nI, nS, ⟨0, gS⟩, ⟨_, gI, rfl, rfl⟩, Step.refl _ _, r⟩
  generalize s.heap.objs.size = It at *
  refine codeAny_builtin PySem.F.entry_max_loop ?_
  rw [Around.under_plainId PySem.F.plain_max_loop _]
  show wpAny _ X.A.in1 (seqItems? (.ref S) >>= _) _ _ _
  refine wpAny_bind (wpAny_seqItems gS rfl ?_)
  show wpAny _ X.A.in1 (tryCatch (pyNext (.ref It)) _ >>= _) _ _ _
  obtain ⟨_, its, rvi, ht2⟩ := (show ObjOk X.prog X.w H hp l (.tup xs) from I2.hok l _ D.hl)
  have li : xs.length = its.length := rvi.length
  refine wpAny_bind (wpAny_tryCatch (wpAny_pyNext_tuple_item M0.gI (show hp.IsTuple l its.toArray from ht2) (x := its[0]'(by omega)) (by simp) fun h' hit' hs' => ?_))
  have hv : its[0]? = some (its[0]'(by omega)) := List.getElem?_eq_getElem _
  generalize its[0]'(by omega) = v1 at hv ⊢
  obtain ⟨w, hw⟩ : ∃ w, ws[0]? = some w := ⟨_, List.getElem?_eq_getElem (by omega)⟩
  obtain ⟨x, hx, rx⟩ := D.rs.get hw
  obtain ⟨v', hv', rxv⟩ := rvi.get hx
  rw [hv] at hv'
  cases hv'
  have wm := List.mem_of_getElem? hw
  have M1 : MaxSt X pins σ H h It S l 1 #[] H { s with heap := h' } := ⟨Inv.ownx (s := { s with heap := hp }) (t' := s.toks) I2 oI nI fun c u hc e => hs'.extBut c u hc e, nI, nS, ⟨0, hs'.extBut S _ hSI gS⟩, hit', Step.refl _ _, r⟩
  show wpAny _ X.A.in1 (tryCatch (holding [v1] (call (.ref f) [v1])) _ >>= _) _ _ _
  refine wpAny_bind (wpAny_tryCatch (wpAny_holding (max_turn (k := k) oI oS hSI M1 rx rxv (fun more s2 H2 J2 st2 r2 rx2 => turn more w x _ s2 H2 wm J2 st2 r2 rx2 rxv) fun u y H2 s2 M2 st2 rk ru => ?_)))
  obtain ⟨J2, nI2, nS2, ⟨c2, gS2⟩, gI2, st3, rH2⟩ := id M2
  show wpAny _ X.A.in1 (updateSeq S (fun _ => #[v1, u]) >>= _) _ _ _
  refine wpAny_bind ?_
  refine wpAny_updateSeq gS2 rfl ?_
  rw [hname]
  refine wpAny_pure ⟨plainId_quiet PySem.F.plain_max_loop _, max_loopI hh D turn oI oS hSI hlI (fun i w x v H' s' hw hx hv hm J st rH => ?_) _ 0 0 H2 _ v1 u w x y rfl l0 (max_put oS hSI M2) hx rxv hw rk ru (Nat.le_refl _) fun j' w' hj' hw' => ?_⟩
  · exact ⟨x, H', J, hv, q i w x H' hw hx hm st rH⟩
  · have : j' = 0 := by omega
    subst this
    rw [hw] at hw'
    cases hw'
    exact dataLt_irr _
end
end DL
namespace DL
open PySem PySem.Spec PyProof.Rows L2 L2.DX
theorem rvs_get {K : PySem.W.Frag} {H : Hp} {h : Hv} : ∀ {vs : List Val} {xs : List V}, vs.length = xs.length → (∀ (j : Nat) (v : Val) (x : V), vs[j]? = some v → xs[j]? = some x → RV K H h v x) → RVs K H h vs xs
  | [], [], _, _ => RVs.nil
  | [], _ :: _, e, _ => by simp at e
  | _ :: _, [], e, _ => by simp at e
  | v :: vs, x :: xs, e, f => RVs.cons (f 0 v x rfl rfl) (rvs_get (by simpa using e) fun j w y h1 h2 => f (j + 1) w y h1 h2)
def pairT (p : List Key × Val) : Val := .tup [.tup (p.1.map keyV), p.2]
def dSortIt (d : ED) : ED := fun ρ h Q E => d ρ h (fun v h1 => match v with
  | .ref a => (match h1 a with
    | some (.dT kvs) => (∃ ks : List (List Int), kvs.map (·.1) = ks.map intK ∧ RiseI ks ∧ ks.length < 64) ∧ Q (.lst (kvs.map pairT)) h1
    | _ => False)
  | _ => False) E
section
variable {X : Cx} {B : Bs} {e : Expr} {d : ED} {p ap cp pos : Pos}
theorem de_sortIt (hc : X.calm = true) (hu : X.A.units + 64 < cLine) (hm : X.mg "sorted" = none) (ho : DE X B e d) (hg : Gl X "sorted" := by rfl)
    (hbase : attributeBase e "items" X.env (eval e X.env) = eval e X.env := by rfl) (hline : (ap.endLine == cp.line) = true := by rfl)
    (hs : starEach [.Call (.Attribute e "items" ap) [] [] cp] X.env = (false, eval (.Call (.Attribute e "items" ap) [] [] cp) X.env) :: starEach [] X.env := by rfl) (hpl : (backTo pos (starEach [] X.env)).any (·.1) = false := by rfl) :
    DE X B (.Call (.Name "sorted" p) [.Call (.Attribute e "items" ap) [] [] cp] [] pos) (dSortIt d) := by
  refine PEi (pe_callB (cr_sortT hc hu) hg hm bt_sorted (pa_cons (pe_bm0 PySem.F.plainAttrs_dict PySem.F.slot_dict_items PySem.F.type_dict_items mt_itemsT ho hbase hline) pa_nil hs) (by decide) (by decide) hs hpl) fun σ H Q ⟨ρ, h, Q', S, q, C⟩ => ⟨ρ, h, _, S, q, fun v h1 x H1 q1 s1 rv1 r1 => ?_⟩
  split at q1
  · rename_i a
    split at q1
    · rename_i kvs ha
      obtain ⟨⟨ks, ek, up, h64⟩, q1⟩ := q1
      rw [RV] at rv1
      obtain ⟨xs, e1, rk⟩ := r1 a _ ha
      refine ⟨tyA_rel (v := .ref a) r1 (by rw [RV]; exact rv1) (by simp only [tyA, ha]), a, xs, rv1, rfl, e1, fun vw nvw => ?_⟩
      have ne : a ≠ vw := ne_of_none e1 nvw
      refine ⟨vw, a, ks, xs, rfl, upd_same, by rw [upd_ne ne]; exact e1, by rw [← rk.keysT]; exact ek, up, h64, fun H' l as bs hk hl has el ep lb pb => ?_⟩
      have r2 := r1.fresh (o := itemsO vw a) nvw
      have s2 : Step h1 H1 h1 (upd H1 vw (itemsO vw a)) := Step.fresh nvw
      have s3 : Step h1 (upd H1 vw (itemsO vw a)) h1 H' := ⟨fun a o e n _ => ⟨hk a o e, n⟩, fun a o e n => ⟨hk a o e, n⟩⟩
      have r3 : RH X.K H' h1 := fun a o q => (r2 a o q).step s3 fun u e => hk a u e
      have no : ∀ t, upd H1 vw (itemsO vw a) t = none → h1 t = none := fun t e => r2.nof e
      have l1 : kvs.length = xs.length := rk.lenT
      have lz : (List.zipWith (fun b (kv : List Key × V) => (V.ref b, kv.2)) bs xs).length = xs.length := by rw [List.length_zipWith, lb, Nat.min_self]
      have la : as.length = xs.length := by rw [Paired.length ep, lz]
      refine C _ _ _ _ q1 (s1.trans (s2.trans s3)) ?_ r3
      rw [RV]
      refine ⟨l, as.map V.ref, rfl, no l hl, el, rvs_get (by rw [List.length_map, List.length_map, l1, la]) fun j v y hv hy => ?_⟩
      rw [List.getElem?_map] at hv hy
      obtain ⟨kv, hkv, rfl⟩ := Option.map_eq_some_iff.mp hv
      obtain ⟨t, ht, rfl⟩ := Option.map_eq_some_iff.mp hy
      have hj : j < xs.length := by rw [← l1]; exact (List.getElem?_eq_some_iff.mp hkv).1
      obtain ⟨xk, hxk⟩ : ∃ xk, xs[j]? = some xk := ⟨_, List.getElem?_eq_getElem hj⟩
      obtain ⟨b, hb⟩ : ∃ b, bs[j]? = some b := ⟨_, List.getElem?_eq_getElem (by omega)⟩
      have hz : (List.zipWith (fun b (kv : List Key × V) => (V.ref b, kv.2)) bs xs)[j]? = some (V.ref b, xk.2) := by rw [List.getElem?_zipWith, hb, hxk]
      have h2 := paired_at ep ht hz
      have h3 := paired_at pb hb hxk
      obtain ⟨g1, g2⟩ := rk.getT (k := xk.1) (x := xk.2) hkv hxk
      unfold pairT
      rw [RV]
      refine ⟨t, _, rfl, no t (has t (List.mem_of_getElem? ht)), h2, RVs.cons ?_ (RVs.cons (g2.step (s2.trans s3)) RVs.nil)⟩
      rw [RV, g1]
      exact ⟨b, _, rfl, RH.noTup r2 h3, hk _ _ h3, rv_keys _⟩
    · exact q1.elim
  · exact q1.elim
end
structure KeysMx (h1 : Hv) (d : ED) (ws : List Val) (k : Val → Val) (kd : Val → PyData) : Prop where
  dat : ∀ w ∈ ws, dat (k w) = some (kd w)
  al : ∀ w ∈ ws, ∀ v ∈ ws, PySem.W.alike (kd w) (kd v) = true
  nn : ∀ w ∈ ws, kd w ≠ .none
  dp : ∀ w ∈ ws, (kd w).depth ≤ 20
  run : ∀ w ∈ ws, ∀ Q' : PV, Q' (k w) h1 → d [some w] h1 Q' EF
def dMaxK (Ts : List (Addr × Str)) (P : Addr) (q : Str) (aa : AD) (d : ED) : ED := fun ρ h Q E => aa ρ h (fun vs h1 => match vs with
  | [.tup ws] => Tbs Ts h1 ∧ (P, q) ∈ Ts ∧ ws ≠ [] ∧ ∃ (k : Val → Val) (kd : Val → PyData), KeysMx h1 d ws k kd ∧ ∀ w ∈ ws, (∀ w' ∈ ws, PySem.W.dataLt (kd w) (kd w') = false) → Q w h1
  | _ => False) E
theorem de_maxK {X : Cx} {B : Bs} {Ts : List (Addr × Str)} {c P : Addr} {k : Nat} {a : Str} {e : Expr} {aa : AD} {d : ED} {params : Arguments} {body : Expr} {scope : Scope} {p lpos kpos pos : Pos} (hm : X.mg "max" = none) (TB : LamX.TabB X.base X.mg c P) (hcode : X.env.code = .ref c) (hr : Room (k + 3) X.A) (ha : DA X B [e] aa)
    (S : FnScope [a] [a] scope) (hnc : ∀ cells, cloFrom cells scope.names [] = [])
    (hbody : ∀ (A : Around) (outer : List Env) (s : Shared) (H : Hp) (E : XK) (f c' : Addr) (B' : Bs), Room k (A.deeper (envOfC (X.env.qual ++ "<lambda>") scope s.heap.objs.size f (.ref c'))) → TakesB (cxOf (L2.CX X.prog X.w) X.prog X.w X.K X.mg X.base [a] (X.env.qual ++ "<lambda>") scope f (.ref c') A outer s H E) B' → DE (cxOf (L2.CX X.prog X.w) X.prog X.w X.K X.mg X.base [a] (X.env.qual ++ "<lambda>") scope f (.ref c') A outer s H E) B' body d)
    (hg : Gl X "max" := by rfl) (hdef : defaultsOf params X.env = ([], []) := by rfl) (hbind : ∀ (q : Str) (pm cv ctv u : Value), bindArgs (PySem.W.kla_fn "<lambda>" q params body scope [] pm cv ctv) ⟨[u], []⟩ = pure [(a, u)] := by intros; rfl)
    (he : backTo pos (starEach [e] X.env) = (false, eval e X.env) :: backTo pos (starEach [] X.env) := by rfl) (hpl : (backTo pos (starEach [e] X.env)).any (·.1) = false := by rfl) (hcalm : X.calm = true := by rfl) :
    DE X B (.Call (.Name "max" p) [e] [⟨some "key", .Lambda params body scope lpos, kpos⟩] pos) (dMaxK Ts P (X.env.qual ++ "<lambda>") aa d) := by
  refine ⟨fun pins s σ H Q I ⟨ρ, h, Q', S0, q, C⟩ => ?_⟩
  refine wpAny_Call_Name_kw (ld_blt I hg hm bt_max ?_ (by decide) (by decide))
  have hA := ha.run pos pins s σ H (fun vs H1 => ∃ l xs h1 ws, ∃ (kf : Val → Val) (kd : Val → PyData), vs = [V.ref l] ∧ ST X.K B σ H1 ρ h1 ∧ H1 l = some (.tup xs) ∧ h1 l = none ∧ RVs X.K H1 h1 ws xs ∧ Tbs Ts h1 ∧ (P, X.env.qual ++ "<lambda>") ∈ Ts ∧ ws ≠ [] ∧ KeysMx h1 d ws kf kd ∧ (∀ w ∈ ws, (∀ w' ∈ ws, PySem.W.dataLt (kd w) (kd w') = false) → Q' w h1) ∧ Cont X.K h1 H1 Q' Q) I ⟨ρ, h, _, S0, q, fun vs h1 xs H1 q1 s1 rv1 r1 => ?_⟩
  · refine PyProof.Rows.callWith_kw (thn hA fun us s1 ⟨vs, H1, I1, r1, l, xs, h1, ws, kf, kd, ev, S1, sq, nl, rs, tb, hin, ne, ko, hQ, C1⟩ => ?_) he hpl (by rfl) (by rfl)
    subst ev
    obtain ⟨u, rfl, ru⟩ := vals1 r1
    obtain rfl : u = Value.ref l := ru
    show wpAny _ _ (evalAll [do let v ← eval (.Lambda params body scope lpos) X.env; standAt pos; pure v]) _ _ s1
    refine wpAny_evalAll_cons (wpAny_bind (LamX.lam_make2 I1 TB hcode hin (tb.uniq hin) (tb.tabs S1.r) hdef (fun y hy hfr => absurd hfr (S.nofree y hy)) fun f c' pm' ctv H2 s2 I2 eN T2 hf hfn hfs hco => wpAny_bind (wpAny_standAt (wpAny_pure (wpAny_evalAll_nil ?_)))))
    rw [hnc] at hf
    obtain ⟨r2, st2⟩ := tb.step S1.r eN T2
    have hsq : H2 l = some (.tup xs) := eN l _ sq nt_tup
    have fL : f ≠ X.env.locals := fun z => by
      obtain ⟨m, ⟨o', es', ep', ho', hd', _⟩, _⟩ := I2.loc
      rw [← z, hf] at ho'
      cases ho'
      cases hd'
    have fF : f ∉ X.fs := fun z => hfs (by
      rcases I2.ok.stk with e | ⟨e, _⟩
      · rw [e]; exact z
      · rw [e]; unfold frs; rw [List.filterMap_cons]; split
        · exact z
        · exact List.mem_cons_of_mem _ z)
    have I3 : Inv X ([(f, PySem.W.kla_obj "<lambda>" (X.env.qual ++ "<lambda>") params body scope [] pm' c' ctv)] ++ pins) σ H2 s2 := I2.pins_of fun p hp => by
      rcases List.mem_append.mp hp with hp | hp
      · rw [List.mem_singleton.mp hp]; exact ⟨hf, hfn, fL, fF, fun v z => by cases z⟩
      · exact I2.pin p (List.mem_append_right _ hp)
    have hco2 : h1 c' = none := by
      obtain ⟨_, _, _, zz⟩ := r2 P _ (tb.has _ hin)
      cases hx : h1 c' with
      | none => rfl
      | some ob => exact absurd hco (ro_noext (r2 c' ob hx))
    have D : MaxD X H2 h1 l ws xs kd kf := ⟨hsq, nl, rs.step st2, ko.dat, ko.al, ko.nn, fun w hw => by have := ko.dp w hw; have := hr.un; omega⟩
    refine wpAny_mono (max_keyI (Q := Q) hcalm I3 r2 D (fun more w x u s' H' hw J st rH rx ru => ?_) ne (fun i w x H' hwi hxi hmx st rH => ?_)) (fun v s' ⟨y, H', J, ry, qq⟩ => ⟨y, H', Inv.fewer J, ry, qq⟩) fun e s' z => z
    · have hcx : H' c' = some (LamX.CodeO c' (X.env.qual ++ "<lambda>")) := (st.n c' _ hco hco2 (fun ps => LamX.codeO_ne ps)).1
      have hfx := (J.pin (f, PySem.W.kla_obj "<lambda>" (X.env.qual ++ "<lambda>") params body scope [] pm' c' ctv) (List.mem_append_right _ (List.mem_append_right _ (by simp)))).1
      obtain ⟨⟨oc, vs, t, hoc, hdc, hvc⟩, _, _⟩ := J.hok c' _ hcx
      refine wpAny_call (codeAny_mono (lam1_run (k := k) (Q := fun y H2 => Step h1 H' h1 H2 ∧ RH X.K H2 h1 ∧ RV X.K H2 h1 (kf w) y) (E := fun _ _ _ => False) S (hr.in1.mono (by omega)) J.env0.in1 hfx ⟨c', oc, vs, t, rfl, hoc, hdc, hvc⟩ (hbind _ _ _ _ _) ru (fun hr' => hbody _ _ _ _ _ f c' ⟨EF, h1, H'⟩ hr' takesF) ⟨[some w], h1, fun v h2 => v = kf w ∧ h2 = h1, ⟨⟨rfl, fun i v e => ?_⟩, rH, Step.refl _ _⟩, ko.run w hw _ ⟨rfl, rfl⟩, fun v h' y H2 ⟨ev, eh⟩ st' ry rH' => ?_⟩) fun r s2 hq => ?_)
      · match i, e with
        | 0, e => simp at e; subst e; exact ⟨x, rfl, rx⟩
        | n + 1, e => simp at e
      · subst ev
        subst eh
        exact ⟨st', rH', ry⟩
      · cases r with
        | error e => exact cxF hq
        | ok fl =>
          cases fl with
          | ret u => exact J.after hq
          | next => exact False.elim hq
          | brk => exact False.elim hq
          | cont => exact False.elim hq
    · obtain ⟨y, hy, ry⟩ := (rs.step st2).get hwi
      rw [hxi] at hy
      cases hy
      exact C1 _ _ _ _ (hQ w (List.mem_of_getElem? hwi) hmx) (st2.trans st) (ry.step st) rH
  · split at q1
    · rename_i ws
      obtain ⟨tb, hin, ne, kf, kd, ko, hQ⟩ := q1
      obtain ⟨x, ex, rx⟩ := rvs1 rv1
      rw [RV] at rx
      obtain ⟨l, ys, e1, n1, e2, e3⟩ := rx
      subst e1
      exact ⟨l, ys, h1, ws, kf, kd, ex, S0.step s1 r1, e2, n1, e3, tb, hin, ne, ko, hQ, C.trans s1⟩
    · exact q1.elim
end DL
namespace DL
open PySem PySem.Spec PyProof.Rows L2
section
variable {K : PySem.W.Frag} {H : Hp} {h : Hv}
theorem RNs.key : ∀ {kvs : List (NestedKey × Val)} {xs : List NE}, RNs K H h kvs xs → KeyE H xs
  | [], xs, r => by rw [show xs = [] from r]; exact fun e he => nomatch he
  | (k, v) :: kvs, xs, r => by
    obtain ⟨p, y, ys, e, hd, r0, r1, r2⟩ := r
    rw [e]
    intro x hx
    rcases List.mem_cons.mp hx with q | q
    · rw [q]; exact ⟨nk_of r0, hd⟩
    · exact RNs.key r2 x q
theorem RNs.val (k : NestedKey) : ∀ {kvs : List (NestedKey × Val)} {xs : List NE}, RNs K H h kvs xs → (valA kvs k = none ∧ valN xs k = none) ∨ ∃ v x, valA kvs k = some v ∧ valN xs k = some x ∧ RV K H h v x
  | [], xs, r => by rw [show xs = [] from r]; exact .inl ⟨rfl, rfl⟩
  | (j, v) :: kvs, xs, r => by
    obtain ⟨p, y, ys, e, hd, r0, r1, r2⟩ := r
    rw [e]
    by_cases q : j = k
    · refine .inr ⟨v, y, ?_, ?_, r1⟩
      · unfold valA; rw [List.find?_cons]; simp [q]
      · unfold valN; rw [List.find?_cons]; simp [q]
    · rcases RNs.val k r2 with ⟨a, b⟩ | ⟨w, x, a, b, c⟩
      · refine .inl ⟨?_, ?_⟩
        · rw [← a]; unfold valA; rw [List.find?_cons]; simp [q]
        · rw [← b]; unfold valN; rw [List.find?_cons]; simp [q]
      · refine .inr ⟨w, x, ?_, ?_, c⟩
        · rw [← a]; unfold valA; rw [List.find?_cons]; simp [q]
        · rw [← b]; unfold valN; rw [List.find?_cons]; simp [q]
theorem RNs.app {k : NestedKey} {b : Addr} {v : Val} {x : V} (hd : k.depth ≤ 8) (rk : RV K H h (nkV k) (.ref b)) (rv : RV K H h v x) : ∀ {kvs : List (NestedKey × Val)} {xs : List NE}, RNs K H h kvs xs → RNs K H h (kvs ++ [(k, v)]) (xs ++ [(k, b, x)])
  | [], xs, r => by rw [show xs = [] from r]; exact ⟨b, x, [], rfl, hd, rk, rv, rfl⟩
  | (j, w) :: kvs, xs, r => by
    obtain ⟨p, y, ys, e, h1, r0, r1, r2⟩ := r
    rw [e]
    exact ⟨p, y, _, rfl, h1, r0, r1, RNs.app hd rk rv r2⟩
theorem RNs.repl {k : NestedKey} {v : Val} {x : V} (rv : RV K H h v x) : ∀ {kvs : List (NestedKey × Val)} {xs : List NE}, RNs K H h kvs xs → RNs K H h (kvs.map fun kv => if kv.1 = k then (kv.1, v) else kv) (xs.map fun e => if e.1 = k then (e.1, e.2.1, x) else e)
  | [], xs, r => by rw [show xs = [] from r]; exact rfl
  | (j, w) :: kvs, xs, r => by
    obtain ⟨p, y, ys, e, h1, r0, r1, r2⟩ := r
    rw [e, List.map_cons, List.map_cons]
    by_cases q : j = k
    · simp only [q, if_true]
      rw [q] at h1 r0
      exact ⟨p, x, _, rfl, h1, r0, rv, RNs.repl rv r2⟩
    · simp only [q, if_false]
      exact ⟨p, y, _, rfl, h1, r0, r1, RNs.repl rv r2⟩
theorem RNs.any (k : NestedKey) : ∀ {kvs : List (NestedKey × Val)} {xs : List NE}, RNs K H h kvs xs → (kvs.any fun kv => decide (kv.1 = k)) = (valN xs k).isSome
  | [], xs, r => by rw [show xs = [] from r]; rfl
  | (j, v) :: kvs, xs, r => by
    obtain ⟨p, y, ys, e, hd, r0, r1, r2⟩ := r
    rw [e, List.any_cons, RNs.any k r2]
    unfold valN
    rw [List.find?_cons]
    by_cases q : j = k <;> simp [q]
theorem RNs.put {k : NestedKey} {b : Addr} {v : Val} {x : V} {kvs : List (NestedKey × Val)} {xs : List NE} (r : RNs K H h kvs xs) (hd : k.depth ≤ 8) (rk : RV K H h (nkV k) (.ref b)) (rv : RV K H h v x) : RNs K H h (putA kvs k v) (putN xs k b x) := by
  unfold putA putN
  rw [r.any k]
  split
  · exact RNs.repl rv r
  · exact RNs.app hd rk rv r
theorem RNs.len : ∀ {kvs : List (NestedKey × Val)} {xs : List NE}, RNs K H h kvs xs → kvs.length = xs.length
  | [], xs, r => by rw [show xs = [] from r]; rfl
  | (j, w) :: kvs, xs, r => by
    obtain ⟨p, y, ys, e, _, _, _, r2⟩ := r
    rw [e, List.length_cons, List.length_cons, RNs.len r2]
end
section
variable {X : Cx} {B : Bs} {o i e f : Expr} {dd di de df : ED} {pos pos' apos cpos : Pos} {w : World}
end
end DL
namespace DL
open PySem PySem.Spec PyProof.Rows L2
end DL
namespace DL
open PySem PySem.Spec PyProof.Rows L2
def RT (Q : PV) : PV := fun v h' => ∃ v2 h2, Conv v h' v2 h2 ∧ Q v2 h2
def RN (Q : PV) : Sl → Hv → Prop := fun _ h' => ∃ h2, Lss h' h2 ∧ Q .non h2
def RX (E : PF) : PX := fun nm pl _ h' => ∃ h2, Lss h' h2 ∧ E nm pl h2
abbrev endsR (Q : PV) : AE := ⟨RN Q, RT Q, fun _ _ => False, fun _ _ => False⟩
theorem RT.same {Q : PV} {v : Val} {h : Hv} (q : Q v h) : RT Q v h := ⟨v, h, conv_less (Lss.refl h), q⟩
theorem RT.less {Q : PV} {v : Val} {h h2 : Hv} (l : Lss h h2) (q : Q v h2) : RT Q v h := ⟨v, h2, conv_less l, q⟩
theorem RT.frz {Q : PV} {h h2 : Hv} {p : Addr} {vs : List Val} (l : Lss h h2) (e : h p = some (.lst vs)) (n : h2 p = none) (q : Q (.lst vs) h2) : RT Q (.ref p) h := ⟨_, h2, conv_frz l e n, q⟩
theorem RN.same {Q : PV} {ρ : Sl} {h : Hv} (q : Q .non h) : RN Q ρ h := ⟨h, Lss.refl h, q⟩

def Sub (h h' : Hv) : Prop := ∀ a o, h a = some o → h' a = some o
theorem Sub.refl (h : Hv) : Sub h h := fun _ _ e => e
theorem Sub.trans {h h1 h2 : Hv} (x : Sub h h1) (y : Sub h1 h2) : Sub h h2 := fun a o e => y a o (x a o e)
theorem Sub.put {h : Hv} {p : Addr} {o : Ob} (e : h p = none) : Sub h (put h p o) := fun a u q => by
  rw [put_ne (fun z => by rw [z, e] at q; cases q)]; exact q
theorem drop_put {h : Hv} {p : Addr} {o : Ob} (e : h p = none) : drop (DL.put h p o) p = h := by
  funext a
  by_cases ha : a = p
  · subst ha; rw [drop_same, e]
  · rw [drop_ne ha, put_ne ha]
theorem lcL_filt {ok : Hv → Prop} {t : Tg} {tt : TD} {te : ED} {ρw : Sl} {h : Hv} (pv : Val → Bool) (g : Val → Val) (hok : ok h) : ∀ (items acc : List Val) (Q : List Val → Hv → Prop), acc.length + items.length ≤ sizeLine →
    (∀ v ∈ items, ∃ ρ', bT t v ρw = some ρ' ∧ (∀ Q', Q' (pv v) h → tt ρ' h Q' EF) ∧ (pv v = true → ∀ Q', Q' (g v) h → te ρ' h Q' EF)) →
    Q (acc ++ (items.filter pv).map g) h → lcL ok t tt te ρw items acc h Q
  | [], acc, Q, hl, he, q => ⟨hok, by simpa using q⟩
  | v :: vs, acc, Q, hl, he, q => by
    obtain ⟨ρ', e1, e2, e3⟩ := he v List.mem_cons_self
    refine ⟨hok, ?_⟩
    rw [e1]
    dsimp only
    rw [List.length_cons] at hl
    refine e2 _ ?_
    cases hp : pv v with
    | true =>
      rw [if_pos rfl]
      refine e3 hp _ ⟨by omega, ?_⟩
      refine lcL_filt pv g hok vs (acc ++ [g v]) Q (by rw [List.length_append, List.length_singleton]; omega) (fun w hw => he w (List.mem_cons_of_mem _ hw)) ?_
      rw [List.filter_cons_of_pos hp, List.map_cons] at q
      simpa using q
    | false =>
      rw [if_neg Bool.false_ne_true]
      refine lcL_filt pv g hok vs acc Q (by omega) (fun w hw => he w (List.mem_cons_of_mem _ hw)) ?_
      rw [List.filter_cons_of_neg (by rw [hp]; exact Bool.false_ne_true)] at q
      exact q
theorem lc_filt {di : ID} {t : Tg} {tt : TD} {te : ED} {vs : List Nat} {ρ : Sl} {h : Hv} {Q : PV} {E : PX} {items : List Val} {ok : Hv → Prop} (pv : Val → Bool) (g : Val → Val) (hdi : ∀ R : Itr → Hv → Prop, R ⟨items, ok⟩ h → di ρ h R E) (hok : ∀ h', Sub h h' → ok h') (hl : items.length ≤ sizeLine)
    (he : ∀ v ∈ items, ∃ ρ', bT t v (wipeA ρ vs) = some ρ' ∧ (∀ h' Q', Sub h h' → Q' (pv v) h' → tt ρ' h' Q' EF) ∧ (pv v = true → ∀ h' Q', Sub h h' → Q' (g v) h' → te ρ' h' Q' EF))
    (q : Q (.lst ((items.filter pv).map g)) h) : dLc di t tt te vs ρ h Q E := by
  refine hdi _ fun D nD => ?_
  have sb := Sub.put (o := .busy) nD
  refine lcL_filt pv g (hok _ sb) items [] _ (by simpa using hl) (fun v hv => ?_) ?_
  · obtain ⟨ρ', e1, e2, e3⟩ := he v hv
    exact ⟨ρ', e1, fun Q' q' => e2 _ Q' sb q', fun hp Q' q' => e3 hp _ Q' sb q'⟩
  · rw [List.nil_append, drop_put nD]
    exact q
theorem lc_map {di : ID} {t : Tg} {te : ED} {vs : List Nat} {ρ : Sl} {h : Hv} {Q : PV} {E : PX} {items : List Val} {ok : Hv → Prop} (g : Val → Val) (hdi : ∀ R : Itr → Hv → Prop, R ⟨items, ok⟩ h → di ρ h R E) (hok : ∀ h', Sub h h' → ok h') (hl : items.length ≤ sizeLine)
    (he : ∀ v ∈ items, ∃ ρ', bT t v (wipeA ρ vs) = some ρ' ∧ ∀ h' Q', Sub h h' → Q' (g v) h' → te ρ' h' Q' EF)
    (q : Q (.lst (items.map g)) h) : dLc di t tTrue te vs ρ h Q E := by
  refine lc_filt (fun _ => true) g hdi hok hl (fun v hv => ?_) (by rw [List.filter_eq_self.mpr (fun _ _ => rfl)]; exact q)
  obtain ⟨ρ', e1, e2⟩ := he v hv
  exact ⟨ρ', e1, fun h' Q' _ q' => q', fun _ => e2⟩
theorem for_ind {ok : Hv → Prop} {t : Tg} {d : SD} {D : AE} {E : PX} (I : List Val → Sl → Hv → Prop) (h0 : ∀ ρ h, I [] ρ h → ok h ∧ D.nx ρ h)
    (hs : ∀ v vs ρ h, I (v :: vs) ρ h → ok h ∧ ∃ ρ', bT t v ρ = some ρ' ∧ ∀ N : Sl → Hv → Prop, (∀ ρ h, I vs ρ h → N ρ h) → d ρ' h { D with nx := N, ct := N, bk := D.nx } E) :
    ∀ (items : List Val) (ρ : Sl) (h : Hv), I items ρ h → forL ok t d items ρ h D E
  | [], ρ, h, i => h0 ρ h i
  | v :: vs, ρ, h, i => by
    obtain ⟨o, ρ', e, k⟩ := hs v vs ρ h i
    refine ⟨o, ?_⟩
    rw [e]
    exact k _ fun ρ h i => for_ind I h0 hs vs ρ h i
theorem while_ind {tc : TD} {d : SD} {D : AE} {E : PX} (I : Nat → Sl → Hv → Prop)
    (hs : ∀ n ρ h, I n ρ h → ∀ N : Sl → Hv → Prop, (∀ m ρ h, m < n → I m ρ h → N ρ h) → tc ρ h (fun k h1 => if k = true then d ρ h1 { D with nx := N, ct := N, bk := D.nx } E else D.nx ρ h1) E) :
    ∀ (n : Nat) (ρ : Sl) (h : Hv), I n ρ h → ∀ j, n < j → whileN tc d j ρ h D E
  | n, ρ, h, i, 0, hj => absurd hj (Nat.not_lt_zero _)
  | n, ρ, h, i, j + 1, hj => hs n ρ h i _ fun m ρ' h' hm i' => while_ind I hs m ρ' h' i' j (by omega)
theorem while_of {tc : TD} {d : SD} {D : AE} {E : PX} (I : Nat → Sl → Hv → Prop) {n : Nat} {ρ : Sl} {h : Hv} (i : I n ρ h)
    (hs : ∀ n ρ h, I n ρ h → ∀ N : Sl → Hv → Prop, (∀ m ρ h, m < n → I m ρ h → N ρ h) → tc ρ h (fun k h1 => if k = true then d ρ h1 { D with nx := N, ct := N, bk := D.nx } E else D.nx ρ h1) E) : sWhile tc d ρ h D E :=
  ⟨n + 1, while_ind I hs n ρ h i (n + 1) (Nat.lt_succ_self n)⟩
theorem sl1000 {n : Nat} (h : n ≤ 1000) : n ≤ sizeLine := by rw [sizeLine_eq]; omega
end DL
namespace DL
open PySem PySem.Spec PyProof.Rows L2
theorem Qv {Q : PV} {b b' : Val} {h : Hv} (q : Q b h) (e : b = b') : Q b' h := by rw [← e]; exact q
def letters : List Nat := ("abcdefghijklmnopqrstuvwxyz" : Str).cps.toList
def isName (v : Val) : Bool := match v with
  | .str z => decide (1 ≤ z.length) && decide (z.length ≤ 8) && z.cps.toList.all fun c => decide (c ∈ letters)
  | _ => false
def nmOf : Val → Str
  | .tup (.str z :: _) => z
  | _ => ""
structure Land where
  nm : Str
  p : Int
  q : Int
  pr : Int
structure Book where
  lands : List Land
  pacts : List (Str × Str)
def encL (l : Land) : Val := .tup [.str l.nm, .int l.p, .int l.q, .int l.pr]
def encP (p : Str × Str) : Val := .tup [.str p.1, .str p.2]
def encB (b : Book) : Val := .tup [.tup (b.lands.map encL), .tup (b.pacts.map encP)]
def Book.names (b : Book) : List Str := b.lands.map (·.nm)
abbrev Heap' := List (Int × Option Str)
def encO : Option Str → Val
  | some z => .str z
  | none => .non
def encR (r : Int × Option Str) : Val := .tup [.int r.1, encO r.2]
def encH (hp : Heap') : Val := .tup (hp.map encR)
structure WFB (b : Book) : Prop where
  n1 : 1 ≤ b.lands.length
  n4 : b.lands.length ≤ 4
  nm : ∀ l ∈ b.lands, isName (.str l.nm) = true
  sh : ∀ l ∈ b.lands, 1 ≤ l.p ∧ l.p ≤ l.q ∧ l.q ≤ 99 ∧ 0 ≤ l.pr ∧ l.pr ≤ 999
  up : b.names.Pairwise fun x y => x.cps.toList < y.cps.toList
  pc : ∀ p ∈ b.pacts, p.1 ∈ b.names ∧ p.2 ∈ b.names ∧ p.1 ≠ p.2
  pu : b.pacts.Pairwise fun x y => x.1.cps.toList < y.1.cps.toList ∨ (x.1 = y.1 ∧ x.2.cps.toList < y.2.cps.toList)
  pl : b.pacts.length ≤ 16
def S_names_of : SpF := fun as h Q _ => ∃ b : Book, as = [encB b] ∧ b.lands.length ≤ 4 ∧ Q (.lst (b.names.map .str)) h
end DL
namespace DL
open PySem PySem.Spec PyProof.Rows L2
def RsOk (rs : List (Key × Val)) : Prop := ∃ ks : List Nat, rs.map (·.1) = ks.map (fun (k : Nat) => (Sum.inl (k : Int) : Key)) ∧ ks.Nodup ∧ (∀ k ∈ ks, k < 64) ∧ ∀ kv ∈ rs, ∃ z, kv.2 = .int z
structure Town (t r : Addr) (h : Hv) : Prop where
  ne : t ≠ r
  tc : ∃ c : Int, 0 ≤ c ∧ h t = some (.dK [(.inr "count", .int c), (.inr "rests", .ref r)])
  rc : ∃ rs, h r = some (.dK rs) ∧ RsOk rs
def Only (t r : Addr) (h h' : Hv) : Prop := ∀ a, a ≠ t → a ≠ r → h' a = h a
theorem Only.refl {t r : Addr} (h : Hv) : Only t r h h := fun _ _ _ => rfl
theorem Only.trans {t r : Addr} {h h1 h2 : Hv} (a : Only t r h h1) (b : Only t r h1 h2) : Only t r h h2 := fun x u v => (b x u v).trans (a x u v)
def S__law_draw : SpF := fun as h Q _ => ∃ ns t r m, as = [.scr ns, .ref t, .int m] ∧ 0 < m ∧ m < 1073741824 ∧ ns.length ≤ 63 ∧ Town t r h ∧ ∀ n h', 0 ≤ n → n < m → Town t r h' → Only t r h h' → Q (.int n) h'
def S__law_begun : SpF := fun as h Q _ => as = [] ∧ ∀ t r h', h t = none → h r = none → Town t r h' → Only t r h h' → Q (.ref t) h'
structure Drawn (b : Book) : Prop where
  wf : WFB b
  nm : ∃ k, 1 ≤ k ∧ k ≤ 3 ∧ b.names = (["ash", "elm", "fir"] : List Str).take k
  sh : ∀ l ∈ b.lands, 1 ≤ l.p ∧ l.p ≤ l.q ∧ l.q ≤ 6 ∧ 0 ≤ l.pr ∧ l.pr ≤ 8
def S__law_a_book : SpF := fun as h Q _ => ∃ ns t r, as = [.scr ns, .ref t] ∧ ns.length ≤ 63 ∧ Town t r h ∧ ∀ b h', Drawn b → Town t r h' → Only t r h h' → Q (encB b) h'
structure DrawnH (b : Book) (hp : Heap') (most : Int) : Prop where
  n1 : 1 ≤ hp.length
  nm : hp.length ≤ most
  wt : ∀ x ∈ hp, 1 ≤ x.1 ∧ x.1 ≤ 40
  fr : ∀ x ∈ hp, ∀ z, x.2 = some z → z ∈ b.names
def S__law_a_heap : SpF := fun as h Q _ => ∃ ns t r b most, as = [.scr ns, .ref t, encB b, .int most] ∧ ns.length ≤ 63 ∧ 1 ≤ most ∧ most ≤ 8 ∧ b.lands.length ≤ 4 ∧ Town t r h ∧ ∀ hp h', DrawnH b hp most → Town t r h' → Only t r h h' → Q (encH hp) h'
end DL
namespace DL
open PySem PySem.Spec PyProof.Rows L2
theorem atI_nat {α : Type} {xs : List α} {k : Nat} (h : k < xs.length) : atI xs (k : Int) = some xs[k] := by
  have : ixN xs.length (k : Int) = some k := by unfold ixN; simp; omega
  unfold atI
  rw [this]
  exact List.getElem?_eq_getElem h
theorem atI_int {α : Type} {xs : List α} {i : Int} (h0 : 0 ≤ i) (h : i < xs.length) : ∃ (h : i.toNat < xs.length), atI xs i = some (xs[i.toNat]'h) := by
  obtain ⟨k, rfl⟩ := Int.eq_ofNat_of_zero_le h0
  have h : k < xs.length := by omega
  exact ⟨h, atI_nat h⟩
theorem seq_o {a b : SD} {ρ : Sl} {h : Hv} {D : AE} {E : PX} (q : ∀ K : SD, K = b → a ρ h { D with nx := fun ρ h => K ρ h D E } E) : sSeq a b ρ h D E := q b rfl
theorem atI_zero {α : Type} (x : α) (xs : List α) : atI (x :: xs) 0 = some x := by
  have : ixN (xs.length + 1) 0 = some 0 := by simp [ixN]
  simp [atI, this]
theorem opq {α : Sort u} {x : α} {P : α → Prop} (q : ∀ y, x = y → P y) : ∀ y, x = y → P y := q
theorem for_o {di : ID} {t : Tg} {d : SD} {ρ : Sl} {h : Hv} {D : AE} {E : PX} (q : ∀ d' : SD, d' = d → sFor di t d' ρ h D E) : sFor di t d ρ h D E := q d rfl
end DL
namespace DL
open PySem PySem.Spec PyProof.Rows L2
def okN : Nat → Val → Bool
  | _, .non => true
  | _, .bl _ => true
  | _, .int _ => true
  | _, .str z => PyData.strOk z && decide (z.length ≤ 1000)
  | d + 1, .tup vs => vs.all (okN d) && decide (vs.length ≤ 1000)
  | d + 1, .lst vs => vs.all (okN d) && decide (vs.length ≤ 1000)
  | _, _ => false
theorem okN_tup {d : Nat} {vs : List Val} : okN (d + 1) (.tup vs) = true ↔ (∀ v ∈ vs, okN d v = true) ∧ vs.length ≤ 1000 := by
  rw [okN, Bool.and_eq_true, List.all_eq_true, decide_eq_true_eq]
theorem okN_lst {d : Nat} {vs : List Val} : okN (d + 1) (.lst vs) = true ↔ (∀ v ∈ vs, okN d v = true) ∧ vs.length ≤ 1000 := by
  rw [okN, Bool.and_eq_true, List.all_eq_true, decide_eq_true_eq]
theorem okN_mono : ∀ {d : Nat} {v : Val}, okN d v = true → okN (d + 1) v = true
  | d, .non, _ => by rw [okN]
  | d, .bl _, _ => by rw [okN]
  | d, .int _, _ => by rw [okN]
  | d, .str z, h => by rw [okN] at h ⊢; exact h
  | d + 1, .tup vs, h => by
    rw [okN_tup] at h ⊢
    exact ⟨fun v hv => okN_mono (h.1 v hv), h.2⟩
  | d + 1, .lst vs, h => by
    rw [okN_lst] at h ⊢
    exact ⟨fun v hv => okN_mono (h.1 v hv), h.2⟩
  | 0, .tup _, h => by simp [okN] at h
  | 0, .lst _, h => by simp [okN] at h
  | _, .tpo _, h => by simp [okN] at h
  | _, .scr _, h => by simp [okN] at h
  | _, .ref _, h => by simp [okN] at h
  | _, .ty _, h => by simp [okN] at h
theorem okN_le {d e : Nat} {v : Val} (h : okN d v = true) (l : d ≤ e) : okN e v = true := by
  induction l with
  | refl => exact h
  | step _ ih => exact okN_mono ih
theorem dats_of {d : Nat} (ih : ∀ v, okN d v = true → ∃ x, dat v = some x ∧ x.canLay0 = true ∧ x.depth ≤ d) : ∀ {vs : List Val}, (∀ v ∈ vs, okN d v = true) → ∃ xs, dats vs = some xs ∧ PyData.canLayAll0 xs = true ∧ PyData.depthAll xs ≤ d
  | [], _ => ⟨[], rfl, rfl, Nat.zero_le _⟩
  | v :: vs, h => by
    obtain ⟨x, e1, c1, d1⟩ := ih v (h v List.mem_cons_self)
    obtain ⟨xs, e2, c2, d2⟩ := dats_of ih fun w hw => h w (List.mem_cons_of_mem _ hw)
    refine ⟨x :: xs, by rw [dats, e1, e2], by rw [PyData.canLayAll0, c1, c2]; rfl, ?_⟩
    rw [PyData.depthAll]
    exact Nat.max_le.mpr ⟨d1, d2⟩
theorem dat_of : ∀ {d : Nat} {v : Val}, okN d v = true → ∃ x, dat v = some x ∧ x.canLay0 = true ∧ x.depth ≤ d
  | d, .non, _ => ⟨_, rfl, rfl, by rw [PyData.depth]; exact Nat.zero_le _⟩
  | d, .bl _, _ => ⟨_, rfl, rfl, by rw [PyData.depth]; exact Nat.zero_le _⟩
  | d, .int _, _ => ⟨_, rfl, rfl, by rw [PyData.depth]; exact Nat.zero_le _⟩
  | d, .str z, h => by
    rw [okN, Bool.and_eq_true] at h
    exact ⟨_, rfl, by rw [PyData.canLay0]; exact h.1, by rw [PyData.depth]; exact Nat.zero_le _⟩
  | d + 1, .tup vs, h => by
    rw [okN_tup] at h
    obtain ⟨xs, e, c, dd⟩ := dats_of (fun v hv => dat_of hv) h.1
    exact ⟨.tuple xs, by rw [dat, e]; rfl, by rw [PyData.canLay0]; exact c, by rw [PyData.depth]; omega⟩
  | d + 1, .lst vs, h => by
    rw [okN_lst] at h
    obtain ⟨xs, e, c, dd⟩ := dats_of (fun v hv => dat_of hv) h.1
    exact ⟨.list xs, by rw [dat, e]; rfl, by rw [PyData.canLay0]; exact c, by rw [PyData.depth]; omega⟩
  | 0, .tup _, h => by simp [okN] at h
  | 0, .lst _, h => by simp [okN] at h
  | _, .tpo _, h => by simp [okN] at h
  | _, .scr _, h => by simp [okN] at h
  | _, .ref _, h => by simp [okN] at h
  | _, .ty _, h => by simp [okN] at h
def eqD (v w : Val) : Bool := match dat v, dat w with
  | some d, some e => PyData.eqv d e
  | _, _ => false
theorem datH_of {v : Val} {h : Hv} {d : Nat} (o : okN d v = true) : datH v h = dat v := by
  cases v <;> first | rfl | (simp [okN] at o)
theorem datEq_ok {v w : Val} {h : Hv} {Q : Bool → Prop} (hv : okN 64 v = true) (hw : okN 64 w = true) (q : Q (eqD v w)) : datEq v w h Q := by
  obtain ⟨d, e1, c1, d1⟩ := dat_of hv
  obtain ⟨e, e2, c2, d2⟩ := dat_of hw
  refine ⟨d, e, by rw [datH_of hv, e1], by rw [datH_of hw, e2], ?_, ?_, ?_⟩
  · unfold SeqAt.shaped; rw [c1, decide_eq_true d1]; rfl
  · unfold SeqAt.shaped; rw [c2, decide_eq_true d2]; rfl
  · unfold eqD at q; rw [e1, e2] at q; exact q
theorem eqD_refl {v : Val} {d : Nat} (h : okN d v = true) : eqD v v = true := by
  obtain ⟨x, e, c, _⟩ := dat_of h
  unfold eqD; rw [e]
  exact SeqAt.eqv_refl x c
theorem eqD_nil (vs : List Val) {d : Nat} (h : okN d (.tup vs) = true) : eqD (.tup vs) (.tup []) = vs.isEmpty := by
  obtain ⟨x, e, c, _⟩ := dat_of h
  unfold eqD
  rw [e]
  cases vs with
  | nil => rw [dat, dats] at e; cases e; rfl
  | cons v vs =>
    rw [dat] at e
    obtain ⟨xs, e1, rfl⟩ := Option.map_eq_some_iff.mp e
    rw [dats] at e1
    split at e1
    · cases e1; rfl
    · cases e1
theorem fNe_dat {v w : Val} {h : Hv} {Q : PV} (hv : okN 64 v = true) (hw : okN 64 w = true) (q : Q (.bl (!eqD v w)) h) (hs : scA v w = none := by rfl) : fNe v w h Q := by
  unfold fNe; rw [hs]; exact datEq_ok hv hw q
theorem fEq_dat {v w : Val} {h : Hv} {Q : PV} (hv : okN 64 v = true) (hw : okN 64 w = true) (q : Q (.bl (eqD v w)) h) (hs : scA v w = none := by rfl) : fEq v w h Q := by
  unfold fEq; rw [hs]; exact datEq_ok hv hw q
theorem lcL_filtT {α : Type} {ok : Hv → Prop} {t : Tg} {tt : TD} {te : ED} {ρw : Sl} {h : Hv} (f : α → Val) (pv : α → Bool) (g : α → Val) (hok : ok h) : ∀ (xs : List α) (acc : List Val) (Q : List Val → Hv → Prop), acc.length + xs.length ≤ sizeLine →
    (∀ x ∈ xs, ∃ ρ', bT t (f x) ρw = some ρ' ∧ (∀ Q', Q' (pv x) h → tt ρ' h Q' EF) ∧ (pv x = true → ∀ Q', Q' (g x) h → te ρ' h Q' EF)) →
    Q (acc ++ (xs.filter pv).map g) h → lcL ok t tt te ρw (xs.map f) acc h Q
  | [], acc, Q, hl, he, q => ⟨hok, by simpa using q⟩
  | x :: xs, acc, Q, hl, he, q => by
    obtain ⟨ρ', e1, e2, e3⟩ := he x List.mem_cons_self
    refine ⟨hok, ?_⟩
    rw [e1]
    dsimp only
    rw [List.length_cons] at hl
    refine e2 _ ?_
    cases hp : pv x with
    | true =>
      rw [if_pos rfl]
      refine e3 hp _ ⟨by omega, ?_⟩
      refine lcL_filtT f pv g hok xs (acc ++ [g x]) Q (by rw [List.length_append, List.length_singleton]; omega) (fun w hw => he w (List.mem_cons_of_mem _ hw)) ?_
      rw [List.filter_cons_of_pos hp, List.map_cons] at q
      simpa using q
    | false =>
      rw [if_neg Bool.false_ne_true]
      refine lcL_filtT f pv g hok xs acc Q (by omega) (fun w hw => he w (List.mem_cons_of_mem _ hw)) ?_
      rw [List.filter_cons_of_neg (by rw [hp]; exact Bool.false_ne_true)] at q
      exact q
theorem lc_filtT {α : Type} {di : ID} {t : Tg} {tt : TD} {te : ED} {vs : List Nat} {ρ : Sl} {h : Hv} {Q : PV} {E : PX} {ok : Hv → Prop} (xs : List α) (f : α → Val) (pv : α → Bool) (g : α → Val) (hdi : ∀ R : Itr → Hv → Prop, R ⟨xs.map f, ok⟩ h → di ρ h R E) (hok : ∀ h', Sub h h' → ok h') (hl : xs.length ≤ sizeLine)
    (he : ∀ x ∈ xs, ∃ ρ', bT t (f x) (wipeA ρ vs) = some ρ' ∧ (∀ h' Q', Sub h h' → Q' (pv x) h' → tt ρ' h' Q' EF) ∧ (pv x = true → ∀ h' Q', Sub h h' → Q' (g x) h' → te ρ' h' Q' EF))
    (q : Q (.lst ((xs.filter pv).map g)) h) : dLc di t tt te vs ρ h Q E := by
  refine hdi _ fun D nD => ?_
  have sb := Sub.put (o := .busy) nD
  refine lcL_filtT f pv g (hok _ sb) xs [] _ (by simpa using hl) (fun v hv => ?_) ?_
  · obtain ⟨ρ', e1, e2, e3⟩ := he v hv
    exact ⟨ρ', e1, fun Q' q' => e2 _ Q' sb q', fun hp Q' q' => e3 hp _ Q' sb q'⟩
  · rw [List.nil_append, drop_put nD]
    exact q
theorem lc_mapT {α : Type} {di : ID} {t : Tg} {te : ED} {vs : List Nat} {ρ : Sl} {h : Hv} {Q : PV} {E : PX} {ok : Hv → Prop} (xs : List α) (f : α → Val) (g : α → Val) (hdi : ∀ R : Itr → Hv → Prop, R ⟨xs.map f, ok⟩ h → di ρ h R E) (hok : ∀ h', Sub h h' → ok h') (hl : xs.length ≤ sizeLine)
    (he : ∀ x ∈ xs, ∃ ρ', bT t (f x) (wipeA ρ vs) = some ρ' ∧ ∀ h' Q', Sub h h' → Q' (g x) h' → te ρ' h' Q' EF)
    (q : Q (.lst (xs.map g)) h) : dLc di t tTrue te vs ρ h Q E := by
  refine lc_filtT xs f (fun _ => true) g hdi hok hl (fun v hv => ?_) (by rw [List.filter_eq_self.mpr (fun _ _ => rfl)]; exact q)
  obtain ⟨ρ', e1, e2⟩ := he v hv
  exact ⟨ρ', e1, fun h' Q' _ q' => q', fun _ => e2⟩
theorem all_lcT {α : Type} {di : ID} {t : Tg} {te : ED} {vs : List Nat} {ρ : Sl} {h : Hv} {Q : PV} {E : PX} {ok : Hv → Prop} (xs : List α) (f : α → Val) (p : α → Bool) (hdi : ∀ R : Itr → Hv → Prop, R ⟨xs.map f, ok⟩ h → di ρ h R E) (hok : ∀ h', Sub h h' → ok h') (hl : xs.length ≤ sizeLine)
    (he : ∀ x ∈ xs, ∃ ρ', bT t (f x) (wipeA ρ vs) = some ρ' ∧ ∀ h' Q', Sub h h' → Q' (.bl (p x)) h' → te ρ' h' Q' EF)
    (q : Q (.bl (xs.all p)) h) : dCB fAll (aCons (dLc di t tTrue te vs) aNil) ρ h Q E := by
  simp only [dCB, aCons, aNil]
  refine lc_mapT xs f (fun v => .bl (p v)) hdi hok hl he ?_
  show fAll [.lst (xs.map fun v => .bl (p v))] h Q
  simp only [fAll, listOf, Option.bind_some, blsOf_map]
  simpa using q
theorem sum_lcT {α : Type} {di : ID} {t : Tg} {te : ED} {vs : List Nat} {ρ : Sl} {h : Hv} {Q : PV} {E : PX} {ok : Hv → Prop} (xs : List α) (f : α → Val) (p : α → Int) (hdi : ∀ R : Itr → Hv → Prop, R ⟨xs.map f, ok⟩ h → di ρ h R E) (hok : ∀ h', Sub h h' → ok h') (hl : xs.length ≤ sizeLine)
    (he : ∀ x ∈ xs, ∃ ρ', bT t (f x) (wipeA ρ vs) = some ρ' ∧ ∀ h' Q', Sub h h' → Q' (.int (p x)) h' → te ρ' h' Q' EF)
    (q : Q (.int (xs.map p).sum) h) : dCB fSum (aCons (dLc di t tTrue te vs) aNil) ρ h Q E := by
  simp only [dCB, aCons, aNil]
  refine lc_mapT xs f (fun v => .int (p v)) hdi hok hl he ?_
  show fSum [.lst (xs.map fun v => .int (p v))] h Q
  simp only [fSum, listOf, Option.bind_some, intsOf_map]
  exact q
theorem lc_ind {di : ID} {t : Tg} {tt : TD} {te : ED} {vs : List Nat} {ρ : Sl} {h : Hv} {Q : PV} {E : PX} {items : List Val} {ok : Hv → Prop} (I : Addr → List Val → List Val → Hv → Prop) (hdi : ∀ R : Itr → Hv → Prop, R ⟨items, ok⟩ h → di ρ h R E)
    (h1 : ∀ D, h D = none → I D items [] (put h D .busy))
    (h0 : ∀ D acc h', I D [] acc h' → ok h' ∧ Q (.lst acc) (drop h' D))
    (hs : ∀ D v r acc h', I D (v :: r) acc h' → ok h' ∧ ∃ ρ', bT t v (wipeA ρ vs) = some ρ' ∧ ∀ N : List Val → Hv → Prop, (∀ acc h2, I D r acc h2 → N acc h2) → tt ρ' h' (fun k h2 => if k = true then te ρ' h2 (fun u h3 => acc.length < sizeLine ∧ N (acc ++ [u]) h3) EF else N acc h2) EF) : dLc di t tt te vs ρ h Q E := by
  refine hdi _ fun D nD => ?_
  have go : ∀ (r acc : List Val) (h' : Hv), I D r acc h' → lcL ok t tt te (wipeA ρ vs) r acc h' (fun acc h2 => Q (.lst acc) (drop h2 D)) := by
    intro r
    induction r with
    | nil => exact fun acc h' i => h0 D acc h' i
    | cons v r ih =>
      intro acc h' i
      obtain ⟨o, ρ', e, k⟩ := hs D v r acc h' i
      refine ⟨o, ?_⟩
      rw [e]
      exact k _ fun acc h2 z => ih acc h2 z
  exact go items [] _ (h1 D nD)
end DL
namespace DL
open PySem PySem.Spec PyProof.Rows L2
inductive Tree where
  | leaf (n : Int)
  | node (z : Str) (ts : List Tree)
mutual
def Tree.enc : Tree → Val
  | .leaf n => .int n
  | .node z ts => .tup [.str z, .tup (encTs ts)]
def encTs : List Tree → List Val
  | [] => []
  | t :: ts => t.enc :: encTs ts
end
mutual
def Tree.things : Tree → List Int
  | .leaf n => [n]
  | .node _ ts => thingsTs ts
def thingsTs : List Tree → List Int
  | [] => []
  | t :: ts => t.things ++ thingsTs ts
end
mutual
def Tree.lands : Tree → List Str
  | .leaf _ => []
  | .node z ts => z :: landsTs ts
def landsTs : List Tree → List Str
  | [] => []
  | t :: ts => t.lands ++ landsTs ts
end
mutual
def Tree.ht : Tree → Nat
  | .leaf _ => 0
  | .node _ ts => htTs ts + 1
def htTs : List Tree → Nat
  | [] => 0
  | t :: ts => max t.ht (htTs ts)
end
mutual
def Tree.okT (names : List Str) : Tree → Prop
  | .leaf _ => True
  | .node z ts => z ∈ names ∧ ts ≠ [] ∧ okTs names ts
def okTs (names : List Str) : List Tree → Prop
  | [] => True
  | t :: ts => t.okT names ∧ okTs names ts
end
theorem encTs_map (ts : List Tree) : encTs ts = ts.map Tree.enc := by
  induction ts with
  | nil => rfl
  | cons t ts ih => rw [encTs, ih]; rfl
theorem thingsTs_map (ts : List Tree) : thingsTs ts = ts.flatMap Tree.things := by
  induction ts with
  | nil => rfl
  | cons t ts ih => rw [thingsTs, ih]; rfl
theorem landsTs_map (ts : List Tree) : landsTs ts = ts.flatMap Tree.lands := by
  induction ts with
  | nil => rfl
  | cons t ts ih => rw [landsTs, ih]; rfl
theorem okTs_iff (names : List Str) (ts : List Tree) : okTs names ts ↔ ∀ t ∈ ts, t.okT names := by
  induction ts with
  | nil => simp [okTs]
  | cons t ts ih => simp [okTs, ih]
theorem htTs_mem : ∀ {ts : List Tree} {t : Tree}, t ∈ ts → t.ht ≤ htTs ts
  | u :: ts, t, h => by
    rw [htTs]
    rcases List.mem_cons.mp h with e | e
    · rw [e]; exact Nat.le_max_left _ _
    · exact Nat.le_trans (htTs_mem e) (Nat.le_max_right _ _)
theorem htTs_le : ∀ {ts : List Tree} {k : Nat}, (∀ t ∈ ts, t.ht ≤ k) → htTs ts ≤ k
  | [], k, _ => Nat.zero_le _
  | u :: ts, k, h => by
    rw [htTs]
    exact Nat.max_le.mpr ⟨h u List.mem_cons_self, htTs_le fun t ht => h t (List.mem_cons_of_mem _ ht)⟩
def rowA (b : Book) (z : Str) : Option Land := (b.lands.filter fun l => decide (l.nm = z)).head?
def S_row_of : SpF := fun as h Q _ => ∃ (b : Book) (z : Str) (l : Land), as = [encB b, .str z] ∧ b.lands.length ≤ 4 ∧ rowA b z = some l ∧ Q (encL l) h
def S__law_a_tree : SpF := fun as h Q _ => ∃ (ns : List Int) (t r : Addr) (b : Book) (ths : List Int), as = [.scr ns, .ref t, encB b, .lst (ths.map .int)] ∧ ns.length ≤ 63 ∧ 1 ≤ b.lands.length ∧ b.lands.length ≤ 4 ∧ (∀ z ∈ b.names, okN 0 (.str z) = true) ∧ 1 ≤ ths.length ∧ ths.length ≤ 8 ∧ Town t r h ∧
  ∀ (tr : Tree) (h' : Hv), tr.okT b.names → tr.things.Perm ths → tr.ht ≤ 12 → tr.lands.length ≤ 12 → okN 24 tr.enc = true → Town t r h' → Only t r h h' → Q tr.enc h'
end DL
namespace DL
open PySem PySem.Spec PyProof.Rows L2
def takesL (b : Book) (z : Str) : List Str := sortZ (z :: (b.pacts.filter fun p => decide (p.1 = z)).map (·.2))
def enough (b : Book) (z : Str) (c w : Int) : Bool := match rowA b z with
  | some l => decide (w * l.p ≤ c * l.q)
  | none => false
def rawW (hp : Heap') (n : Int) : Int := ((hp[n.toNat]?).map (·.1)).getD 0
def rawL (hp : Heap') (n : Int) : Option Str := (hp[n.toNat]?).bind (·.2)
mutual
def Tree.whole (hp : Heap') : Tree → Int
  | .leaf n => rawW hp n
  | .node _ ts => wholeTs hp ts
def wholeTs (hp : Heap') : List Tree → Int
  | [] => 0
  | t :: ts => t.whole hp + wholeTs hp ts
end
mutual
def Tree.land (b : Book) (hp : Heap') : Tree → Option Str
  | .leaf n => rawL hp n
  | .node z ts => if enough b z (cntTs b hp z ts) (wholeTs hp ts) = true then some z else none
def cntTs (b : Book) (hp : Heap') (z : Str) : List Tree → Int
  | [] => 0
  | t :: ts => (match t.land b hp with
    | some l => if l ∈ takesL b z then t.whole hp else 0
    | none => 0) + cntTs b hp z ts
end
def Tree.cnt (b : Book) (hp : Heap') : Tree → Int
  | .leaf n => rawW hp n
  | .node z ts => cntTs b hp z ts
abbrev Row := List Int × Option Str
def encRow (r : Row) : Val := .tup [.tup (r.1.map .int), encO r.2]
mutual
def Tree.rows (b : Book) (hp : Heap') (path : List Int) : Tree → List Row
  | .leaf n => [(path, rawL hp n)]
  | .node z ts => (path, (Tree.node z ts).land b hp) :: rowsTs b hp path 0 ts
def rowsTs (b : Book) (hp : Heap') (path : List Int) (i : Nat) : List Tree → List Row
  | [] => []
  | t :: ts => t.rows b hp (path ++ [(i : Int)]) ++ rowsTs b hp path (i + 1) ts
end
mutual
def Tree.size : Tree → Nat
  | .leaf _ => 1
  | .node _ ts => sizeTs ts + 1
def sizeTs : List Tree → Nat
  | [] => 0
  | t :: ts => t.size + sizeTs ts
end
def Tree.at (t : Tree) : List Int → Option Tree
  | [] => some t
  | i :: p => match t with
    | .leaf _ => none
    | .node _ ts => if 0 ≤ i then (match ts[i.toNat]? with
      | some u => u.at p
      | none => none) else none
def Tree.put (t : Tree) (f : Tree) : List Int → Tree
  | [] => f
  | i :: p => match t with
    | .leaf n => .leaf n
    | .node z ts => match ts[i.toNat]? with
      | some u => .node z (ts.set i.toNat (u.put f p))
      | none => .node z ts
structure HpOk (b : Book) (hp : Heap') : Prop where
  n8 : hp.length ≤ 8
  fr : ∀ x ∈ hp, ∀ z, x.2 = some z → z ∈ b.names
structure TrOk (b : Book) (hp : Heap') (t : Tree) : Prop where
  ok : t.okT b.names
  rg : ∀ n ∈ t.things, 0 ≤ n ∧ n < (hp.length : Int)
def S_takes : SpF := fun as h Q _ => ∃ (b : Book) (z : Str), as = [encB b, .str z] ∧ b.pacts.length ≤ 16 ∧ Q (.tup ((takesL b z).map .str)) h
def S_is_enough : SpF := fun as h Q _ => ∃ (b : Book) (z : Str) (c w : Int), as = [encB b, .str z, .int c, .int w] ∧ WFB b ∧ z ∈ b.names ∧ Q (.bl (enough b z c w)) h
def SR_valued (d : Nat) : SpF := fun as h Q _ => ∃ (b : Book) (hp : Heap') (t : Tree) (path : List Int) (p : Addr) (rows0 : List Val), as = [encB b, encH hp, t.enc, .tup (path.map .int), .ref p] ∧ WFB b ∧ TrOk b hp t ∧ t.ht < d ∧ path.length + t.ht ≤ 100 ∧ h p = some (.lst rows0) ∧ rows0.length + t.size ≤ 1000 ∧
  Q (.tup [.int (t.whole hp), .int (t.cnt b hp), encO (t.land b hp)]) (put h p (.lst (rows0 ++ (t.rows b hp path).map encRow)))
def S_valued : SpF := SR_valued 24
def S_counts_as : SpF := fun as h Q _ => ∃ (b : Book) (hp : Heap') (t : Tree), as = [encB b, encH hp, t.enc] ∧ WFB b ∧ TrOk b hp t ∧ t.ht < 24 ∧ t.size ≤ 900 ∧ Q (encO (t.land b hp)) h
def S_counting_worth : SpF := fun as h Q _ => ∃ (b : Book) (hp : Heap') (t : Tree), as = [encB b, encH hp, t.enc] ∧ WFB b ∧ TrOk b hp t ∧ t.ht < 24 ∧ t.size ≤ 900 ∧ Q (.int (t.cnt b hp)) h
def S_tree_at : SpF := fun as h Q _ => ∃ (t u : Tree) (path : List Int), as = [t.enc, .tup (path.map .int)] ∧ t.at path = some u ∧ Q u.enc h
def S__law_at : SpF := S_tree_at
theorem no_valued : ∀ as h Q E, SR_valued 0 as h Q E → False := fun _ _ _ _ ⟨_, _, _, _, _, _, _, _, _, z, _⟩ => Nat.not_lt_zero _ z
end DL
namespace DL
open PySem PySem.Spec PyProof.Rows L2
theorem fn_no {P : Program} {w : World} {K : PySem.W.Frag} {mg : Str → Option Value} {base : Heap} {CX : CXT} {k : Nat} {f : Addr} {fd : FuncData} {ps : List Str} {n : Nat} {S : SpF} (h : ∀ as h Q E, S as h Q E → False) : FnOk P w K mg base CX k f fd ps (spA K mg n S) :=
  ⟨fun vs H Q E ⟨_, _, _, _, _, _, _, z, _⟩ => (h _ _ _ _ z).elim, fun _ _ _ _ _ _ _ _ _ _ _ _ _ ⟨_, _, _, _, _, _, _, z, _⟩ => (h _ _ _ _ z).elim⟩
end DL
namespace DL
open PySem PySem.Spec PyProof.Rows L2
def S_lawN (NS : List Str) (G : Gx) : SpF := fun as h Q _ => ∃ ns, as = [.scr ns] ∧ ns.length ≤ 63 ∧ G.ns = NS ∧ Tbs G.Ts h ∧ ∀ h', Q (.bl true) h'
def spLawT (K : PySem.W.Frag) (Ts : List Addr) : Sp := fun vs H Q E => ∃ (a : Addr) (ns : List Int), vs = [.ref a] ∧ SqL K H a (ns.map V.int) ∧ ns.length ≤ 63 ∧ (∀ T ∈ Ts, H T = some (.tbl #[])) ∧ ∀ H', Q (.bl true) H'
def tabH (Ts : List (Addr × Str)) : Hv := fun b => (Ts.lookup b).map Ob.tab
theorem tabH_ok : ∀ {Ts : List (Addr × Str)}, (Ts.map (·.1)).Nodup → Tbs Ts (tabH Ts)
  | [], _ => ⟨fun _ h => absurd h (by simp), fun b q h => by simp [tabH] at h⟩
  | (a, q0) :: Ts, nd => by
    rw [List.map_cons, List.nodup_cons] at nd
    have ih := tabH_ok nd.2
    refine ⟨fun p hp => ?_, fun b q hb => ?_⟩
    · unfold tabH
      rw [List.lookup_cons]
      rcases List.mem_cons.mp hp with z | z
      · subst z; simp
      · have ne : (p.1 == a) = false := by
          rw [beq_eq_false_iff_ne]; intro e; refine nd.1 ?_; rw [← e]; exact List.mem_map_of_mem (f := (·.1)) z
        rw [ne]
        exact ih.has p z
    · unfold tabH at hb
      rw [List.lookup_cons] at hb
      cases e : b == a with
      | true =>
        rw [e] at hb
        have := beq_iff_eq.mp e
        subst this
        cases hb
        exact List.mem_cons_self
      | false =>
        rw [e] at hb
        exact List.mem_cons_of_mem _ (ih.all b q hb)
theorem ok_endT {P : Program} {w : World} {K : PySem.W.Frag} {mg : Str → Option Value} {base : Heap} {CX : CXT} {k : Nat} {f : Addr} {G : Gx} {NS : List Str} {fd : FuncData} {ps : List Str} (hns : G.ns = NS) (nd : (G.Ts.map (·.1)).Nodup) (F : FnOk P w K mg base CX k f fd ps (spA K mg 1 (S_lawN NS G))) : FnOk P w K mg base CX k f fd ps (spLawT K (G.Ts.map (·.1))) := by
  refine F.imp ?_
  generalize hTs : G.Ts = Ts at *
  rintro vs H Q E ⟨a, ns, rfl, sq, hl, hT, q⟩
  have tb := tabH_ok nd
  refine ⟨[.scr ns], tabH Ts, fun v _ => v = .bl true, fun _ _ _ => False, ?_, ?_, rfl, ⟨ns, rfl, hl, hns, by rw [hTs]; exact tb, fun _ => rfl⟩, ?_, fun _ _ _ _ _ _ z => z.elim⟩
  · rw [RVs]
    refine ⟨.ref a, [], rfl, ?_, rfl⟩
    rw [RV]
    refine ⟨a, rfl, ?_⟩
    rcases sq with z | z
    · refine .inl ⟨?_, z⟩
      cases e : tabH Ts a with
      | none => rfl
      | some o =>
        have : ∃ q, o = .tab q := by
          unfold tabH at e
          cases e2 : Ts.lookup a with
          | none => rw [e2] at e; cases e
          | some q => rw [e2] at e; cases e; exact ⟨q, rfl⟩
        obtain ⟨q0, rfl⟩ := this
        have hm := tb.all a q0 e
        have := hT a (List.mem_map_of_mem (f := (·.1)) hm)
        rcases z with z | ⟨o, z⟩ <;> rw [this] at z <;> cases z
    · exact .inr z
  · intro b o e
    have : ∃ q, o = .tab q := by
      unfold tabH at e
      cases e2 : Ts.lookup b with
      | none => rw [e2] at e; cases e
      | some q => rw [e2] at e; cases e; exact ⟨q, rfl⟩
    obtain ⟨q0, rfl⟩ := this
    have hm := tb.all b q0 e
    exact ⟨#[], hT b (List.mem_map_of_mem (f := (·.1)) hm), True.intro, fun pos cv hc => by
      have z : codeAmong pos [] = some cv := hc
      simp [codeAmong] at z⟩
  · rintro v h' x H' rfl _ rv _
    rw [RV] at rv
    rw [rv]; exact q H'
theorem fn_mkC {P : Program} {w : World} {K : PySem.W.Frag} {mg : Str → Option Value} {base : Heap} {x qual : Str} {st : Stmt} {f : Addr} {fd : FuncData} {N ps : List Str} {k : Nat} {fs : SpF} {den : SD} (F : Fun K x qual st f fd) (S : FnScope N ps (defScope st))
    (hd : ∀ (cdv : Value) (A : Around) (outer : List Env) (s : Shared) (H : Hp) (E : XK) (B : Bs), fd.code = cdv → Room k (A.deeper (envOfC qual (defScope st) s.heap.objs.size f cdv)) → TakesB (cxOf (L2.CX P w) P w K mg base N qual (defScope st) f cdv A outer s H E) B →
      DSs (cxOf (L2.CX P w) P w K mg base N qual (defScope st) f cdv A outer s H E) B (defBody st) den)
    (hs : ∀ as h Q E, as.length = ps.length → fs as h Q E → den (startA N as) h ⟨fun _ h' => ∃ h2, Lss h' h2 ∧ Q .non h2, fun v h' => ∃ v2 h2, Conv v h' v2 h2 ∧ Q v2 h2, fun _ _ => False, fun _ _ => False⟩ (fun nm pl _ h' => ∃ h2, Lss h' h2 ∧ E nm pl h2)) :
    FnOk P w K mg base (L2.CX P w) (k + 1) f fd ps (spA K mg ps.length fs) := by
  obtain ⟨oc, od, kV, doc, pm, an, cdv0, ct, osl, efd, lk, hcd⟩ := F.ex
  have hcode : fd.code = cdv0 := by rw [efd]
  rw [efd] at lk ⊢
  refine fn_of lk hcd S (fun vs H Q E h => ?_) (fun A outer s H vs Q E hr h => ?_)
  · obtain ⟨as, h, Q', E', rs, _, e, _⟩ := h
    rw [← rs.len]; exact e
  · obtain ⟨as, h, Q', E', rs, r, e, q, C, CX⟩ := h
    refine ⟨_, hd cdv0 A outer s H E ⟨fun nm pl _ h' => ∃ h2, Lss h' h2 ∧ E' nm pl h2, h, H⟩ hcode hr ?_, startA N as, h, _, ⟨rs.getS N, r, Step.refl _ _⟩, hs as h Q' E' e q, ?_⟩
    · have tk : Takes (cxOf (L2.CX P w) P w K mg base N qual (defScope st) f cdv0 A outer s H E) (fun cls d _ H => E cls d H) := takes_of rfl rfl rfl rfl
      refine tk.imp fun cls d σ H1 hw => ?_
      obtain ⟨nm, pl, ρ, h1, hm, S1, pld, h2, l2, hE⟩ := hw
      exact CX nm pl h2 cls d H1 hE (S1.b.trans l2.step) (S1.r.less l2.l) hm (pld.step l2.step)
    · refine ⟨fun ρ1 h1 σ1 H1 q1 s1 S1 => ?_, fun v h1 x H1 q1 s1 rv1 r1 => ?_, fun _ _ _ _ z => z.elim, fun _ _ _ _ z => z.elim⟩
      · obtain ⟨h2, l2, q2⟩ := q1
        exact C _ _ _ _ q2 (s1.trans l2.step) rv_non (S1.r.less l2.l)
      · obtain ⟨v2, h2, c2, q2⟩ := q1
        exact C _ _ _ _ q2 (s1.trans c2.1.step) (c2.2 K H1 x r1 rv1) (r1.less c2.1.l)
theorem fun_of {K : PySem.W.Frag} {x qual : Str} {st : Stmt} {f : Addr} {fd : FuncData} (F : FunD K x qual (defArgs st) (defBody st) (defScope st) [] [] f fd) : Fun K x qual st f fd := by
  obtain ⟨oc, od, dV, kV, doc, pm, an, cdv, ct, osl, e, lk, hcd, hd, _⟩ := F.ex
  have : dV = .none := hd.elim (fun z => z.2) fun z => absurd rfl z.1
  subst this
  exact ⟨⟨oc, od, kV, doc, pm, an, cdv, ct, osl, e, lk, hcd⟩, F.kp⟩
def excRB (K : PySem.W.Frag) (x : Str) : Bool := PySem.W.excIn K (He.ga K x) He.veBase "ValueError.__new__" && (PySem.W.keepIn K (.ref (He.ga K x)) && (decide (PySem.W.subIn K (.ref (He.ga K x)) (.type "BaseException") = some true) && decide (PySem.W.typeIn K (.ref (He.ga K x)) = some (.type "type"))))
theorem walkT {l : PySem.W.OpenLaw} {k : Nat} {q : Program} {loose : List Str} {XP : (Str → Option Value) → Heap → Prop} {d : DefRec} {fa : List He.Fa} {fn : List He.DefD} {tf : List He.Defn} {ex : PySem.W.Frag → Bool} (hn : l.most = some 63) (hdf : d.params.defaults = []) (hnm : d.name = "law") (hr : Room k callerA)
    (F : ∀ (w : World) (K : PySem.W.Frag) (mg : Str → Option Value) (f : Addr) (h : Heap), K.In h → h.Ns mainGlobals mg → mg "law" = some (.ref f) → He.SaysX fa fn [] tf ex w h K →
      ∃ fd : FuncData, (∀ (s : Shared) (u : Value), BindsTo s fd ⟨[u], []⟩ [("script", u)]) ∧ ∀ base : Heap, K.In base → base.Ns mainGlobals mg → (∀ p ∈ tf, LamX.TabB base mg (He.cT K p).1 (He.cT K p).2) → FnOk l.prog w K mg base (L2.CX l.prog w) k f fd ["script"] (spLawT K (tf.map fun p => (He.cT K p).2))) :
    PySem.W.WalkO q loose XP (He.hookX 4 fa fn [] tf ex).says l.row.toRowW d [] (fun f vs => PySem.call f vs) := by
  refine LamX.walk_ofTsE (l := l) (n := 63) (k := k) (x := "script") (CX := fun w => L2.CX l.prog w) hn (by decide) hdf hr (fun w mg f h Y G hmg0 => ?_) (fun _ _ _ _ _ z => ?_)
  · obtain ⟨K, KX, c⟩ := Y
    have hmg : mg "law" = some (.ref f) := by rw [← hnm]; exact hmg0
    obtain ⟨fd, hb, hF⟩ := F w K mg f h KX G hmg c
    refine ⟨K, KX, fd, tf.map (He.cT K), spLawT K (tf.map fun p => (He.cT K p).2), fun p hp => ?_, fun p hp => ?_, fun p hp => ?_, hb, fun H a ns hl _ hT hS => ⟨a, ns, rfl, hS, hl, fun T hT' => ?_, fun _ => rfl⟩, fun base KB GB TB => hF base KB GB fun p hp => TB _ (List.mem_map_of_mem hp)⟩
    · obtain ⟨z, hz, rfl⟩ := List.mem_map.mp hp; exact c.empty _ hz
    · obtain ⟨z, hz, rfl⟩ := List.mem_map.mp hp; exact c.out _ hz
    · obtain ⟨z, hz, rfl⟩ := List.mem_map.mp hp; exact PySem.W.codeHd_of_K KX (c.hd _ hz)
    · obtain ⟨z, hz, rfl⟩ := List.mem_map.mp hT'; exact hT _ (List.mem_map_of_mem hz)
  · obtain ⟨_, _, _, _, _, _, _, _, _, _, _, _, hE⟩ := z
    exact hE
theorem code_law {K : PySem.W.Frag} {x qual : Str} {st : Stmt} {fd : FuncData} {cdv : Value} {p : Str × Option Str} (F : Fun K x qual st (He.fAd K p) fd) (e : fd.code = cdv) : cdv = .ref (He.cT K p).1 := by
  obtain ⟨oc, od, kV, doc, pm, an, cdv0, ct, osl, efd, lk, hcd⟩ := F.ex
  obtain ⟨c, ec⟩ := He.codeIn_ref hcd
  have hc : fd.code = .ref c := by rw [efd]; exact ec
  rw [← e, hc]
  exact congrArg Value.ref (He.codeOf_eq lk hc).symm
end DL
namespace DL
open PySem PySem.Spec PyProof.Rows L2
end DL
namespace DL
open PySem PySem.Spec PyProof.Rows L2
end DL
namespace DL
open PySem PySem.Spec PyProof.Rows L2
end DL
namespace DL
open PySem PySem.Spec PyProof.Rows L2
mutual
def Tree.paths : Tree → List (List Int)
  | .leaf _ => [[]]
  | .node _ ts => [] :: pathsTs 0 ts
def pathsTs (i : Nat) : List Tree → List (List Int)
  | [] => []
  | t :: ts => t.paths.map (fun p => (i : Int) :: p) ++ pathsTs (i + 1) ts
end
def encPt (p : List Int) : Val := .tup (p.map .int)
end DL
namespace DL
open PySem PySem.Spec PyProof.Rows L2
end DL
namespace DL
open PySem PySem.Spec PyProof.Rows L2
end DL
namespace DL
open PySem PySem.Spec PyProof.Rows L2
def den_names_of : SD := (sRet (dLc (dIt (dBin fIx (dVar 0) (dC (.int 0)))) (.nm 1) tTrue (dBin fIx (dVar 1) (dC (.int 0))) [1]))
end DL
namespace DL
open PySem PySem.Spec PyProof.Rows L2
theorem inA_str {z : Str} {names : List Str} : inA (.str z) (names.map .str) = decide (z ∈ names) := by
  unfold inA
  rw [List.any_map, Bool.eq_iff_iff, List.any_eq_true]
  simp only [decide_eq_true_eq]
  constructor
  · rintro ⟨x, hx, e⟩
    have : (x == z) = true := e
    rw [← eq_of_beq this]; exact hx
  · intro h
    exact ⟨z, h, (by show (z == z) = true; simp)⟩
theorem flat_strs (names : List Str) : (names.map Val.str).all flatA = true := by
  rw [List.all_map, List.all_eq_true]; intro x _; rfl
theorem bo_names_of (N : List Str) (hN : N.length = 2) : ∀ as h Q E, as.length = 1 → S_names_of as h Q E → den_names_of (startA N as) h (endsR Q) (RX E) := by
  rintro as h Q E - ⟨b, rfl, hl, q⟩
  have q := RT.same q
  unfold den_names_of
  simp only [startA, hN]
  show dLc _ _ _ _ _ _ _ _ _
  refine lc_map (items := b.lands.map encL) (ok := fun _ => True) (fun v => .str (nmOf v)) (fun R r => by simpa [encB, atI, ixN] using r) (fun _ _ => trivial) (by rw [List.length_map]; exact sl1000 (by omega)) (fun v hv => ?_) ?_
  · obtain ⟨l, -, rfl⟩ := List.mem_map.mp hv
    refine ⟨_, rfl, fun h' Q' _ q' => ?_⟩
    simpa [encL, atI, ixN, nmOf] using q'
  · refine Qv q ?_
    simp [Book.names, encL, nmOf]
end DL
namespace DL
open PySem PySem.Spec PyProof.Rows L2
def den__law_draw : SD := (sSeq (sDPut (dVar 1) (dC (.str "count")) (dBin fAdd (dDGet (dVar 1) (dC (.str "count"))) (dC (.int 1)))) (sSeq (sSet 3 (dIfE (dTruth (dVar 0)) (dBin fMod (dDGet (dVar 1) (dC (.str "count"))) (dCB fLen (aCons (dVar 0) aNil))) (dC (.int 0)))) (sSeq (sSet 4 (dDGet2 (dDGet (dVar 1) (dC (.str "rests"))) (dVar 3) (dIfE (dTruth (dVar 0)) (dBin fIx (dVar 0) (dVar 3)) (dC (.int 0))))) (sSeq (sIf (dTest (dBin fGe (dVar 4) (dBin fPow (dC (.int 10)) (dC (.int 18))))) (sSeq (sDPut (dDGet (dVar 1) (dC (.str "rests"))) (dVar 3) (dBin fDiv (dVar 4) (dVar 2))) (sRet (dBin fMod (dVar 4) (dVar 2)))) sNext) (sSeq (sSet 5 (dBin fMod (dBin fAdd (dVar 4) (dBin fMulA (dC (.int 104729)) (dDGet (dVar 1) (dC (.str "count"))))) (dC (.int 4294967291)))) (sSeq (sSet 5 (dBin fMod (dBin fPow (dVar 5) (dC (.int 5))) (dC (.int 4294967279)))) (sRet (dBin fMod (dBin fDiv (dBin fMod (dBin fAdd (dBin fMulA (dBin fDiv (dVar 5) (dC (.int 64))) (dC (.int 69621))) (dVar 5)) (dC (.int 4294967231))) (dC (.int 8))) (dVar 2)))))))))
def den__law_begun : SD := (sRet (dDisp [((dC (.str "count")), (dC (.int 0))), ((dC (.str "rests")), dNewK)]))
def den__law_a_book : SD := (sSeq (sPar [2, 3, 4] (aCons (dSl fSl (dTup (aCons (dC (.str "ash")) (aCons (dC (.str "elm")) (aCons (dC (.str "fir")) aNil)))) oNone (oSome (dBin fAdd (dC (.int 1)) (dCall 3 S__law_draw (aCons (dVar 0) (aCons (dVar 1) (aCons (dC (.int 3)) aNil))))))) (aCons (dLstH aNil) (aCons (dLstH aNil) aNil)))) (sSeq (sFor (dIt (dVar 2)) (.nm 5) (sSeq (sSet 6 (dBin fAdd (dC (.int 1)) (dCall 3 S__law_draw (aCons (dVar 0) (aCons (dVar 1) (aCons (dC (.int 6)) aNil)))))) (sExpr (dBM "list" fAppend (dVar 3) (aCons (dTup (aCons (dVar 5) (aCons (dBin fAdd (dC (.int 1)) (dCall 3 S__law_draw (aCons (dVar 0) (aCons (dVar 1) (aCons (dVar 6) aNil))))) (aCons (dVar 6) (aCons (dCall 3 S__law_draw (aCons (dVar 0) (aCons (dVar 1) (aCons (dC (.int 9)) aNil)))) aNil))))) aNil))))) (sSeq (sFor (dIt (dVar 2)) (.nm 7) (sFor (dIt (dVar 2)) (.nm 8) (sIf (dAnd (dTest (dBin fNe (dVar 7) (dVar 8))) (dTest (dBin fEq (dCall 3 S__law_draw (aCons (dVar 0) (aCons (dVar 1) (aCons (dC (.int 3)) aNil)))) (dC (.int 0))))) (sExpr (dBM "list" fAppend (dVar 4) (aCons (dTup (aCons (dVar 7) (aCons (dVar 8) aNil))) aNil))) sNext))) (sRet (dTup (aCons (dCB fTuple (aCons (dVar 3) aNil)) (aCons (dCB fTuple (aCons (dVar 4) aNil)) aNil)))))))
def den__law_a_heap : SD := (sSeq (sPar [4, 5] (aCons (dLstH aNil) (aCons (dLc (dIt (dBin fIx (dVar 2) (dC (.int 0)))) (.nm 8) tTrue (dBin fIx (dVar 8) (dC (.int 0))) [8]) aNil))) (sSeq (sFor (dRange1 (aCons (dBin fAdd (dC (.int 1)) (dCall 3 S__law_draw (aCons (dVar 0) (aCons (dVar 1) (aCons (dVar 3) aNil))))) aNil)) (.nm 6) (sSeq (sSet 7 (dBin fAdd (dC (.int 1)) (dCall 3 S__law_draw (aCons (dVar 0) (aCons (dVar 1) (aCons (dBin fIx (dLst (aCons (dC (.int 9)) (aCons (dC (.int 40)) aNil))) (dCall 3 S__law_draw (aCons (dVar 0) (aCons (dVar 1) (aCons (dC (.int 2)) aNil))))) aNil)))))) (sExpr (dBM "list" fAppend (dVar 4) (aCons (dTup (aCons (dVar 7) (aCons (dBin fIx (dBin fAdd (dBin fAdd (dVar 5) (dVar 5)) (dLst (aCons (dC .non) aNil))) (dCall 3 S__law_draw (aCons (dVar 0) (aCons (dVar 1) (aCons (dBin fAdd (dBin fMulA (dC (.int 2)) (dCB fLen (aCons (dVar 5) aNil))) (dC (.int 1))) aNil))))) aNil))) aNil))))) (sRet (dCB fTuple (aCons (dVar 4) aNil)))))
end DL
namespace DL
open PySem PySem.Spec PyProof.Rows L2
theorem nd_len : ∀ (n : Nat) (l : List Nat), l.Nodup → (∀ x ∈ l, x < n) → l.length ≤ n
  | 0, [], _, _ => Nat.le_refl _
  | 0, x :: l, _, h => absurd (h x List.mem_cons_self) (Nat.not_lt_zero _)
  | n + 1, l, nd, h => by
    by_cases hm : n ∈ l
    · have := nd_len n (l.erase n) (nd.erase n) fun x hx => by
        have := (nd.mem_erase_iff).mp hx
        have := h x this.2
        have : x ≠ n := ‹x ≠ n ∧ _›.1
        omega
      rw [List.length_erase_of_mem hm] at this
      omega
    · have := nd_len n l nd fun x hx => by
        have := h x hx
        have : x ≠ n := fun e => hm (e ▸ hx)
        omega
      omega
theorem RsOk.len {rs : List (Key × Val)} (k : RsOk rs) : rs.length ≤ 64 := by
  obtain ⟨ks, e, nd, lt, -⟩ := k
  have := congrArg List.length e
  rw [List.length_map, List.length_map] at this
  rw [this]
  exact nd_len 64 ks nd lt
theorem RsOk.put {rs : List (Key × Val)} (k : RsOk rs) {i : Nat} (hi : i < 64) (z : Int) : RsOk (putA rs (.inl (i : Int)) (.int z)) := by
  obtain ⟨ks, e, nd, lt, iv⟩ := k
  unfold putA
  split
  · refine ⟨ks, ?_, nd, lt, ?_⟩
    · rw [List.map_map, ← e]
      refine List.map_congr_left fun kv _ => ?_
      show (if kv.1 = _ then (kv.1, _) else kv).1 = kv.1
      split <;> rfl
    · intro kv hkv
      obtain ⟨kw, hw, rfl⟩ := List.mem_map.mp hkv
      split
      · exact ⟨_, rfl⟩
      · exact iv kw hw
  · rename_i hn
    refine ⟨ks ++ [i], by rw [List.map_append, List.map_append, e]; rfl, ?_, ?_, ?_⟩
    · rw [List.nodup_append]
      refine ⟨nd, by simp, ?_⟩
      intro a ha b hb hab
      rw [List.mem_singleton] at hb
      subst hb; subst hab
      apply hn
      have : (Sum.inl (a : Int) : Key) ∈ rs.map (·.1) := by rw [e]; exact List.mem_map.mpr ⟨a, ha, rfl⟩
      obtain ⟨kv, hkv, ek⟩ := List.mem_map.mp this
      exact List.any_eq_true.mpr ⟨kv, hkv, by rw [ek]; simp⟩
    · intro k hk
      rcases List.mem_append.mp hk with h | h
      · exact lt k h
      · rw [List.mem_singleton] at h; omega
    · intro kv hkv
      rcases List.mem_append.mp hkv with h | h
      · exact iv kv h
      · rw [List.mem_singleton] at h; subst h; exact ⟨_, rfl⟩
theorem RsOk.val {rs : List (Key × Val)} (k : RsOk rs) (i : Int) : valA rs (.inl i) = none ∨ ∃ z, valA rs (.inl i) = some (.int z) := by
  obtain ⟨ks, e, nd, lt, iv⟩ := k
  unfold valA
  cases hf : rs.find? fun kv => decide (kv.1 = Sum.inl i) with
  | none => exact .inl rfl
  | some kv =>
    obtain ⟨z, hz⟩ := iv kv (List.mem_of_find?_eq_some hf)
    exact .inr ⟨z, by rw [Option.map_some, hz]⟩
theorem put_count (c z : Int) (r : Addr) : putA [((.inr "count" : Key), Val.int c), (.inr "rests", .ref r)] (.inr "count") (.int z) = [(.inr "count", .int z), (.inr "rests", .ref r)] := by
  simp [putA, show ¬ Str.ofString "rests" = Str.ofString "count" by decide]
theorem val_count (c : Int) (r : Addr) : valA [((.inr "count" : Key), Val.int c), (.inr "rests", .ref r)] (.inr "count") = some (.int c) := by
  simp [valA]
theorem val_rests (c : Int) (r : Addr) : valA [((.inr "count" : Key), Val.int c), (.inr "rests", .ref r)] (.inr "rests") = some (.ref r) := by
  simp [valA, show ¬ Str.ofString "count" = Str.ofString "rests" by decide]
theorem bo__law_draw (N : List Str) (hN : N.length = 6) : ∀ as h Q E, as.length = 3 → S__law_draw as h Q E → den__law_draw (startA N as) h (endsR Q) (RX E) := by
  rintro as h Q E - ⟨ns, t, r, m, rfl, m1, m2, nl, T, q⟩
  obtain ⟨c, c0, ht⟩ := T.tc
  obtain ⟨rs, hr, ro⟩ := T.rc
  have ne := T.ne
  -- the town behind the first deed
  have h1 : ∃ h1, h1 = put h t (.dK [(.inr "count", .int (c + 1)), (.inr "rests", .ref r)]) := ⟨_, rfl⟩
  obtain ⟨h1, e1⟩ := h1
  have h1t : h1 t = some (.dK [(.inr "count", .int (c + 1)), (.inr "rests", .ref r)]) := by rw [e1, put_same]
  have h1r : h1 r = some (.dK rs) := by rw [e1, put_ne ne.symm]; exact hr
  have o1 : Only t r h h1 := fun a x y => by rw [e1, put_ne x]
  have T1 : Town t r h1 := ⟨ne, ⟨c + 1, by omega, h1t⟩, ⟨rs, h1r, ro⟩⟩
  have p1 : dputA (.ref t) (.str "count") (.int (c + 1)) h = some h1 := by
    simp only [dputA, ht, keyOf]
    rw [if_pos (by show 2 < sizeLine; decide), put_count, e1]
  -- what is drawn
  have fin : ∀ (at' : Nat) (z : Int), at' < 64 → sSeq (sIf (dTest (dBin fGe (dVar 4) (dBin fPow (dC (.int 10)) (dC (.int 18))))) (sSeq (sDPut (dDGet (dVar 1) (dC (.str "rests"))) (dVar 3) (dBin fDiv (dVar 4) (dVar 2))) (sRet (dBin fMod (dVar 4) (dVar 2)))) sNext) (sSeq (sSet 5 (dBin fMod (dBin fAdd (dVar 4) (dBin fMulA (dC (.int 104729)) (dDGet (dVar 1) (dC (.str "count"))))) (dC (.int 4294967291)))) (sSeq (sSet 5 (dBin fMod (dBin fPow (dVar 5) (dC (.int 5))) (dC (.int 4294967279)))) (sRet (dBin fMod (dBin fDiv (dBin fMod (dBin fAdd (dBin fMulA (dBin fDiv (dVar 5) (dC (.int 64))) (dC (.int 69621))) (dVar 5)) (dC (.int 4294967231))) (dC (.int 8))) (dVar 2))))) [some (.scr ns), some (.ref t), some (.int m), some (.int at'), some (.int z), none] h1 (endsR Q) (RX E) := fun at' z ha => by
    by_cases hz : 10 ^ 18 ≤ z
    · have pw : CPow 10 18 := ⟨by decide, by decide, by decide⟩
      have dv : CDiv z m := ⟨m1, m2⟩
      have p2 : dputA (.ref r) (.int at') (.int (z / m)) h1 = some (put h1 r (.dK (putA rs (.inl (at' : Int)) (.int (z / m))))) := by
        simp only [dputA, h1r, keyOf]
        rw [if_pos (by have := ro.len; rw [sizeLine_eq]; omega)]
      have hz' : (1000000000000000000 : Int) ≤ z := hz
      have fg : ∀ P : Val → Hv → Prop, P (.bl true) h1 → fGe (.int z) (.int 1000000000000000000) h1 P := fun P p => by
        show P (.bl (decide _)) h1
        rw [show decide ((1000000000000000000 : Int) ≤ z) = true from decide_eq_true hz']
        exact p
      simp [pw, dv, h1t, val_rests, p2, m1, hz']
      refine RT.same (q _ _ (Int.emod_nonneg _ (by omega)) (Int.emod_lt_of_pos _ m1) ⟨ne, ⟨c + 1, by omega, by rw [put_ne ne]; exact h1t⟩, ⟨_, put_same, ro.put ha _⟩⟩ fun a x y => by rw [put_ne y]; exact o1 a x y)
    · have pw : CPow 10 18 := ⟨by decide, by decide, by decide⟩
      have hz' : ¬ (1000000000000000000 : Int) ≤ z := hz
      obtain ⟨u, eu⟩ : ∃ u, u = (z + 104729 * (c + 1)) % 4294967291 := ⟨_, rfl⟩
      have u0 : 0 ≤ u := by rw [eu]; exact Int.emod_nonneg _ (by decide)
      have u1 : u < 4294967291 := by rw [eu]; exact Int.emod_lt_of_pos _ (by decide)
      have pw2 : CPow u 5 := ⟨by decide, by decide, by
        have : (2:Nat) ^ 64 = 18446744073709551616 := by decide
        omega⟩
      obtain ⟨w, ew⟩ : ∃ w, w = u ^ 5 % 4294967279 := ⟨_, rfl⟩
      have w0 : 0 ≤ w := by rw [ew]; exact Int.emod_nonneg _ (by decide)
      have cm : CMul 104729 (c + 1) := .inl ⟨by decide, by decide⟩
      have cm2 : CMul (w / 64) 69621 := .inr ⟨by decide, by decide⟩
      have cd1 : CDiv w 64 := ⟨by decide, by decide⟩
      have cd2 : ∀ x, CDiv x 8 := fun _ => ⟨by decide, by decide⟩
      simp [pw, hz', h1t, val_count, cm, ← eu, pw2, ← ew, cd1, cm2, cd2, m1]
      exact RT.same (q _ _ (Int.emod_nonneg _ (by omega)) (Int.emod_lt_of_pos _ m1) T1 o1)
  unfold den__law_draw
  simp only [startA, hN]
  generalize hg : sSeq (sIf (dTest (dBin fGe (dVar 4) (dBin fPow (dC (.int 10)) (dC (.int 18))))) (sSeq (sDPut (dDGet (dVar 1) (dC (.str "rests"))) (dVar 3) (dBin fDiv (dVar 4) (dVar 2))) (sRet (dBin fMod (dVar 4) (dVar 2)))) sNext) (sSeq (sSet 5 (dBin fMod (dBin fAdd (dVar 4) (dBin fMulA (dC (.int 104729)) (dDGet (dVar 1) (dC (.str "count"))))) (dC (.int 4294967291)))) (sSeq (sSet 5 (dBin fMod (dBin fPow (dVar 5) (dC (.int 5))) (dC (.int 4294967279)))) (sRet (dBin fMod (dBin fDiv (dBin fMod (dBin fAdd (dBin fMulA (dBin fDiv (dVar 5) (dC (.int 64))) (dC (.int 69621))) (dVar 5)) (dC (.int 4294967231))) (dC (.int 8))) (dVar 2))))) = dd at fin ⊢
  cases ns with
  | nil =>
    have := fun z => fin 0 z (by decide)
    simp only [sSeq, sDPut, dBin, dDGet, dVar, dC, sSet, dIfE, dTruth, dDGet2]
    rcases ro.val 0 with e | ⟨z, e⟩
    · simp [ht, h1t, h1r, val_count, val_rests, p1, e]
      exact this 0
    · simp [ht, h1t, h1r, val_count, val_rests, p1, e]
      exact this z
  | cons n ns =>
    rw [List.length_cons] at nl
    obtain ⟨k, ek⟩ : ∃ k : Nat, (c + 1) % ((ns.length : Int) + 1) = k := ⟨((c + 1) % ((ns.length : Int) + 1)).toNat, by
      have := Int.emod_nonneg (c + 1) (b := (ns.length : Int) + 1) (by omega)
      omega⟩
    have hk : k < ns.length + 1 := by
      have := Int.emod_lt_of_pos (c + 1) (b := (ns.length : Int) + 1) (by omega)
      omega
    have := fun z => fin k z (by omega)
    have at1 : ∃ z, atI ((n :: ns).map Val.int) (k : Int) = some (.int z) := by
      have hk' : k < ((n :: ns).map Val.int).length := by simpa using hk
      refine ⟨(n :: ns)[k]'(by simpa using hk), ?_⟩
      rw [atI_nat hk', List.getElem_map]
    obtain ⟨z0, ez0⟩ := at1
    rw [List.map_cons] at ez0
    have lp : (0 : Int) < (ns.length : Int) + 1 := by omega
    simp only [sSeq, sDPut, dBin, dDGet, dVar, dC, sSet, dIfE, dTruth, dDGet2]
    rcases ro.val k with e | ⟨z, e⟩
    · simp [ht, h1t, h1r, val_count, val_rests, p1, e, ek, ez0, lp]
      exact this z0
    · simp [ht, h1t, h1r, val_count, val_rests, p1, e, ek, ez0, lp]
      exact this z
theorem bo__law_begun (N : List Str) (hN : N.length = 0) : ∀ as h Q E, as.length = 0 → S__law_begun as h Q E → den__law_begun (startA N as) h (endsR Q) (RX E) := by
  rintro as h Q E - ⟨rfl, q⟩
  unfold den__law_begun
  simp only [startA, hN]
  simp [dDisp, dPairs]
  intro t ht r hr
  have ne : t ≠ r := fun e => by rw [e, put_same] at hr; cases hr
  have e : putA (putA [] (Sum.inr (Str.ofString "count")) (Val.int 0)) (Sum.inr (Str.ofString "rests")) (Val.ref r) = [((.inr "count" : Key), Val.int 0), (.inr "rests", .ref r)] := by
    simp [putA, show ¬ Str.ofString "count" = Str.ofString "rests" by decide]
  rw [e]
  refine RT.same (q t r _ ht (by rw [put_ne ne.symm] at hr; exact hr) ⟨ne, ⟨0, by decide, put_same⟩, ⟨[], by rw [put_ne ne.symm, put_same], [], rfl, List.nodup_nil, by simp, by simp⟩⟩ fun a x y => by rw [put_ne x, put_ne y, put_ne x])
def dropAll (ps : List Addr) (h : Hv) : Hv := fun a => if a ∈ ps then none else h a
theorem dropAll_less {ps : List Addr} {h : Hv} (nb : ∀ p ∈ ps, h p ≠ some .busy) : Lss h (dropAll ps h) := ⟨fun a => by
  unfold dropAll; split
  · exact .inl rfl
  · exact .inr rfl, fun a e => by
  unfold dropAll; split
  · rename_i m; exact absurd e (nb a m)
  · exact e⟩
def Ext (t r : Addr) (ps : List Addr) (h h' : Hv) : Prop := ∀ a, a ≠ t → a ≠ r → a ∉ ps → h' a = h a
theorem Ext.only {t r : Addr} {ps : List Addr} {h h' : Hv} (e : Ext t r ps h h') (f : ∀ p ∈ ps, h p = none) : Only t r h (dropAll ps h') := fun a x y => by
  unfold dropAll
  split
  · rename_i m; exact (f a m).symm
  · rename_i m; exact e a x y m
theorem Town.dropAll {t r : Addr} {ps : List Addr} {h : Hv} (T : Town t r h) (n1 : t ∉ ps) (n2 : r ∉ ps) : Town t r (dropAll ps h) :=
  ⟨T.ne, by
    obtain ⟨c, c0, e⟩ := T.tc
    exact ⟨c, c0, by unfold DL.dropAll; rw [if_neg n1]; exact e⟩, by
    obtain ⟨rs, e, k⟩ := T.rc
    exact ⟨rs, by unfold DL.dropAll; rw [if_neg n2]; exact e, k⟩⟩
theorem Town.put {t r p : Addr} {o : Ob} {h : Hv} (T : Town t r h) (n1 : p ≠ t) (n2 : p ≠ r) : Town t r (DL.put h p o) :=
  ⟨T.ne, by
    obtain ⟨c, c0, e⟩ := T.tc
    exact ⟨c, c0, by rw [put_ne n1.symm]; exact e⟩, by
    obtain ⟨rs, e, k⟩ := T.rc
    exact ⟨rs, by rw [put_ne n2.symm]; exact e, k⟩⟩
theorem Town.some {t r : Addr} {h : Hv} (T : Town t r h) : h t ≠ none ∧ h r ≠ none := by
  obtain ⟨c, c0, e⟩ := T.tc
  obtain ⟨rs, e2, k⟩ := T.rc
  exact ⟨by rw [e]; simp, by rw [e2]; simp⟩
theorem Town.fresh {t r p : Addr} {h : Hv} (T : Town t r h) (e : h p = none) : p ≠ t ∧ p ≠ r :=
  ⟨fun q => T.some.1 (q ▸ e), fun q => T.some.2 (q ▸ e)⟩
def threeN (names : List Str) : Prop := ∃ k, 1 ≤ k ∧ k ≤ 3 ∧ names = (["ash", "elm", "fir"] : List Str).take k
theorem take3 {n : Int} (h0 : 0 ≤ n) (h3 : n < 3) : ∃ names, threeN names ∧ cutA [Val.str "ash", .str "elm", .str "fir"] none (some (1 + n)) = names.map .str := by
  rcases (show n = 0 ∨ n = 1 ∨ n = 2 by omega) with rfl | rfl | rfl
  · exact ⟨_, ⟨1, by omega, by omega, rfl⟩, rfl⟩
  · exact ⟨_, ⟨2, by omega, by omega, rfl⟩, rfl⟩
  · exact ⟨_, ⟨3, by omega, by omega, rfl⟩, rfl⟩
theorem threeN.len {names : List Str} (h : threeN names) : 1 ≤ names.length ∧ names.length ≤ 3 := by
  obtain ⟨k, h1, h3, rfl⟩ := h
  rw [List.length_take]
  show 1 ≤ min k 3 ∧ min k 3 ≤ 3
  omega
def prs (names : List Str) (x : Str) : List (Str × Str) := (names.filter fun y => decide (x ≠ y)).map fun y => (x, y)
def pairsOf (names : List Str) : List (Str × Str) := names.flatMap (prs names)
theorem drawn_wf {b : Book} (nm : threeN b.names) (sh : ∀ l ∈ b.lands, 1 ≤ l.p ∧ l.p ≤ l.q ∧ l.q ≤ 6 ∧ 0 ≤ l.pr ∧ l.pr ≤ 8) (ps : b.pacts.Sublist (pairsOf b.names)) : Drawn b := by
  have hl : b.lands.length = b.names.length := by unfold Book.names; rw [List.length_map]
  have h3 := nm.len
  have ln := ps.length_le
  obtain ⟨k, k1, k3, ek⟩ := nm
  have pu : (pairsOf b.names).Pairwise fun x y => x.1.cps.toList < y.1.cps.toList ∨ (x.1 = y.1 ∧ x.2.cps.toList < y.2.cps.toList) := by
    rw [ek]
    rcases (show k = 1 ∨ k = 2 ∨ k = 3 by omega) with rfl | rfl | rfl <;> decide
  have pl : (pairsOf b.names).length ≤ 16 := by
    rw [ek]
    rcases (show k = 1 ∨ k = 2 ∨ k = 3 by omega) with rfl | rfl | rfl <;> decide
  refine ⟨⟨by omega, by omega, ?_, fun l hl => ?_, ?_, fun p hp => ?_, pu.sublist ps, by omega⟩, ⟨k, k1, k3, ek⟩, sh⟩
  · intro l hl
    have : l.nm ∈ (["ash", "elm", "fir"] : List Str) := by
      have : l.nm ∈ b.names := List.mem_map.mpr ⟨l, hl, rfl⟩
      rw [ek] at this
      exact List.mem_of_mem_take this
    rcases List.mem_cons.mp this with e | this
    · rw [e]; decide
    rcases List.mem_cons.mp this with e | this
    · rw [e]; decide
    rw [List.mem_singleton.mp this]; decide
  · have := sh l hl; omega
  · rw [ek]
    rcases (show k = 1 ∨ k = 2 ∨ k = 3 by omega) with rfl | rfl | rfl <;> decide
  · obtain ⟨x, hx, hy⟩ := List.mem_flatMap.mp (ps.subset hp)
    obtain ⟨y, hy', rfl⟩ := List.mem_map.mp hy
    have := List.mem_filter.mp hy'
    exact ⟨hx, this.1, of_decide_eq_true this.2⟩
theorem draw_ask {ns : List Int} {t r : Addr} {m : Int} {h : Hv} {Q : PV} {E : PF} (nl : ns.length ≤ 63) (m0 : 0 < m) (m1 : m < 1073741824) (T : Town t r h) (q : ∀ n h', 0 ≤ n → n < m → Town t r h' → Only t r h h' → Q (.int n) h') : S__law_draw [.scr ns, .ref t, .int m] h Q E := ⟨ns, t, r, m, rfl, m0, m1, nl, T, q⟩
theorem bo__law_a_book (N : List Str) (hN : N.length = 9) : ∀ as h Q E, as.length = 2 → S__law_a_book as h Q E → den__law_a_book (startA N as) h (endsR Q) (RX E) := by
  rintro as h0 Q E - ⟨ns, t, r, rfl, nl, T0, q⟩
  unfold den__law_a_book
  simp only [startA, hN]
  generalize hL1 : sFor (dIt (dVar 2)) (.nm 5) _ = L1
  generalize hL2 : sFor (dIt (dVar 2)) (.nm 7) _ = L2
  generalize hR : sRet (dTup _) = R
  simp
  refine ⟨by decide, draw_ask nl (by decide) (by decide) T0 fun n h1 n0 n3 T1 o1 => ?_⟩
  obtain ⟨names, tn, en⟩ := take3 n0 n3
  have nlen := tn.len
  simp [en]
  intro pl hpl pp hpp
  obtain ⟨l1, l2⟩ := T1.fresh hpl
  have T2 := T1.put (o := .lst []) l1 l2
  obtain ⟨p1, p2⟩ := T2.fresh hpp
  have T3 := T2.put (o := .lst []) p1 p2
  have lp : pl ≠ pp := fun e => by rw [e, put_same] at hpp; cases hpp
  have hpp1 : h1 pp = none := by rw [put_ne lp.symm] at hpp; exact hpp
  have h0l : h0 pl = none := by rw [← o1 pl l1 l2]; exact hpl
  have h0p : h0 pp = none := by rw [← o1 pp p1 p2]; exact hpp1
  have x3 : Ext t r [pl, pp] h0 (put (put h1 pl (.lst [])) pp (.lst [])) := fun a x y z => by
    simp at z
    rw [put_ne z.2, put_ne z.1]; exact o1 a x y
  -- the first loop
  subst hL1
  refine for_ind (fun vs ρ h => ∃ (done : List Land) (rest : List Str) (x5 x6 : Option Val), vs = rest.map .str ∧ names = done.map (·.nm) ++ rest ∧ ρ = [some (.scr ns), some (.ref t), some (.tup (names.map .str)), some (.ref pl), some (.ref pp), x5, x6, none, none] ∧ h pl = some (.lst (done.map encL)) ∧ h pp = some (.lst []) ∧ Town t r h ∧ Ext t r [pl, pp] h0 h ∧ ∀ l ∈ done, 1 ≤ l.p ∧ l.p ≤ l.q ∧ l.q ≤ 6 ∧ 0 ≤ l.pr ∧ l.pr ≤ 8) ?_ ?_ _ _ _ ⟨[], names, none, none, rfl, rfl, rfl, by rw [put_ne lp, put_same]; rfl, put_same, T3, x3, by simp⟩
  · rintro ρ h ⟨done, rest, x5, x6, e1, e2, rfl, gl, gp, T, x, sh⟩
    refine ⟨trivial, ?_⟩
    have : rest = [] := by cases rest with
      | nil => rfl
      | cons _ _ => cases e1
    subst this
    rw [List.append_nil] at e2
    show L2 _ _ _ _
    -- the second loop
    subst hL2
    have eT : dIt (dVar 2) = dIt (dVar 2) := rfl
    refine for_ind (fun vs ρ h => ∃ (pre rest : List Str) (ps : List (Str × Str)) (x5 x6 x7 x8 : Option Val), vs = rest.map .str ∧ names = pre ++ rest ∧ ρ = [some (.scr ns), some (.ref t), some (.tup (names.map .str)), some (.ref pl), some (.ref pp), x5, x6, x7, x8] ∧ h pl = some (.lst (done.map encL)) ∧ h pp = some (.lst (ps.map encP)) ∧ Town t r h ∧ Ext t r [pl, pp] h0 h ∧ ps.Sublist (pre.flatMap (prs names)) ∧ ps.length ≤ 3 * pre.length) ?_ ?_ _ _ _ ⟨[], names, [], x5, x6, none, none, rfl, rfl, rfl, gl, gp, T, x, List.nil_sublist _, Nat.zero_le _⟩
    · rintro ρ h ⟨pre, rest, ps, x5, x6, x7, x8, e1, e3, rfl, gl, gp, T, x, sl, pln⟩
      have : rest = [] := by cases rest with
        | nil => rfl
        | cons _ _ => cases e1
      subst this
      rw [List.append_nil] at e3
      refine ⟨trivial, ?_⟩
      subst hR
      dsimp only
      simp [gl, gp]
      refine ⟨by decide, RT.less (dropAll_less (ps := [pl, pp]) ?_) (q ⟨done, ps⟩ _ (drawn_wf (b := ⟨done, ps⟩) ?_ sh ?_) (T.dropAll ?_ ?_) (x.only ?_))⟩
      · intro p hp
        simp at hp
        rcases hp with rfl | rfl
        · rw [gl]; simp
        · rw [gp]; simp
      · show threeN (done.map (·.nm))
        rw [← e2]; exact tn
      · show ps.Sublist (pairsOf (done.map (·.nm)))
        rw [← e2]
        rw [← e3] at sl
        exact sl
      · simp [l1.symm, p1.symm]
      · simp [l2.symm, p2.symm]
      · intro p hp
        simp at hp
        rcases hp with rfl | rfl
        · exact h0l
        · exact h0p
    · rintro v vs ρ h ⟨pre, rest, ps, x5, x6, x7, x8, e1, e3, rfl, gl, gp, T, x, sl, pln⟩
      cases rest with
      | nil => cases e1
      | cons z rest =>
        rw [List.map_cons, List.cons.injEq] at e1
        obtain ⟨rfl, rfl⟩ := e1
        refine ⟨trivial, _, rfl, fun N hN => ?_⟩
        show forL _ _ _ _ _ _ _ _
        refine for_ind (fun vs ρ h => ∃ (gpre grest : List Str) (ps : List (Str × Str)) (x5 x6 x8 : Option Val), vs = grest.map .str ∧ names = gpre ++ grest ∧ ρ = [some (.scr ns), some (.ref t), some (.tup (names.map .str)), some (.ref pl), some (.ref pp), x5, x6, some (.str z), x8] ∧ h pl = some (.lst (done.map encL)) ∧ h pp = some (.lst (ps.map encP)) ∧ Town t r h ∧ Ext t r [pl, pp] h0 h ∧ ps.Sublist (pre.flatMap (prs names) ++ prs gpre z) ∧ ps.length ≤ 3 * pre.length + gpre.length) ?_ ?_ _ _ _ ⟨[], names, ps, x5, x6, x8, rfl, rfl, rfl, gl, gp, T, x, by simpa [prs] using sl, pln⟩
        · rintro ρ h ⟨gpre, grest, ps, x5, x6, x8, e1, e4, rfl, gl, gp, T, x, sl, pln⟩
          have : grest = [] := by cases grest with
            | nil => rfl
            | cons _ _ => cases e1
          subst this
          rw [List.append_nil] at e4
          refine ⟨trivial, hN _ _ ⟨pre ++ [z], rest, ps, x5, x6, some (.str z), x8, rfl, by rw [e3]; simp, rfl, gl, gp, T, x, ?_⟩⟩
          have : names.length = gpre.length := by rw [e4]
          rw [← e4] at sl
          exact ⟨by simpa using sl, by rw [List.length_append, List.length_singleton]; omega⟩
        · rintro v vs ρ h ⟨gpre, grest, ps, x5, x6, x8, e1, e4, rfl, gl, gp, T, x, sl, pln⟩
          cases grest with
          | nil => cases e1
          | cons y grest =>
            rw [List.map_cons, List.cons.injEq] at e1
            obtain ⟨rfl, rfl⟩ := e1
            refine ⟨trivial, _, rfl, fun N hN => ?_⟩
            have l3 := congrArg List.length e3
            rw [List.length_append, List.length_cons] at l3
            have l4 := congrArg List.length e4
            rw [List.length_append, List.length_cons] at l4
            have gl5 : (ps.map encP).length < sizeLine := by rw [List.length_map, sizeLine_eq]; omega
            have sub1 : ps.Sublist (pre.flatMap (prs names) ++ prs (gpre ++ [y]) z) := by
              refine sl.trans ?_
              unfold prs
              rw [List.filter_append, List.map_append]
              exact List.Sublist.append_left (List.sublist_append_left _ _) _
            have e4' : names = (gpre ++ [y]) ++ grest := by rw [e4]; simp
            have lg : (gpre ++ [y]).length = gpre.length + 1 := by simp
            by_cases hzy : z = y
            · subst hzy
              simp
              exact hN _ _ ⟨gpre ++ [z], grest, ps, x5, x6, some (.str z), rfl, e4', rfl, gl, gp, T, x, sub1, by omega⟩
            · have hzy' : (z == y) = false := by simpa using hzy
              simp [dBM, hzy, hzy']
              refine draw_ask nl (by decide) (by decide) T fun n1 h1 a0 a1 T1 o1 => ?_
              have gl1 : h1 pl = some (.lst (done.map encL)) := by rw [o1 pl l1 l2]; exact gl
              have gp1 : h1 pp = some (.lst (ps.map encP)) := by rw [o1 pp p1 p2]; exact gp
              have x1 : Ext t r [pl, pp] h0 h1 := fun a u v w => (o1 a u v).trans (x a u v w)
              by_cases hn : n1 = 0
              · subst hn
                simp [tyA, fAppend, gp1]
                refine ⟨by decide, by simpa using gl5, hN _ _ ⟨gpre ++ [y], grest, ps ++ [(z, y)], x5, x6, some (.str y), rfl, e4', rfl, by rw [put_ne lp]; exact gl1, by rw [put_same]; simp [encP], T1.put p1 p2, ?_, ?_, by rw [List.length_append, List.length_singleton]; omega⟩⟩
                · intro a u v w
                  have : a ≠ pp := fun e => w (by rw [e]; simp)
                  rw [put_ne this]; exact x1 a u v w
                · unfold prs
                  rw [List.filter_append, List.map_append, ← List.append_assoc]
                  refine List.Sublist.append sl ?_
                  simp [hzy]
              · have hn' : (n1 == 0) = false := by simpa using hn
                simp [hn, hn']
                exact hN _ _ ⟨gpre ++ [y], grest, ps, x5, x6, some (.str y), rfl, e4', rfl, gl1, gp1, T1, x1, sub1, by omega⟩
  · rintro v vs ρ h ⟨done, rest, x5, x6, e1, e2, rfl, gl, gp, T, x, sh⟩
    refine ⟨trivial, ?_⟩
    cases rest with
    | nil => cases e1
    | cons z rest =>
      rw [List.map_cons, List.cons.injEq] at e1
      obtain ⟨rfl, rfl⟩ := e1
      refine ⟨_, rfl, fun N hN => ?_⟩
      simp [dBM]
      refine draw_ask nl (by decide) (by decide) T fun n1 h1 a0 a1 T1 o1 => ?_
      dsimp only
      have gl1 : h1 pl = some (.lst (done.map encL)) := by rw [o1 pl l1 l2]; exact gl
      refine ⟨by simp [tyA, gl1], draw_ask nl (by omega) (by omega) T1 fun n2 h2 b0 b1 T2 o2 => ?_⟩
      dsimp only
      refine draw_ask nl (by decide) (by decide) T2 fun n3 h3 c0 c1 T3 o3 => ⟨by decide, ?_⟩
      have o13 := o1.trans (o2.trans o3)
      have gl3 : h3 pl = some (.lst (done.map encL)) := by rw [o13 pl l1 l2]; exact gl
      have gp3 : h3 pp = some (.lst []) := by rw [o13 pp p1 p2]; exact gp
      have dl : done.length ≤ 3 := by
        have := congrArg List.length e2
        rw [List.length_append, List.length_map] at this
        omega
      simp only [fAppend, gl3]
      refine ⟨by rw [List.length_map, sizeLine_eq]; omega, hN _ _ ⟨done ++ [⟨z, 1 + n2, 1 + n1, n3⟩], rest, some (.str z), some (.int (1 + n1)), rfl, by rw [e2]; simp, rfl, ?_, ?_, T3.put l1 l2, ?_, ?_⟩⟩
      · rw [put_same, List.map_append]; rfl
      · rw [put_ne lp.symm]; exact gp3
      · intro a u v w
        have : a ≠ pl := fun e => w (by rw [e]; simp)
        rw [put_ne this, o13 a u v]; exact x a u v w
      · intro l hl
        rcases List.mem_append.mp hl with e | e
        · exact sh l e
        · rw [List.mem_singleton.mp e]
          show 1 ≤ 1 + n2 ∧ 1 + n2 ≤ 1 + n1 ∧ 1 + n1 ≤ 6 ∧ 0 ≤ n3 ∧ n3 ≤ 8
          omega
end DL
namespace DL
open PySem PySem.Spec PyProof.Rows L2
theorem nm_lc {di : ID} {j : Nat} {vs : List Nat} {ρ : Sl} {h : Hv} {Q : PV} {E : PX} {ls : List Land} (hl : ls.length ≤ 1000) (hdi : ∀ R : Itr → Hv → Prop, R ⟨ls.map encL, fun _ => True⟩ h → di ρ h R E) (hj : j < (wipeA ρ vs).length)
    (q : Q (.lst ((ls.map (·.nm)).map .str)) h) : dLc di (.nm j) tTrue (dBin fIx (dVar j) (dC (.int 0))) vs ρ h Q E := by
  refine lc_map (items := ls.map encL) (ok := fun _ => True) (fun v => .str (nmOf v)) hdi (fun _ _ => trivial) (by rw [List.length_map]; exact sl1000 hl) (fun v hv => ?_) ?_
  · obtain ⟨l, -, rfl⟩ := List.mem_map.mp hv
    refine ⟨_, rfl, fun h' Q' _ q' => ?_⟩
    simp [hj]
    simpa [encL, atI, ixN, nmOf] using q'
  · refine Qv q ?_
    simp [encL, nmOf]
theorem pick_from (names : List Str) {n : Int} (h0 : 0 ≤ n) (h1 : n < 2 * (names.length : Int) + 1) : ∃ o : Option Str, atI ((names.map Val.str ++ names.map Val.str) ++ [Val.non]) n = some (encO o) ∧ ∀ z, o = some z → z ∈ names := by
  have hl : ((names.map Val.str ++ names.map Val.str) ++ [Val.non]).length = 2 * names.length + 1 := by simp; omega
  obtain ⟨hk, e⟩ := atI_int (xs := (names.map Val.str ++ names.map Val.str) ++ [Val.non]) h0 (by rw [hl]; omega)
  rw [e]
  have := List.getElem_mem hk
  generalize ((names.map Val.str ++ names.map Val.str) ++ [Val.non])[n.toNat]'hk = v at this
  simp at this
  rcases this with ⟨z, hz, rfl⟩ | rfl
  · exact ⟨some z, rfl, fun y e => by cases e; exact hz⟩
  · exact ⟨none, rfl, fun y e => by cases e⟩
theorem bo__law_a_heap (N : List Str) (hN : N.length = 9) : ∀ as h Q E, as.length = 4 → S__law_a_heap as h Q E → den__law_a_heap (startA N as) h (endsR Q) (RX E) := by
  rintro as h0 Q E - ⟨ns, t, r, b, most, rfl, nl, m1, m8, bl, T0, q⟩
  unfold den__law_a_heap
  simp only [startA, hN]
  generalize hL : sFor _ (.nm 6) _ = L
  generalize hR : sRet (dCB fTuple _) = R
  generalize hd : dLc _ _ _ _ _ = dn
  simp
  intro pf hpf
  obtain ⟨f1, f2⟩ := T0.fresh hpf
  subst hd
  refine nm_lc (ls := b.lands) (by omega) (fun R r => by simpa [encB, atI, ixN] using r) (by simp [wipeA]) ?_
  obtain ⟨names, en⟩ : ∃ names, names = b.lands.map (·.nm) := ⟨_, rfl⟩
  have nlen : names.length ≤ 4 := by rw [en, List.length_map]; exact bl
  rw [← en]
  subst hL
  have T1 := T0.put (o := .lst []) f1 f2
  simp
  refine draw_ask nl (by omega) (by omega) T1 fun n h1 n0 n1 T2 o2 => ?_
  dsimp only
  refine ⟨by omega, by omega, ?_⟩
  refine for_ind (fun vs ρ h => ∃ (done : Heap') (x6 x7 : Option Val), (done.length : Int) + vs.length = 1 + n ∧ ρ = [some (.scr ns), some (.ref t), some (encB b), some (.int most), some (.ref pf), some (.lst (names.map .str)), x6, x7, none] ∧ h pf = some (.lst (done.map encR)) ∧ Town t r h ∧ Ext t r [pf] h0 h ∧ (∀ x ∈ done, 1 ≤ x.1 ∧ x.1 ≤ 40) ∧ ∀ x ∈ done, ∀ z, x.2 = some z → z ∈ names) ?_ ?_ _ _ _ ⟨[], none, none, by simp; omega, by simp, by rw [o2 pf f1 f2, put_same]; rfl, T2, fun a u v w => by rw [o2 a u v, put_ne (by simpa using w)], by simp, by simp⟩
  · rintro ρ h ⟨done, x6, x7, hl, rfl, gf, T, x, w1, w2⟩
    refine ⟨trivial, ?_⟩
    subst hR
    simp at hl
    simp [gf]
    refine RT.less (dropAll_less (ps := [pf]) ?_) (q done _ ⟨by omega, by omega, w1, ?_⟩ (T.dropAll (by simpa using f1.symm) (by simpa using f2.symm)) (x.only ?_))
    · intro p hp
      rw [List.mem_singleton.mp hp, gf]; simp
    · rw [en] at w2; exact w2
    · intro p hp
      rw [List.mem_singleton.mp hp]; exact hpf
  · rintro v vs ρ h ⟨done, x6, x7, hl, rfl, gf, T, x, w1, w2⟩
    refine ⟨trivial, _, rfl, fun N hN => ?_⟩
    have cm : CMul 2 (names.length : Int) := .inl ⟨by decide, by decide⟩
    simp [dBM]
    refine ⟨by decide, draw_ask nl (by decide) (by decide) T fun n1 h1 a0 a1 T1 o1 => ?_⟩
    dsimp only
    have : ∃ m, atI [Val.int 9, Val.int 40] n1 = some (.int m) ∧ 0 < m ∧ m ≤ 40 := by
      rcases (show n1 = 0 ∨ n1 = 1 by omega) with rfl | rfl
      · exact ⟨9, rfl, by decide, by decide⟩
      · exact ⟨40, rfl, by decide, by decide⟩
    obtain ⟨m, em, m0, m40⟩ := this
    rw [em]
    dsimp only
    refine draw_ask nl m0 (by omega) T1 fun n2 h2 b0 b1 T2 o2 => ?_
    have gf2 : h2 pf = some (.lst (done.map encR)) := by rw [(o1.trans o2) pf f1 f2]; exact gf
    have s1 : names.length + names.length ≤ sizeLine := by rw [sizeLine_eq]; omega
    have s2 : names.length + names.length + 1 ≤ sizeLine := by rw [sizeLine_eq]; omega
    simp [tyA, gf2, s1, s2, cm]
    refine ⟨by decide, draw_ask nl (by omega) (by omega) T2 fun n3 h3 c0 c1 T3 o3 => ?_⟩
    obtain ⟨o, eo, ho⟩ := pick_from names c0 c1
    rw [List.append_assoc] at eo
    dsimp only
    rw [eo]
    have o13 := o1.trans (o2.trans o3)
    have gf3 : h3 pf = some (.lst (done.map encR)) := by rw [o13 pf f1 f2]; exact gf
    dsimp only
    rw [List.length_cons] at hl
    simp [fAppend, gf3]
    refine ⟨by decide, by rw [sizeLine_eq]; omega, hN _ _ ⟨done ++ [(1 + n2, o)], _, _, by rw [List.length_append, List.length_singleton]; omega, rfl, by rw [put_same]; simp [encR], T3.put f1 f2, ?_, ?_, ?_⟩⟩
    · intro a u v w
      rw [put_ne (by simpa using w), o13 a u v]; exact x a u v w
    · intro y hy
      rcases List.mem_append.mp hy with e | e
      · exact w1 y e
      · rw [List.mem_singleton.mp e]
        show 1 ≤ 1 + n2 ∧ 1 + n2 ≤ 40
        omega
    · intro y hy
      rcases List.mem_append.mp hy with e | e
      · exact w2 y e
      · rw [List.mem_singleton.mp e]; exact ho
theorem Drawn.short {b : Book} (d : Drawn b) : ∀ z ∈ b.names, z ∈ (["ash", "elm", "fir"] : List Str) := fun z hz => by
  obtain ⟨k, -, -, e⟩ := d.nm
  rw [e] at hz
  exact List.mem_of_mem_take hz
theorem ix_lands {b : Book} {h : Hv} {Q : PV} : fIx (encB b) (.int 0) h Q = Q (.tup (b.lands.map encL)) h := rfl
end DL
namespace DL
open PySem PySem.Spec PyProof.Rows L2
def den_row_of : SD := (sRet (dBin fIx (dLc (dIt (dBin fIx (dVar 0) (dC (.int 0)))) (.nm 2) (dTest (dBin fEq (dBin fIx (dVar 2) (dC (.int 0))) (dVar 1))) (dVar 2) [2]) (dC (.int 0))))
def den__law_a_tree : SD := (sSeq (sAsg (.tp [(.nm 4), (.nm 5)]) (dTup (aCons (dCB fListH (aCons (dVar 3) aNil)) (aCons (dC (.int 0)) aNil)))) (sSeq (sWhile (dOr (dTest (dBin fGt (dCB fLen (aCons (dVar 4) aNil)) (dC (.int 1)))) (dAnd (dTest (dBin fEq (dVar 5) (dC (.int 0)))) (dTest (dBin fEq (dCall 3 S__law_draw (aCons (dVar 0) (aCons (dVar 1) (aCons (dC (.int 3)) aNil)))) (dC (.int 0)))))) (sSeq (sSet 6 (dCB fMin2 (aCons (dCB fLen (aCons (dVar 4) aNil)) (aCons (dBin fAdd (dIfE (dTest (dBin fLtI (dVar 5) (dC (.int 4)))) (dC (.int 1)) (dC (.int 2))) (dCall 3 S__law_draw (aCons (dVar 0) (aCons (dVar 1) (aCons (dC (.int 3)) aNil))))) aNil)))) (sSeq (sSet 7 (dLc (dRange1 (aCons (dVar 6) aNil)) (.nm 8) tTrue (dBM "list" fPopAt (dVar 4) (aCons (dCall 3 S__law_draw (aCons (dVar 0) (aCons (dVar 1) (aCons (dCB fLen (aCons (dVar 4) aNil)) aNil)))) aNil)) [8])) (sSeq (sExpr (dBM "list" fAppend (dVar 4) (aCons (dTup (aCons (dBin fIx (dBin fIx (dBin fIx (dVar 2) (dC (.int 0))) (dCall 3 S__law_draw (aCons (dVar 0) (aCons (dVar 1) (aCons (dCB fLen (aCons (dBin fIx (dVar 2) (dC (.int 0))) aNil)) aNil))))) (dC (.int 0))) (aCons (dCB fTuple (aCons (dVar 7) aNil)) aNil))) aNil))) (sSet 5 (dBin fAdd (dVar 5) (dC (.int 1)))))))) (sRet (dBin fIx (dVar 4) (dC (.int 0))))))
end DL
namespace DL
open PySem PySem.Spec PyProof.Rows L2
theorem row_lc {h : Hv} {Q : PV} {E : PX} {b : Book} {z : Str} {l : Land} (bl : b.lands.length ≤ 4) (hl : rowA b z = some l) (q : Q (encL l) h) :
    dBin fIx (dLc (dIt (dBin fIx (dVar 0) (dC (.int 0)))) (.nm 2) (dTest (dBin fEq (dBin fIx (dVar 2) (dC (.int 0))) (dVar 1))) (dVar 2) [2]) (dC (.int 0)) [some (encB b), some (.str z), none] h Q E := by
  show dLc _ _ _ _ _ _ _ _ _
  refine lc_filt (items := b.lands.map encL) (ok := fun _ => True) (fun v => decide (nmOf v = z)) (fun v => v) (fun R r => by simp only [sSet, sFor, sIf, sRet, sExpr, sPar, sAsg, sSeq, sNext, sAug, dIt, dTup, dLst, dLstH, dCB, dCall, dCallK, dBin, dUn, dTest, dChain, dIfE, aCons, aNil, dVar, dC, dTruth, dNot, dAnd, dOr, vAnd, vOr, vNot, dBM, dSl, dRev, oSome, oNone]; simpa [↓ix_lands] using r) (fun _ _ => trivial) (by rw [List.length_map]; exact sl1000 (by omega)) (fun v hv => ?_) ?_
  · obtain ⟨l, -, rfl⟩ := List.mem_map.mp hv
    refine ⟨_, rfl, fun h' Q' _ q' => ?_, fun _ h' Q' _ q' => by simpa using q'⟩
    simp only [sSet, sFor, sIf, sRet, sExpr, sPar, sAsg, sSeq, sNext, sAug, dIt, dTup, dLst, dLstH, dCB, dCall, dCallK, dBin, dUn, dTest, dChain, dIfE, aCons, aNil, dVar, dC, dTruth, dNot, dAnd, dOr, vAnd, vOr, vNot, dBM, dSl, dRev, oSome, oNone]
    simp [encL, atI, ixN]
    simp only [encL, nmOf] at q'
    by_cases e : l.nm = z
    · simpa [e] using q'
    · have : (l.nm == z) = false := by simpa using e
      simpa [e, this] using q'
  · have e : ((b.lands.map encL).filter fun v => decide (nmOf v = z)).map (fun v => v) = (b.lands.filter fun l => decide (l.nm = z)).map encL := by
      rw [List.map_id', List.filter_map]; rfl
    rw [e]
    unfold rowA at hl
    cases hf : b.lands.filter fun l => decide (l.nm = z) with
    | nil => rw [hf] at hl; cases hl
    | cons x r =>
      rw [hf] at hl
      cases hl
      simp only [sSet, sFor, sIf, sRet, sExpr, sPar, sAsg, sSeq, sNext, sAug, dIt, dTup, dLst, dLstH, dCB, dCall, dCallK, dBin, dUn, dTest, dChain, dIfE, aCons, aNil, dVar, dC, dTruth, dNot, dAnd, dOr, vAnd, vOr, vNot, dBM, dSl, dRev, oSome, oNone]
      simp [atI_zero]
      exact q
theorem bo_row_of (N : List Str) (hN : N.length = 3) : ∀ as h Q E, as.length = 2 → S_row_of as h Q E → den_row_of (startA N as) h (endsR Q) (RX E) := by
  rintro as h Q E - ⟨b, z, l, rfl, bl, hl, q⟩
  unfold den_row_of
  simp only [startA, hN]
  exact row_lc bl hl (RT.same q)
end DL
namespace DL
open PySem PySem.Spec PyProof.Rows L2
theorem enc_node (z : Str) (ts : List Tree) : (Tree.node z ts).enc = .tup [.str z, .tup (ts.map Tree.enc)] := by rw [Tree.enc, encTs_map]
theorem things_node (z : Str) (ts : List Tree) : (Tree.node z ts).things = ts.flatMap Tree.things := by rw [Tree.things, thingsTs_map]
theorem lands_node (z : Str) (ts : List Tree) : (Tree.node z ts).lands = z :: ts.flatMap Tree.lands := by rw [Tree.lands, landsTs_map]
theorem ht_node {z : Str} {ts : List Tree} {d : Nat} (h : (Tree.node z ts).ht < d + 1) : ∀ t ∈ ts, t.ht < d := fun t ht => by
  have := htTs_mem ht
  rw [Tree.ht] at h
  omega
theorem len_mem {α β : Type} {f : α → List β} : ∀ {xs : List α} {x : α}, x ∈ xs → (f x).length ≤ (xs.flatMap f).length
  | y :: xs, x, h => by
    rw [List.flatMap_cons, List.length_append]
    rcases List.mem_cons.mp h with e | e
    · rw [e]; omega
    · have := len_mem (f := f) e; omega
theorem rowA_some {b : Book} {z : Str} (h : z ∈ b.names) : ∃ l, rowA b z = some l ∧ l ∈ b.lands ∧ l.nm = z := by
  obtain ⟨l, hl, e⟩ := List.mem_map.mp h
  unfold rowA
  cases hf : b.lands.filter fun l => decide (l.nm = z) with
  | nil =>
    have : l ∈ b.lands.filter fun l => decide (l.nm = z) := List.mem_filter.mpr ⟨hl, by simpa using e⟩
    rw [hf] at this; cases this
  | cons x r =>
    have : x ∈ b.lands.filter fun l => decide (l.nm = z) := by rw [hf]; exact List.mem_cons_self
    have := List.mem_filter.mp this
    exact ⟨x, rfl, this.1, by simpa using this.2⟩
end DL
namespace DL
open PySem PySem.Spec PyProof.Rows L2
theorem perm_erase {α : Type} : ∀ {l : List α} {i : Nat} (h : i < l.length), l.Perm (l[i] :: l.eraseIdx i)
  | x :: l, 0, _ => List.Perm.refl _
  | x :: l, i + 1, h => by
    have h' : i < l.length := by simpa using h
    exact ((perm_erase h').cons x).trans (List.Perm.swap _ _ _)
theorem erase_map {α β : Type} {f : α → β} : ∀ (l : List α) (i : Nat), (l.map f).eraseIdx i = (l.eraseIdx i).map f
  | [], _ => rfl
  | x :: l, 0 => rfl
  | x :: l, i + 1 => by
    rw [List.map_cons, List.eraseIdx_cons_succ, List.eraseIdx_cons_succ, List.map_cons, erase_map l i]
theorem Town.only {t r : Addr} {h h' : Hv} (T : Town t r h) (o : ∀ a, (a = t ∨ a = r) → h' a = h a) : Town t r h' :=
  ⟨T.ne, by rw [o t (.inl rfl)]; exact T.tc, by rw [o r (.inr rfl)]; exact T.rc⟩
structure Lefts (b : Book) (ths : List Int) (turns : Nat) (left : List Tree) : Prop where
  pm : (left.flatMap Tree.things).Perm ths
  n1 : 1 ≤ left.length
  ok : ∀ tr ∈ left, tr.okT b.names ∧ tr.ht ≤ turns ∧ okN (2 * turns) tr.enc = true
  ld : (left.flatMap Tree.lands).length = turns
  tb : turns ≤ 4 ∨ turns + left.length ≤ 4 + ths.length
  ll : left.length ≤ ths.length
theorem some_pops {b : Book} {ns : List Int} {t r pl : Addr} {h : Hv} {Q : PV} {E : PX} {left : List Tree} {many : Nat} {x3 x5 x7 x8 : Option Val} (nl : ns.length ≤ 63) (l1 : pl ≠ t) (l2 : pl ≠ r) (T : Town t r h) (gl : h pl = some (.lst (left.map Tree.enc))) (lm : many ≤ left.length) (l8 : left.length ≤ 8)
    (q : ∀ (got rest : List Tree) (h' : Hv), (got ++ rest).Perm left → got.length = many → Town t r h' → h' pl = some (.lst (rest.map Tree.enc)) → (∀ a, a ≠ t → a ≠ r → a ≠ pl → h' a = h a) → Q (.lst (got.map Tree.enc)) h') :
    dLc (dRange1 (aCons (dVar 6) aNil)) (.nm 8) tTrue (dBM "list" fPopAt (dVar 4) (aCons (dCall 3 S__law_draw (aCons (dVar 0) (aCons (dVar 1) (aCons (dCB fLen (aCons (dVar 4) aNil)) aNil)))) aNil)) [8] [some (.scr ns), some (.ref t), some (encB b), x3, some (.ref pl), x5, some (.int many), x7, x8] h Q E := by
  refine lc_ind (items := (List.range many).map fun i => Val.int (0 + (i : Nat))) (ok := fun _ => True) (fun D items acc h' => ∃ got rest : List Tree, acc = got.map Tree.enc ∧ (got ++ rest).Perm left ∧ got.length + items.length = many ∧ Town t r h' ∧ h' pl = some (.lst (rest.map Tree.enc)) ∧ h D = none ∧ h' D = some .busy ∧ ∀ a, a ≠ t → a ≠ r → a ≠ pl → a ≠ D → h' a = h a) (fun R rr => ?_) (fun D hD => ?_) ?_ ?_
  · simp only [dRange1, sSet, sFor, sIf, sRet, sExpr, sPar, sAsg, sSeq, sNext, sAug, dIt, dTup, dLst, dLstH, dCB, dCall, dCallK, dBin, dUn, dTest, dChain, dIfE, aCons, aNil, dVar, dC, dTruth, dNot, dAnd, dOr, vAnd, vOr, vNot, dBM, dSl, dRev, oSome, oNone]
    simp
    exact ⟨by omega, by simpa using rr⟩
  · obtain ⟨d1, d2⟩ := T.fresh hD
    have d3 : pl ≠ D := fun e => by rw [← e, gl] at hD; cases hD
    exact ⟨[], left, rfl, List.Perm.refl _, by simp, T.put d1 d2, by rw [put_ne d3]; exact gl, hD, put_same, fun a _ _ _ ha => put_ne ha⟩
  · rintro D acc h' ⟨got, rest, rfl, pm, gl', T', g', hD, hb, fr⟩
    obtain ⟨d1, d2⟩ := T.fresh hD
    have d3 : pl ≠ D := fun e => by rw [← e, gl] at hD; cases hD
    refine ⟨trivial, q got rest _ pm (by simpa using gl') (T'.only fun a ha => ?_) (by rw [drop_ne d3]; exact g') fun a a1 a2 a3 => ?_⟩
    · refine drop_ne ?_
      rcases ha with e | e
      · rw [e]; exact d1.symm
      · rw [e]; exact d2.symm
    · by_cases ha : a = D
      · rw [ha, drop_same, hD]
      · rw [drop_ne ha]; exact fr a a1 a2 a3 ha
  · rintro D v items acc h' ⟨got, rest, rfl, pm, gl', T', g', hD, hb, fr⟩
    obtain ⟨d1, d2⟩ := T.fresh hD
    have d3 : pl ≠ D := fun e => by rw [← e, gl] at hD; cases hD
    have pl' := pm.length_eq
    rw [List.length_append] at pl'
    rw [List.length_cons] at gl'
    refine ⟨trivial, _, rfl, fun N hN => ?_⟩
    simp only [tTrue, if_true]
    simp only [sSet, sFor, sIf, sRet, sExpr, sPar, sAsg, sSeq, sNext, sAug, dIt, dTup, dLst, dLstH, dCB, dCall, dCallK, dBin, dUn, dTest, dChain, dIfE, aCons, aNil, dVar, dC, dTruth, dNot, dAnd, dOr, vAnd, vOr, vNot, dBM, dSl, dRev, oSome, oNone]
    simp [wipeA, tyA, g']
    refine draw_ask nl (by omega) (by omega) T' fun n h2 n0 n1 T2 o2 => ?_
    have g2 : h2 pl = some (.lst (rest.map Tree.enc)) := by rw [o2 pl l1 l2]; exact g'
    have hn : n.toNat < rest.length := by omega
    simp only [fPopAt, g2]
    have e1 : (rest.map Tree.enc)[n.toNat]? = some (rest[n.toNat].enc) := by simp [hn]
    rw [e1]
    refine ⟨⟨n0, by omega⟩, by rw [sizeLine_eq]; omega, hN _ _ ⟨got ++ [rest[n.toNat]], rest.eraseIdx n.toNat, by simp, ?_, by rw [List.length_append, List.length_singleton]; omega, T2.put l1 l2, ?_, hD, ?_, fun a a1 a2 a3 a4 => ?_⟩⟩
    · rw [List.append_assoc]
      exact ((perm_erase hn).symm.append_left got).trans pm
    · rw [put_same]
      congr 2
      exact erase_map _ _
    · rw [put_ne d3.symm, o2 D d1 d2]; exact hb
    · rw [put_ne a3, o2 a a1 a2]; exact fr a a1 a2 a3 a4
theorem flat_perm {α β : Type} {f : α → List β} : ∀ {l m : List α}, l.Perm m → (l.flatMap f).Perm (m.flatMap f) := fun p => by
  induction p with
  | nil => exact List.Perm.refl _
  | cons x _ ih => rw [List.flatMap_cons, List.flatMap_cons]; exact ih.append_left _
  | swap x y l =>
    rw [List.flatMap_cons, List.flatMap_cons, List.flatMap_cons, List.flatMap_cons, ← List.append_assoc, ← List.append_assoc]
    exact List.perm_append_comm.append_right _
  | trans _ _ i j => exact i.trans j
theorem Lefts.next {b : Book} {ths : List Int} {turns : Nat} {left got rest : List Tree} {z : Str} (L : Lefts b ths turns left) (pm : (got ++ rest).Perm left) (hz : z ∈ b.names) (nz : ∀ z ∈ b.names, okN 0 (.str z) = true) (g1 : 1 ≤ got.length) (g2 : 4 ≤ turns → 2 ≤ got.length) (l8 : ths.length ≤ 8) : Lefts b ths (turns + 1) (rest ++ [.node z got]) := by
  have pl := pm.length_eq
  rw [List.length_append] at pl
  have okg : ∀ tr ∈ got ++ rest, tr.okT b.names ∧ tr.ht ≤ turns ∧ okN (2 * turns) tr.enc = true := fun tr h => L.ok tr (pm.subset h)
  have ne : got ≠ [] := fun e => by rw [e] at g1; simp at g1
  refine ⟨?_, by simp, fun tr htr => ?_, ?_, ?_, ?_⟩
  · rw [List.flatMap_append, List.flatMap_cons, List.flatMap_nil, List.append_nil, things_node]
    refine List.perm_append_comm.trans ?_
    have := flat_perm (f := Tree.things) pm
    rw [List.flatMap_append] at this
    exact this.trans L.pm
  · rcases List.mem_append.mp htr with e | e
    · have := okg tr (List.mem_append_right _ e)
      exact ⟨this.1, by omega, okN_le this.2.2 (by omega)⟩
    · rw [List.mem_singleton.mp e]
      refine ⟨by rw [Tree.okT, okTs_iff]; exact ⟨hz, ne, fun t ht => (okg t (List.mem_append_left _ ht)).1⟩, ?_, ?_⟩
      · rw [Tree.ht]
        have := htTs_le (ts := got) (k := turns) fun t ht => (okg t (List.mem_append_left _ ht)).2.1
        omega
      · rw [enc_node, show 2 * (turns + 1) = (2 * turns + 1) + 1 by omega, okN_tup]
        refine ⟨fun v hv => ?_, (by decide : 2 ≤ 1000)⟩
        rcases List.mem_cons.mp hv with e | e
        · rw [e]; exact okN_le (nz z hz) (Nat.zero_le _)
        · rw [List.mem_singleton.mp e, okN_tup]
          refine ⟨fun v hv => ?_, by rw [List.length_map]; have := L.ll; omega⟩
          obtain ⟨t, ht, rfl⟩ := List.mem_map.mp hv
          exact (okg t (List.mem_append_left _ ht)).2.2
  · rw [List.flatMap_append, List.flatMap_cons, List.flatMap_nil, List.append_nil, lands_node, List.length_append, List.length_cons]
    have := (flat_perm (f := Tree.lands) pm).length_eq
    rw [List.flatMap_append, List.length_append, L.ld] at this
    omega
  · have := L.tb
    have := L.ll
    rw [List.length_append, List.length_singleton]
    by_cases h4 : 4 ≤ turns
    · have := g2 h4
      right
      omega
    · left; omega
  · have := L.ll
    rw [List.length_append, List.length_singleton]
    omega
theorem bo__law_a_tree (N : List Str) (hN : N.length = 9) : ∀ as h Q E, as.length = 4 → S__law_a_tree as h Q E → den__law_a_tree (startA N as) h (endsR Q) (RX E) := by
  rintro as h0 Q E - ⟨ns, t, r, b, ths, rfl, nl, b1, b4, nz, t1, t8, T0, q⟩
  unfold den__law_a_tree
  simp only [startA, hN]
  refine seq_o fun K hK => ?_
  simp only [sSet, sFor, sIf, sRet, sExpr, sPar, sAsg, sSeq, sNext, sAug, dIt, dTup, dLst, dLstH, dCB, dCall, dCallK, dBin, dUn, dTest, dChain, dIfE, aCons, aNil, dVar, dC, dTruth, dNot, dAnd, dOr, vAnd, vOr, vNot, dBM, dSl, dRev, oSome, oNone]
  simp
  intro pl hpl
  refine ⟨by decide, ?_⟩
  obtain ⟨l1, l2⟩ := T0.fresh hpl
  subst hK
  refine seq_o fun K hK => ?_
  generalize hdd : sSeq (sSet 6 _) _ = dd
  revert dd
  refine opq fun dd hdd => ?_
  have h00 : ∀ k : Nat, okN 0 (.int (k : Int)) = true := fun _ => rfl
  -- one turn
  have turn : ∀ (left : List Tree) (turns : Nat) (x6 x7 : Option Val) (h : Hv) (N : Sl → Hv → Prop) (D : AE), Lefts b ths turns left → (turns = 0 ∨ 2 ≤ left.length) → h pl = some (.lst (left.map Tree.enc)) → Town t r h → Ext t r [pl] h0 h →
      (∀ (left' : List Tree) (x6 x7 : Option Val) (h' : Hv), Lefts b ths (turns + 1) left' → left'.length ≤ left.length → (4 ≤ turns → left'.length < left.length) → h' pl = some (.lst (left'.map Tree.enc)) → Town t r h' → Ext t r [pl] h0 h' → N [some (.scr ns), some (.ref t), some (encB b), some (.lst (ths.map .int)), some (.ref pl), some (.int ((turns + 1 : Nat) : Int)), x6, x7, none] h') →
      dd [some (.scr ns), some (.ref t), some (encB b), some (.lst (ths.map .int)), some (.ref pl), some (.int (turns : Int)), x6, x7, none] h { D with nx := N } (RX E) := by
    intro left turns x6 x7 h N D L hturn gl T x hN
    have ll := L.ll
    have ln1 := L.n1
    subst hdd
    refine seq_o fun K hK => ?_
    simp only [sSet, sFor, sIf, sRet, sExpr, sPar, sAsg, sSeq, sNext, sAug, dIt, dTup, dLst, dLstH, dCB, dCall, dCallK, dBin, dUn, dTest, dChain, dIfE, aCons, aNil, dVar, dC, dTruth, dNot, dAnd, dOr, vAnd, vOr, vNot, dBM, dSl, dRev, oSome, oNone]
    simp [gl]
    have fin : ∀ (m n : Int) (h1 : Hv), (1 ≤ m ∧ (4 ≤ turns → 2 ≤ m)) → m ≤ 2 → 0 ≤ n → Town t r h1 → Only t r h h1 → fMin2 [.int (left.length : Int), .int (m + n)] h1 (fun v h1 => K [some (.scr ns), some (.ref t), some (encB b), some (.lst (ths.map .int)), some (.ref pl), some (.int (turns : Int)), some v, x7, none] h1 { D with nx := N } (RX E)) := by
      intro m n h1 hm m2 n0 T1 o1
      obtain ⟨many, em⟩ : ∃ many : Nat, (if m + n < (left.length : Int) then m + n else (left.length : Int)) = (many : Int) := ⟨(if m + n < (left.length : Int) then m + n else (left.length : Int)).toNat, by split <;> omega⟩
      have hmany : many ≤ left.length ∧ 1 ≤ many ∧ (4 ≤ turns → 2 ≤ many) := by
        refine ⟨?_, ?_, fun h4 => ?_⟩
        · split at em <;> omega
        · split at em <;> omega
        · have := hm.2 h4
          split at em <;> omega
      simp only [fMin2]
      rw [em]
      subst hK
      refine seq_o fun K hK => ?_
      simp only [sSet]
      have gl1 : h1 pl = some (.lst (left.map Tree.enc)) := by rw [o1 pl l1 l2]; exact gl
      refine some_pops nl l1 l2 T1 gl1 hmany.1 (by omega) fun got rest h2 pm gm T2 g2 fr => ?_
      subst hK
      refine seq_o fun K hK => ?_
      simp only [sSet, sFor, sIf, sRet, sExpr, sPar, sAsg, sSeq, sNext, sAug, dIt, dTup, dLst, dLstH, dCB, dCall, dCallK, dBin, dUn, dTest, dChain, dIfE, aCons, aNil, dVar, dC, dTruth, dNot, dAnd, dOr, vAnd, vOr, vNot, dBM, dSl, dRev, oSome, oNone]
      simp [tyA, g2, ↓ix_lands]
      refine draw_ask nl (by omega) (by omega) T2 fun nn h3 m0 m1 T3 o3 => ?_
      have g3 : h3 pl = some (.lst (rest.map Tree.enc)) := by rw [o3 pl l1 l2]; exact g2
      obtain ⟨hk, ek⟩ := atI_int (xs := b.lands.map encL) m0 (by rw [List.length_map]; exact m1)
      have hk' : nn.toNat < b.lands.length := by simpa using hk
      rw [List.getElem_map] at ek
      simp only [ek]
      have pl' := pm.length_eq
      rw [List.length_append] at pl'
      simp [encL, atI_zero, fAppend, g3]
      refine ⟨by decide, by rw [sizeLine_eq]; omega, ?_⟩
      subst hK
      simp only [sSet, sFor, sIf, sRet, sExpr, sPar, sAsg, sSeq, sNext, sAug, dIt, dTup, dLst, dLstH, dCB, dCall, dCallK, dBin, dUn, dTest, dChain, dIfE, aCons, aNil, dVar, dC, dTruth, dNot, dAnd, dOr, vAnd, vOr, vNot, dBM, dSl, dRev, oSome, oNone]
      simp
      have zn : (b.lands[nn.toNat]).nm ∈ b.names := List.mem_map.mpr ⟨_, List.getElem_mem hk', rfl⟩
      refine hN (rest ++ [.node (b.lands[nn.toNat]).nm got]) _ _ _ (L.next pm zn nz (by omega) (fun h4 => by have := hmany.2.2 h4; omega) t8) (by rw [List.length_append, List.length_singleton]; omega) (fun h4 => by have := hmany.2.2 h4; rw [List.length_append, List.length_singleton]; omega) ?_ (T3.put l1 l2) fun a a1 a2 a3 => ?_
      · rw [put_same, List.map_append, List.map_cons, List.map_nil, enc_node]
      · have a3' : a ≠ pl := by simpa using a3
        rw [put_ne a3', o3 a a1 a2, fr a a1 a2 a3', o1 a a1 a2]
        exact x a a1 a2 a3
    by_cases h4 : turns < 4
    · have h4' : (turns : Int) < 4 := by omega
      simp [h4']
      refine draw_ask nl (by decide) (by decide) T fun n h1 n0 n1 T1 o1 => ?_
      exact fin 1 n h1 ⟨by decide, fun h => by omega⟩ (by decide) n0 T1 o1
    · have h4' : ¬ (turns : Int) < 4 := by omega
      simp [h4']
      refine draw_ask nl (by decide) (by decide) T fun n h1 n0 n1 T1 o1 => ?_
      exact fin 2 n h1 ⟨by decide, fun h => by decide⟩ (by decide) n0 T1 o1
  have h1t : h0 pl = none := hpl
  refine while_of (fun m ρ h => ∃ (left : List Tree) (turns : Nat) (x6 x7 : Option Val), m = (4 - turns) + left.length ∧ ρ = [some (.scr ns), some (.ref t), some (encB b), some (.lst (ths.map .int)), some (.ref pl), some (.int (turns : Int)), x6, x7, none] ∧ Lefts b ths turns left ∧ h pl = some (.lst (left.map Tree.enc)) ∧ Town t r h ∧ Ext t r [pl] h0 h) (n := (4 - 0) + ths.length)
    ⟨ths.map Tree.leaf, 0, none, none, by simp, rfl, ⟨?_, by simpa using t1, ?_, ?_, .inl (by decide), by simp⟩, ?_, T0.put l1 l2, fun a a1 a2 a3 => put_ne (by simpa using a3)⟩ ?_
  · rw [List.flatMap_map]
    have : ∀ l : List Int, l.flatMap (fun n => (Tree.leaf n).things) = l := fun l => by
      induction l with
      | nil => rfl
      | cons n l ih => rw [List.flatMap_cons, ih]; rfl
    rw [this]
  · intro tr htr
    obtain ⟨n, -, rfl⟩ := List.mem_map.mp htr
    exact ⟨trivial, Nat.le_refl _, rfl⟩
  · rw [List.flatMap_map]
    have : ∀ l : List Int, l.flatMap (fun n => (Tree.leaf n).lands) = [] := fun l => by
      induction l with
      | nil => rfl
      | cons n l ih => rw [List.flatMap_cons, ih]; rfl
    rw [this]; rfl
  · rw [put_same, List.map_map]; rfl
  · rintro m ρ h ⟨left, turns, x6, x7, rfl, rfl, L, gl, T, x⟩ N hN
    have ln1 := L.n1
    have go : (turns = 0 ∨ 2 ≤ left.length) → ∀ h1, h1 pl = some (.lst (left.map Tree.enc)) → Town t r h1 → Ext t r [pl] h0 h1 → dd [some (.scr ns), some (.ref t), some (encB b), some (.lst (ths.map .int)), some (.ref pl), some (.int (turns : Int)), x6, x7, none] h1 { nx := N, rt := RT Q, bk := fun ρ h => K ρ h (endsR Q) (RX E), ct := N } (RX E) := fun hc h1 g1 T1 x1 =>
      turn left turns x6 x7 h1 N { nx := N, rt := RT Q, bk := fun ρ h => K ρ h (endsR Q) (RX E), ct := N } L hc g1 T1 x1 fun left' x6' x7' h' L' le lt g' T' x' => hN _ _ _ (by
        by_cases h4 : 4 ≤ turns
        · have := lt h4; omega
        · omega) ⟨left', turns + 1, x6', x7', rfl, rfl, L', g', T', x'⟩
    have out : left.length = 1 → ∀ h1, h1 pl = some (.lst (left.map Tree.enc)) → Town t r h1 → Ext t r [pl] h0 h1 → K [some (.scr ns), some (.ref t), some (encB b), some (.lst (ths.map .int)), some (.ref pl), some (.int (turns : Int)), x6, x7, none] h1 (endsR Q) (RX E) := by
      intro hl1 h1 g1 T1 x1
      match left, L, hl1, g1 with
      | [tr], L, _, g1 =>
        subst hK
        simp only [sSet, sFor, sIf, sRet, sExpr, sPar, sAsg, sSeq, sNext, sAug, dIt, dTup, dLst, dLstH, dCB, dCall, dCallK, dBin, dUn, dTest, dChain, dIfE, aCons, aNil, dVar, dC, dTruth, dNot, dAnd, dOr, vAnd, vOr, vNot, dBM, dSl, dRev, oSome, oNone]
        simp [g1, atI_zero]
        have ok := L.ok tr (by simp)
        have tb := L.tb
        have ld := L.ld
        have pm := L.pm
        simp at tb ld pm
        refine RT.less (dropAll_less (ps := [pl]) fun p hp => by rw [List.mem_singleton.mp hp, g1]; simp) (q tr _ ok.1 pm (by omega) (by omega) (okN_le ok.2.2 (by omega)) (T1.dropAll (by simpa using l1.symm) (by simpa using l2.symm)) (x1.only fun p hp => by rw [List.mem_singleton.mp hp]; exact hpl))
    simp only [sSet, sFor, sIf, sRet, sExpr, sPar, sAsg, sSeq, sNext, sAug, dIt, dTup, dLst, dLstH, dCB, dCall, dCallK, dBin, dUn, dTest, dChain, dIfE, aCons, aNil, dVar, dC, dTruth, dNot, dAnd, dOr, vAnd, vOr, vNot, dBM, dSl, dRev, oSome, oNone]
    simp [gl]
    by_cases h2 : 2 ≤ left.length
    · have h2' : (1 : Int) < left.length := by omega
      simp [h2']
      exact go (.inr h2) h gl T x
    · have h2' : ¬ (1 : Int) < left.length := by omega
      have hl1 : left.length = 1 := by omega
      simp [h2']
      by_cases h0' : turns = 0
      · subst h0'
        simp
        refine draw_ask nl (by decide) (by decide) T fun n h1 n0 n1 T1 o1 => ?_
        have g1 : h1 pl = some (.lst (left.map Tree.enc)) := by rw [o1 pl l1 l2]; exact gl
        have x1 : Ext t r [pl] h0 h1 := fun a a1 a2 a3 => (o1 a a1 a2).trans (x a a1 a2 a3)
        by_cases hn : n = 0
        · subst hn
          simp
          exact go (.inl rfl) h1 g1 T1 x1
        · have hn' : (n == 0) = false := by simpa using hn
          simp [hn, hn']
          exact out hl1 h1 g1 T1 x1
      · have h0'' : ((turns : Int) == 0) = false := by simpa using h0'
        simp [h0', h0'']
        exact out hl1 h gl T x
end DL
namespace DL
open PySem PySem.Spec PyProof.Rows L2
def den_takes : SD := (sRet (dCB fTuple (aCons (dCB fSorted (aCons (dBin fAdd (dLst (aCons (dVar 1) aNil)) (dLc (dIt (dBin fIx (dVar 0) (dC (.int 1)))) (.tp [(.nm 2), (.nm 3)]) (dTest (dBin fEq (dVar 2) (dVar 1))) (dVar 3) [2, 3])) aNil)) aNil)))
def den_is_enough : SD := (sSeq (sAsg (.tp [(.nm 4), (.nm 5), (.nm 6), (.nm 7)]) (dCall 2 S_row_of (aCons (dVar 0) (aCons (dVar 1) aNil)))) (sRet (dBin fGe (dBin fMulA (dVar 2) (dVar 6)) (dBin fMulA (dVar 3) (dVar 5)))))
def den_valued (R : SpF) : SD := (sSeq (sIf (dNot (dTruth (dCB fIsi (aCons (dVar 2) (aCons (dC (.ty "tuple")) aNil))))) (sSeq (sAsg (.tp [(.nm 5), (.nm 6)]) (dBin fIx (dVar 1) (dVar 2))) (sSeq (sExpr (dBM "list" fAppend (dVar 4) (aCons (dTup (aCons (dVar 3) (aCons (dVar 6) aNil))) aNil))) (sRet (dTup (aCons (dVar 5) (aCons (dVar 5) (aCons (dVar 6) aNil))))))) sNext) (sSeq (sPar [7, 8, 9] (aCons (dCB fLen (aCons (dVar 4) aNil)) (aCons (dC (.int 0)) (aCons (dC (.int 0)) aNil)))) (sSeq (sExpr (dBM "list" fAppend (dVar 4) (aCons (dTup (aCons (dVar 3) (aCons (dC .non) aNil))) aNil))) (sSeq (sFor (dEnum (aCons (dBin fIx (dVar 2) (dC (.int 1))) aNil)) (.tp [(.nm 10), (.nm 11)]) (sSeq (sAsg (.tp [(.nm 5), (.nm 12), (.nm 6)]) (dCall 5 R (aCons (dVar 0) (aCons (dVar 1) (aCons (dVar 11) (aCons (dBin fAdd (dVar 3) (dTup (aCons (dVar 10) aNil))) (aCons (dVar 4) aNil))))))) (sSeq (sAug 8 (fI0 fun i j => .int (i + j)) (dVar 5)) (sAug 9 (fI0 fun i j => .int (i + j)) (dIfE (dAnd (dTest (dBin fNotN (dVar 6) (dC .non))) (dTest (dBin fIn (dVar 6) (dCall 2 S_takes (aCons (dVar 0) (aCons (dBin fIx (dVar 2) (dC (.int 0))) aNil)))))) (dVar 5) (dC (.int 0))))))) (sSeq (sSet 6 (dIfE (dTruth (dCall 4 S_is_enough (aCons (dVar 0) (aCons (dBin fIx (dVar 2) (dC (.int 0))) (aCons (dVar 9) (aCons (dVar 8) aNil)))))) (dBin fIx (dVar 2) (dC (.int 0))) (dC .non))) (sSeq (sLPut (dVar 4) (dVar 7) (dTup (aCons (dVar 3) (aCons (dVar 6) aNil)))) (sRet (dTup (aCons (dVar 8) (aCons (dVar 9) (aCons (dVar 6) aNil)))))))))))
def den_counts_as : SD := (sRet (dBin fIx (dCall 5 S_valued (aCons (dVar 0) (aCons (dVar 1) (aCons (dVar 2) (aCons (dTup aNil) (aCons (dLstH aNil) aNil)))))) (dC (.int 2))))
def den_counting_worth : SD := (sRet (dBin fIx (dCall 5 S_valued (aCons (dVar 0) (aCons (dVar 1) (aCons (dVar 2) (aCons (dTup aNil) (aCons (dLstH aNil) aNil)))))) (dC (.int 1))))
def den_tree_at : SD := (sSeq (sFor (dIt (dVar 1)) (.nm 2) (sSeq (sIf (dOr (dNot (dTruth (dCB fIsi (aCons (dVar 0) (aCons (dC (.ty "tuple")) aNil))))) (dTest (dBin fGe (dVar 2) (dCB fLen (aCons (dBin fIx (dVar 0) (dC (.int 1))) aNil))))) (sRet (dC .non)) sNext) (sSet 0 (dBin fIx (dBin fIx (dVar 0) (dC (.int 1))) (dVar 2))))) (sRet (dVar 0)))
def den__law_at : SD := (sSeq (sFor (dIt (dVar 1)) (.nm 2) (sSet 0 (dBin fIx (dBin fIx (dVar 0) (dC (.int 1))) (dVar 2)))) (sRet (dVar 0)))
end DL
namespace DL
open PySem PySem.Spec PyProof.Rows L2
theorem ix_pacts {b : Book} {h : Hv} {Q : PV} : fIx (encB b) (.int 1) h Q = Q (.tup (b.pacts.map encP)) h := rfl
theorem takes_len (b : Book) (z : Str) : (takesL b z).length ≤ b.pacts.length + 1 := by
  unfold takesL
  rw [(sortZ_perm _).length_eq, List.length_cons, List.length_map]
  have := List.length_filter_le (fun p : Str × Str => decide (p.1 = z)) b.pacts
  omega
theorem intsOf_str (z : Str) (vs : List Val) : intsOf (.str z :: vs) = none := by simp [intsOf]
theorem sorted_strs {z : Str} {zs : List Str} {h : Hv} {Q : PV} (hl : (z :: zs).length < 64) (q : Q (.lst ((sortZ (z :: zs)).map .str)) h) : fSorted [.lst (.str z :: zs.map .str)] h Q := by
  simp only [fSorted, listOf, Option.bind_some, intsOf_str]
  rw [show (Val.str z :: zs.map Val.str) = (z :: zs).map Val.str from rfl, strsOf_map]
  exact ⟨hl, q⟩
theorem bo_takes (N : List Str) (hN : N.length = 4) : ∀ as h Q E, as.length = 2 → S_takes as h Q E → den_takes (startA N as) h (endsR Q) (RX E) := by
  rintro as h Q E - ⟨b, z, rfl, pl, q⟩
  have q := RT.same q
  unfold den_takes
  simp only [startA, hN]
  generalize hd : dLc _ _ _ _ _ = dn
  revert dn
  refine opq fun dn hd => ?_
  simp only [sSet, sFor, sIf, sRet, sExpr, sPar, sAsg, sSeq, sNext, sAug, dIt, dTup, dLst, dLstH, dCB, dCall, dCallK, dBin, dUn, dTest, dChain, dIfE, aCons, aNil, dVar, dC, dTruth, dNot, dAnd, dOr, vAnd, vOr, vNot, dBM, dSl, dRev, oSome, oNone]
  simp
  subst hd
  refine ⟨by decide, lc_filtT (ok := fun _ => True) b.pacts encP (fun p => decide (p.1 = z)) (fun p => .str p.2) (fun R r => by simp only [sSet, sFor, sIf, sRet, sExpr, sPar, sAsg, sSeq, sNext, sAug, dIt, dTup, dLst, dLstH, dCB, dCall, dCallK, dBin, dUn, dTest, dChain, dIfE, aCons, aNil, dVar, dC, dTruth, dNot, dAnd, dOr, vAnd, vOr, vNot, dBM, dSl, dRev, oSome, oNone]; simpa [↓ix_pacts] using r) (fun _ _ => trivial) (sl1000 (by omega)) (fun p hp => ⟨_, rfl, fun h' Q' _ q' => ?_, fun _ h' Q' _ q' => by simpa using q'⟩) ?_⟩
  · simp only [sSet, sFor, sIf, sRet, sExpr, sPar, sAsg, sSeq, sNext, sAug, dIt, dTup, dLst, dLstH, dCB, dCall, dCallK, dBin, dUn, dTest, dChain, dIfE, aCons, aNil, dVar, dC, dTruth, dNot, dAnd, dOr, vAnd, vOr, vNot, dBM, dSl, dRev, oSome, oNone]
    simp
    by_cases e : p.1 = z
    · simpa [e] using q'
    · have : (p.1 == z) = false := by simpa using e
      simpa [e, this] using q'
  · have tl := takes_len b z
    unfold takesL at tl q
    rw [(sortZ_perm _).length_eq, List.length_cons, List.length_map] at tl
    have sz : 1 + (b.pacts.filter fun p => decide (p.1 = z)).length ≤ sizeLine := sl1000 (by omega)
    simp [sz]
    rw [show (List.map (fun p => Val.str p.2) (List.filter (fun p => decide (p.1 = z)) b.pacts)) = ((b.pacts.filter fun p => decide (p.1 = z)).map (·.2)).map Val.str by rw [List.map_map]; rfl]
    refine sorted_strs (by rw [List.length_cons, List.length_map]; omega) ?_
    simpa using q
theorem share_mul {b : Book} {z : Str} (w : WFB b) (hz : z ∈ b.names) : ∃ l, rowA b z = some l ∧ (∀ c : Int, CMul c l.q ∧ CMul c l.p) := by
  obtain ⟨l, h1, h2, -⟩ := rowA_some hz
  have := w.sh l h2
  refine ⟨l, h1, fun c => ⟨.inr ?_, .inr ?_⟩⟩
  · have h : (2 : Int) ^ 64 = 18446744073709551616 := by decide
    omega
  · have h : (2 : Int) ^ 64 = 18446744073709551616 := by decide
    omega
theorem bo_is_enough (N : List Str) (hN : N.length = 8) : ∀ as h Q E, as.length = 4 → S_is_enough as h Q E → den_is_enough (startA N as) h (endsR Q) (RX E) := by
  rintro as h Q E - ⟨b, z, c, w, rfl, wf, hz, q⟩
  have q := RT.same q
  obtain ⟨l, hl, hm⟩ := share_mul wf hz
  unfold den_is_enough
  simp only [startA, hN]
  refine seq_o fun K hK => ?_
  simp only [sSet, sFor, sIf, sRet, sExpr, sPar, sAsg, sSeq, sNext, sAug, dIt, dTup, dLst, dLstH, dCB, dCall, dCallK, dBin, dUn, dTest, dChain, dIfE, aCons, aNil, dVar, dC, dTruth, dNot, dAnd, dOr, vAnd, vOr, vNot, dBM, dSl, dRev, oSome, oNone]
  refine ⟨rfl, b, z, l, rfl, wf.n4, hl, ?_⟩
  simp [encL]
  subst hK
  simp only [sSet, sFor, sIf, sRet, sExpr, sPar, sAsg, sSeq, sNext, sAug, dIt, dTup, dLst, dLstH, dCB, dCall, dCallK, dBin, dUn, dTest, dChain, dIfE, aCons, aNil, dVar, dC, dTruth, dNot, dAnd, dOr, vAnd, vOr, vNot, dBM, dSl, dRev, oSome, oNone]
  simp [hm]
  simpa [enough, hl] using q
theorem ix_heap {hp : Heap'} {n : Int} {h : Hv} {Q : PV} (h0 : 0 ≤ n) (h1 : n < (hp.length : Int)) (q : Q (.tup [.int (rawW hp n), encO (rawL hp n)]) h) : fIx (encH hp) (.int n) h Q := by
  have hk : n.toNat < hp.length := by omega
  obtain ⟨hk', e⟩ := atI_int (xs := hp.map encR) h0 (by rw [List.length_map]; exact h1)
  rw [List.getElem_map] at e
  simp [encH, e]
  simpa [rawW, rawL, hk, encR] using q
end DL
namespace DL
open PySem PySem.Spec PyProof.Rows L2
theorem Tbs.only {Ts : List (Addr × Str)} {t r : Addr} {h h' : Hv} (x : Tbs Ts h) (nt : ∀ q, h t ≠ some (.tab q)) (nr : ∀ q, h r ≠ some (.tab q)) (T' : Town t r h') (on : Only t r h h') : Tbs Ts h' := by
  obtain ⟨c', _, e1'⟩ := T'.tc
  obtain ⟨rs', e2', _⟩ := T'.rc
  refine ⟨fun p hp => ?_, fun b q' e => ?_⟩
  · have := x.has p hp
    rw [on p.1 (fun z => nt p.2 (by rw [← z]; exact this)) (fun z => nr p.2 (by rw [← z]; exact this))]; exact this
  · refine x.all b q' ?_
    rw [← on b (fun z => by rw [z, e1'] at e; cases e) (fun z => by rw [z, e2'] at e; cases e)]; exact e
theorem town_nt {t r : Addr} {h : Hv} (T : Town t r h) : (∀ q, h t ≠ some (.tab q)) ∧ ∀ q, h r ≠ some (.tab q) := by
  obtain ⟨c, _, e1⟩ := T.tc
  obtain ⟨rs, e2, _⟩ := T.rc
  exact ⟨fun q z => (by rw [e1] at z; cases z), fun q z => (by rw [e2] at z; cases z)⟩
theorem Tbs.town {Ts : List (Addr × Str)} {t r : Addr} {h h' : Hv} (x : Tbs Ts h) (T : Town t r h) (T' : Town t r h') (on : Only t r h h') : Tbs Ts h' := x.only (town_nt T).1 (town_nt T).2 T' on
theorem Tbs.begin {Ts : List (Addr × Str)} {t r : Addr} {h h' : Hv} (x : Tbs Ts h) (nt : h t = none) (nr : h r = none) (T' : Town t r h') (on : Only t r h h') : Tbs Ts h' := x.only (fun q z => by rw [nt] at z; cases z) (fun q z => by rw [nr] at z; cases z) T' on
end DL
namespace DL
open PySem PySem.Spec PyProof.Rows L2
def enumFrom (k : Nat) : List Val → List Val
  | [] => []
  | v :: vs => .tup [.int (k : Nat), v] :: enumFrom (k + 1) vs
theorem enumV_from (vs : List Val) : enumV vs = enumFrom 0 vs := by
  have : ∀ (k : Nat) (vs : List Val), (vs.zip (List.range' k vs.length)).map (fun p => Val.tup [.int (p.2 : Nat), p.1]) = enumFrom k vs := fun k vs => by
    induction vs generalizing k with
    | nil => rfl
    | cons v vs ih => rw [List.length_cons, List.range'_succ, List.zip_cons_cons, List.map_cons, ih]; rfl
  unfold enumV
  rw [List.range_eq_range', this]
theorem wholeTs_app (hp : Heap') : ∀ ts us : List Tree, wholeTs hp (ts ++ us) = wholeTs hp ts + wholeTs hp us
  | [], us => by rw [List.nil_append, wholeTs]; omega
  | t :: ts, us => by rw [List.cons_append, wholeTs, wholeTs, wholeTs_app hp ts us]; omega
theorem cntTs_app (b : Book) (hp : Heap') (z : Str) : ∀ ts us : List Tree, cntTs b hp z (ts ++ us) = cntTs b hp z ts + cntTs b hp z us
  | [], us => by rw [List.nil_append, cntTs]; omega
  | t :: ts, us => by
    rw [List.cons_append, cntTs, cntTs, cntTs_app b hp z ts us]; omega
theorem rowsTs_app (b : Book) (hp : Heap') (path : List Int) : ∀ (i : Nat) (ts us : List Tree), rowsTs b hp path i (ts ++ us) = rowsTs b hp path i ts ++ rowsTs b hp path (i + ts.length) us
  | i, [], us => by rw [List.nil_append, rowsTs, List.nil_append]; rfl
  | i, t :: ts, us => by
    rw [List.cons_append, rowsTs, rowsTs, rowsTs_app b hp path (i + 1) ts us, List.append_assoc, List.length_cons, show i + 1 + ts.length = i + (ts.length + 1) by omega]
theorem sizeTs_app : ∀ ts us : List Tree, sizeTs (ts ++ us) = sizeTs ts + sizeTs us
  | [], us => by rw [List.nil_append, sizeTs]; omega
  | t :: ts, us => by rw [List.cons_append, sizeTs, sizeTs, sizeTs_app ts us]; omega
mutual
theorem rows_len (b : Book) (hp : Heap') : ∀ (t : Tree) (path : List Int), (t.rows b hp path).length = t.size
  | .leaf n, path => by rw [Tree.rows, Tree.size]; rfl
  | .node z ts, path => by rw [Tree.rows, Tree.size, List.length_cons, rowsTs_len b hp ts path 0]
theorem rowsTs_len (b : Book) (hp : Heap') : ∀ (ts : List Tree) (path : List Int) (i : Nat), (rowsTs b hp path i ts).length = sizeTs ts
  | [], path, i => by rw [rowsTs, sizeTs]; rfl
  | t :: ts, path, i => by rw [rowsTs, sizeTs, List.length_append, rows_len b hp t _, rowsTs_len b hp ts path (i + 1)]
end
theorem TrOk.mem {b : Book} {hp : Heap'} {z : Str} {ts : List Tree} (k : TrOk b hp (.node z ts)) {t : Tree} (h : t ∈ ts) : TrOk b hp t := by
  have ok := k.ok
  rw [Tree.okT, okTs_iff] at ok
  refine ⟨ok.2.2 t h, fun n hn => k.rg n ?_⟩
  rw [things_node]
  exact List.mem_flatMap.mpr ⟨t, h, hn⟩
theorem TrOk.land {b : Book} {hp : Heap'} {z : Str} {ts : List Tree} (k : TrOk b hp (.node z ts)) : z ∈ b.names := by
  have ok := k.ok
  rw [Tree.okT, okTs_iff] at ok
  exact ok.1
theorem bo_valued (N : List Str) (hN : N.length = 13) (d : Nat) : ∀ as h Q E, as.length = 5 → SR_valued (d + 1) as h Q E → den_valued (SR_valued d) (startA N as) h (endsR Q) (RX E) := by
  rintro as h0 Q E - ⟨b, hp, t, path, p, rows0, rfl, wf, tk, hd, pl, gp, rl, q⟩
  have q := RT.same q
  unfold den_valued
  simp only [startA, hN]
  refine seq_o fun K hK => ?_
  cases t with
  | leaf n =>
    have rg := tk.rg n (by simp [Tree.things])
    rw [Tree.size] at rl
    simp only [sSet, sFor, sIf, sRet, sExpr, sPar, sAsg, sSeq, sNext, sAug, dIt, dTup, dLst, dLstH, dCB, dCall, dCallK, dBin, dUn, dTest, dChain, dIfE, aCons, aNil, dVar, dC, dTruth, dNot, dAnd, dOr, vAnd, vOr, vNot, dBM, dSl, dRev, oSome, oNone]
    simp only [Tree.enc, Tree.whole, Tree.cnt, Tree.land, Tree.rows] at q ⊢
    simp [-fIx, -bT, -bTs]
    refine ix_heap rg.1 rg.2 ?_
    have s2 : (2 : Nat) ≤ sizeLine := by decide
    have s3 : (3 : Nat) ≤ sizeLine := by decide
    have sl : rows0.length < sizeLine := by rw [sizeLine_eq]; omega
    simp [tyA, fAppend, gp, s2, s3, sl]
    simpa [encRow] using q
  | node z ts =>
    have hts := ht_node hd
    have zn := tk.land
    rw [Tree.size] at rl
    have rlen : rows0.length < sizeLine := by rw [sizeLine_eq]; omega
    have s2 : (2 : Nat) ≤ sizeLine := by decide
    have s3 : (3 : Nat) ≤ sizeLine := by decide
    rw [enc_node]
    simp only [sSet, sFor, sIf, sRet, sExpr, sPar, sAsg, sSeq, sNext, sAug, dIt, dTup, dLst, dLstH, dCB, dCall, dCallK, dBin, dUn, dTest, dChain, dIfE, aCons, aNil, dVar, dC, dTruth, dNot, dAnd, dOr, vAnd, vOr, vNot, dBM, dSl, dRev, oSome, oNone]
    simp
    subst hK
    refine seq_o fun K hK => ?_
    simp only [sSet, sFor, sIf, sRet, sExpr, sPar, sAsg, sSeq, sNext, sAug, dIt, dTup, dLst, dLstH, dCB, dCall, dCallK, dBin, dUn, dTest, dChain, dIfE, aCons, aNil, dVar, dC, dTruth, dNot, dAnd, dOr, vAnd, vOr, vNot, dBM, dSl, dRev, oSome, oNone]
    simp [gp]
    subst hK
    refine seq_o fun K hK => ?_
    simp only [sSet, sFor, sIf, sRet, sExpr, sPar, sAsg, sSeq, sNext, sAug, dIt, dTup, dLst, dLstH, dCB, dCall, dCallK, dBin, dUn, dTest, dChain, dIfE, aCons, aNil, dVar, dC, dTruth, dNot, dAnd, dOr, vAnd, vOr, vNot, dBM, dSl, dRev, oSome, oNone]
    simp [tyA, fAppend, gp, s2, rlen]
    subst hK
    refine seq_o fun K hK => ?_
    refine for_o fun dd hdd => ?_
    simp only [dEnum, sSet, sFor, sIf, sRet, sExpr, sPar, sAsg, sSeq, sNext, sAug, dIt, dTup, dLst, dLstH, dCB, dCall, dCallK, dBin, dUn, dTest, dChain, dIfE, aCons, aNil, dVar, dC, dTruth, dNot, dAnd, dOr, vAnd, vOr, vNot, dBM, dSl, dRev, oSome, oNone]
    simp [atI, ixN]
    rw [enumV_from]
    subst hdd
    refine for_ind (fun vs ρ h => ∃ (done rest : List Tree) (x5 x6 x10 x11 x12 : Option Val), ts = done ++ rest ∧ vs = enumFrom done.length (rest.map Tree.enc) ∧ ρ = [some (encB b), some (encH hp), some (.tup [.str z, .tup (ts.map Tree.enc)]), some (.tup (path.map .int)), some (.ref p), x5, x6, some (.int (rows0.length : Nat)), some (.int (wholeTs hp done)), some (.int (cntTs b hp z done)), x10, x11, x12] ∧ h = put h0 p (.lst (rows0 ++ .tup [.tup (path.map .int), .non] :: (rowsTs b hp path 0 done).map encRow))) ?_ ?_ _ _ _ ⟨[], ts, none, none, none, none, none, rfl, rfl, by simp [wholeTs, cntTs], by simp [rowsTs]⟩
    · rintro ρ h ⟨done, rest, x5, x6, x10, x11, x12, e1, e2, rfl, rfl⟩
      have : rest = [] := by cases rest with
        | nil => rfl
        | cons _ _ => cases e2
      subst this
      rw [List.append_nil] at e1
      subst e1
      refine ⟨trivial, ?_⟩
      dsimp only
      subst hK
      refine seq_o fun K hK => ?_
      simp only [sSet, sFor, sIf, sRet, sExpr, sPar, sAsg, sSeq, sNext, sAug, dIt, dTup, dLst, dLstH, dCB, dCall, dCallK, dBin, dUn, dTest, dChain, dIfE, aCons, aNil, dVar, dC, dTruth, dNot, dAnd, dOr, vAnd, vOr, vNot, dBM, dSl, dRev, oSome, oNone]
      simp [atI, ixN]
      refine ⟨b, z, _, _, rfl, wf, zn, ?_⟩
      have ixr : ixN (rows0 ++ .tup [.tup (path.map .int), .non] :: (rowsTs b hp path 0 ts).map encRow).length ((rows0.length : Nat) : Int) = some rows0.length := by
        unfold ixN; simp; omega
      have fin : ∀ (v : Option Str), (Tree.node z ts).land b hp = v → K [some (encB b), some (encH hp), some (.tup [.str z, .tup (ts.map Tree.enc)]), some (.tup (path.map .int)), some (.ref p), x5, some (encO v), some (.int (rows0.length : Nat)), some (.int (wholeTs hp ts)), some (.int (cntTs b hp z ts)), x10, x11, x12] (put h0 p (.lst (rows0 ++ .tup [.tup (path.map .int), .non] :: (rowsTs b hp path 0 ts).map encRow))) (endsR Q) (RX E) := by
        intro v hv
        subst hK
        refine seq_o fun K hK => ?_
        simp only [sLPut, sSet, sFor, sIf, sRet, sExpr, sPar, sAsg, sSeq, sNext, sAug, dIt, dTup, dLst, dLstH, dCB, dCall, dCallK, dBin, dUn, dTest, dChain, dIfE, aCons, aNil, dVar, dC, dTruth, dNot, dAnd, dOr, vAnd, vOr, vNot, dBM, dSl, dRev, oSome, oNone]
        simp only [List.getElem?_cons_zero, List.getElem?_cons_succ]
        refine ⟨s2, ?_⟩
        rw [put_same]
        dsimp only
        rw [ixr]
        dsimp only
        subst hK
        simp only [sSet, sFor, sIf, sRet, sExpr, sPar, sAsg, sSeq, sNext, sAug, dIt, dTup, dLst, dLstH, dCB, dCall, dCallK, dBin, dUn, dTest, dChain, dIfE, aCons, aNil, dVar, dC, dTruth, dNot, dAnd, dOr, vAnd, vOr, vNot, dBM, dSl, dRev, oSome, oNone]
        refine ⟨s3, ?_⟩
        rw [put_put]
        rw [Tree.whole, Tree.cnt, Tree.rows, hv] at q
        have : (rows0 ++ Val.tup [.tup (path.map .int), .non] :: (rowsTs b hp path 0 ts).map encRow).set rows0.length (.tup [.tup (path.map .int), encO v]) = rows0 ++ (((path, v) : Row) :: rowsTs b hp path 0 ts).map encRow := by
          rw [List.set_append_right _ _ (Nat.le_refl _), Nat.sub_self]; rfl
        rw [this]
        exact q
      cases he : enough b z (cntTs b hp z ts) (wholeTs hp ts) with
      | true =>
        simp
        exact fin (some z) (by rw [Tree.land, he]; rfl)
      | false =>
        simp
        exact fin none (by rw [Tree.land, he]; rfl)
    · rintro v vs ρ h ⟨done, rest, x5, x6, x10, x11, x12, e1, e2, rfl, rfl⟩
      cases rest with
      | nil => cases e2
      | cons t rest =>
        rw [List.map_cons, enumFrom, List.cons.injEq] at e2
        obtain ⟨rfl, rfl⟩ := e2
        have mt : t ∈ ts := by rw [e1]; simp
        refine ⟨trivial, _, rfl, fun N hN => ?_⟩
        refine seq_o fun K hK => ?_
        have pl2 : path.length + 1 ≤ sizeLine := sl1000 (by rw [Tree.ht] at pl; omega)
        simp only [sSet, sFor, sIf, sRet, sExpr, sPar, sAsg, sSeq, sNext, sAug, dIt, dTup, dLst, dLstH, dCB, dCall, dCallK, dBin, dUn, dTest, dChain, dIfE, aCons, aNil, dVar, dC, dTruth, dNot, dAnd, dOr, vAnd, vOr, vNot, dBM, dSl, dRev, oSome, oNone]
        simp only [List.set, List.getElem?_cons_zero, List.getElem?_cons_succ, fAdd]
        have sz : sizeTs ts = sizeTs done + (t.size + sizeTs rest) := by rw [e1, sizeTs_app, sizeTs]
        refine ⟨by show 1 ≤ sizeLine; decide, by simpa using pl2, rfl, b, hp, t, path ++ [(done.length : Int)], p, _, by simp, wf, tk.mem mt, hts t mt, ?_, put_same, ?_, ?_⟩
        · have := htTs_mem mt
          rw [Tree.ht] at pl
          rw [List.length_append, List.length_singleton]
          omega
        · rw [List.length_append, List.length_cons, List.length_map, rowsTs_len]
          omega
        rw [put_put]
        have hrow : rows0 ++ .tup [.tup (path.map .int), .non] :: (rowsTs b hp path 0 done).map encRow ++ (t.rows b hp (path ++ [(done.length : Int)])).map encRow = rows0 ++ .tup [.tup (path.map .int), .non] :: (rowsTs b hp path 0 (done ++ [t])).map encRow := by
          rw [rowsTs_app, rowsTs, rowsTs, List.append_nil, List.map_append, Nat.zero_add]
          simp
        rw [hrow]
        simp
        subst hK
        refine seq_o fun K hK => ?_
        simp only [sSet, sFor, sIf, sRet, sExpr, sPar, sAsg, sSeq, sNext, sAug, dIt, dTup, dLst, dLstH, dCB, dCall, dCallK, dBin, dUn, dTest, dChain, dIfE, aCons, aNil, dVar, dC, dTruth, dNot, dAnd, dOr, vAnd, vOr, vNot, dBM, dSl, dRev, oSome, oNone]
        simp
        subst hK
        simp only [sSet, sFor, sIf, sRet, sExpr, sPar, sAsg, sSeq, sNext, sAug, dIt, dTup, dLst, dLstH, dCB, dCall, dCallK, dBin, dUn, dTest, dChain, dIfE, aCons, aNil, dVar, dC, dTruth, dNot, dAnd, dOr, vAnd, vOr, vNot, dBM, dSl, dRev, oSome, oNone]
        simp
        have ew : wholeTs hp (done ++ [t]) = wholeTs hp done + t.whole hp := by rw [wholeTs_app, wholeTs, wholeTs]; omega
        cases hl : t.land b hp with
        | none =>
          have ec : cntTs b hp z (done ++ [t]) = cntTs b hp z done := by rw [cntTs_app, cntTs, cntTs, hl]; show _ + (0 + 0) = _; omega
          simp [encO]
          refine hN _ _ ⟨done ++ [t], rest, some (.int (t.whole hp)), some .non, some (.int (done.length : Nat)), some t.enc, some (.int (t.cnt b hp)), by rw [e1]; simp, by simp, ?_, rfl⟩
          rw [ew, ec]
        | some l =>
          simp [encO, atI, ixN]
          refine ⟨b, z, rfl, wf.pl, ?_⟩
          simp [inA_str, flat_strs]
          by_cases hm : l ∈ takesL b z
          · have ec : cntTs b hp z (done ++ [t]) = cntTs b hp z done + t.whole hp := by rw [cntTs_app, cntTs, cntTs, hl]; show _ + ((if l ∈ takesL b z then t.whole hp else 0) + 0) = _; rw [if_pos hm]; omega
            simp [hm]
            refine hN _ _ ⟨done ++ [t], rest, some (.int (t.whole hp)), some (.str l), some (.int (done.length : Nat)), some t.enc, some (.int (t.cnt b hp)), by rw [e1]; simp, by simp, ?_, rfl⟩
            rw [ew, ec]
          · have ec : cntTs b hp z (done ++ [t]) = cntTs b hp z done := by rw [cntTs_app, cntTs, cntTs, hl]; show _ + ((if l ∈ takesL b z then t.whole hp else 0) + 0) = _; rw [if_neg hm]; omega
            simp [hm]
            refine hN _ _ ⟨done ++ [t], rest, some (.int (t.whole hp)), some (.str l), some (.int (done.length : Nat)), some t.enc, some (.int (t.cnt b hp)), by rw [e1]; simp, by simp, ?_, rfl⟩
            rw [ew, ec]
end DL
namespace DL
open PySem PySem.Spec PyProof.Rows L2
theorem ask_valued {b : Book} {hp : Heap'} {t : Tree} {p : Addr} {h : Hv} {Q : PV} {E : PF} (wf : WFB b) (tk : TrOk b hp t) (hd : t.ht < 24) (sz : t.size ≤ 900) (gp : h p = some (.lst [])) (q : Q (.tup [.int (t.whole hp), .int (t.cnt b hp), encO (t.land b hp)]) (put h p (.lst ((t.rows b hp []).map encRow)))) : S_valued [encB b, encH hp, t.enc, .tup [], .ref p] h Q E :=
  ⟨b, hp, t, [], p, [], rfl, wf, tk, hd, by simp; omega, gp, by simp; omega, q⟩
theorem bo_counts_as (N : List Str) (hN : N.length = 3) : ∀ as h Q E, as.length = 3 → S_counts_as as h Q E → den_counts_as (startA N as) h (endsR Q) (RX E) := by
  rintro as h Q E - ⟨b, hp, t, rfl, wf, tk, hd, sz, q⟩
  unfold den_counts_as
  simp only [startA, hN]
  simp only [sSet, sFor, sIf, sRet, sExpr, sPar, sAsg, sSeq, sNext, sAug, dIt, dTup, dLst, dLstH, dCB, dCall, dCallK, dBin, dUn, dTest, dChain, dIfE, aCons, aNil, dVar, dC, dTruth, dNot, dAnd, dOr, vAnd, vOr, vNot, dBM, dSl, dRev, oSome, oNone]
  simp
  intro p hp'
  refine ask_valued wf tk hd sz put_same ?_
  rw [put_put]
  simp [atI, ixN]
  exact RT.less (Lss.put hp' (by simp)) q
theorem bo_counting_worth (N : List Str) (hN : N.length = 3) : ∀ as h Q E, as.length = 3 → S_counting_worth as h Q E → den_counting_worth (startA N as) h (endsR Q) (RX E) := by
  rintro as h Q E - ⟨b, hp, t, rfl, wf, tk, hd, sz, q⟩
  unfold den_counting_worth
  simp only [startA, hN]
  simp only [sSet, sFor, sIf, sRet, sExpr, sPar, sAsg, sSeq, sNext, sAug, dIt, dTup, dLst, dLstH, dCB, dCall, dCallK, dBin, dUn, dTest, dChain, dIfE, aCons, aNil, dVar, dC, dTruth, dNot, dAnd, dOr, vAnd, vOr, vNot, dBM, dSl, dRev, oSome, oNone]
  simp
  intro p hp'
  refine ask_valued wf tk hd sz put_same ?_
  rw [put_put]
  simp [atI, ixN]
  exact RT.less (Lss.put hp' (by simp)) q
theorem at_node {z : Str} {ts : List Tree} {i : Int} {path : List Int} {u : Tree} (h : (Tree.node z ts).at (i :: path) = some u) : 0 ≤ i ∧ ∃ (hk : i.toNat < ts.length), (ts[i.toNat]).at path = some u := by
  rw [Tree.at] at h
  split at h
  · rename_i h0
    refine ⟨h0, ?_⟩
    split at h
    · rename_i v hv
      obtain ⟨hk, e⟩ := List.getElem?_eq_some_iff.mp hv
      exact ⟨hk, by rw [e]; exact h⟩
    · cases h
  · cases h
theorem at_leaf {n i : Int} {path : List Int} {u : Tree} (h : (Tree.leaf n).at (i :: path) = some u) : False := by
  rw [Tree.at] at h; cases h
theorem bo_tree_at (N : List Str) (hN : N.length = 3) : ∀ as h Q E, as.length = 2 → S_tree_at as h Q E → den_tree_at (startA N as) h (endsR Q) (RX E) := by
  rintro as h Q E - ⟨t, u, path, rfl, ha, q⟩
  have q := RT.same q
  unfold den_tree_at
  simp only [startA, hN]
  refine seq_o fun K hK => ?_
  refine for_o fun dd hdd => ?_
  simp only [sSet, sFor, sIf, sRet, sExpr, sPar, sAsg, sSeq, sNext, sAug, dIt, dTup, dLst, dLstH, dCB, dCall, dCallK, dBin, dUn, dTest, dChain, dIfE, aCons, aNil, dVar, dC, dTruth, dNot, dAnd, dOr, vAnd, vOr, vNot, dBM, dSl, dRev, oSome, oNone]
  simp
  subst hdd
  refine for_ind (fun vs ρ h' => ∃ (t : Tree) (rest : List Int) (x2 : Option Val), vs = rest.map .int ∧ t.at rest = some u ∧ ρ = [some t.enc, some (.tup (path.map .int)), x2] ∧ h' = h) ?_ ?_ _ _ _ ⟨t, path, none, rfl, ha, rfl, rfl⟩
  · rintro ρ h' ⟨t, rest, x2, e1, ha, rfl, rfl⟩
    have : rest = [] := by cases rest with
      | nil => rfl
      | cons _ _ => cases e1
    subst this
    rw [Tree.at] at ha
    cases ha
    refine ⟨trivial, ?_⟩
    dsimp only
    subst hK
    simp only [sSet, sFor, sIf, sRet, sExpr, sPar, sAsg, sSeq, sNext, sAug, dIt, dTup, dLst, dLstH, dCB, dCall, dCallK, dBin, dUn, dTest, dChain, dIfE, aCons, aNil, dVar, dC, dTruth, dNot, dAnd, dOr, vAnd, vOr, vNot, dBM, dSl, dRev, oSome, oNone]
    exact q
  · rintro v vs ρ h' ⟨t, rest, x2, e1, ha, rfl, rfl⟩
    cases rest with
    | nil => cases e1
    | cons i rest =>
      rw [List.map_cons, List.cons.injEq] at e1
      obtain ⟨rfl, rfl⟩ := e1
      refine ⟨trivial, _, rfl, fun N hN => ?_⟩
      cases t with
      | leaf n => exact (at_leaf ha).elim
      | node z ts =>
        obtain ⟨h0, hk, hu⟩ := at_node ha
        have hlt : ¬ (ts.length : Int) ≤ i := by omega
        obtain ⟨hk', e⟩ := atI_int (xs := ts.map Tree.enc) h0 (by rw [List.length_map]; omega)
        rw [List.getElem_map] at e
        rw [enc_node]
        refine seq_o fun K hK => ?_
        simp only [sSet, sFor, sIf, sRet, sExpr, sPar, sAsg, sSeq, sNext, sAug, dIt, dTup, dLst, dLstH, dCB, dCall, dCallK, dBin, dUn, dTest, dChain, dIfE, aCons, aNil, dVar, dC, dTruth, dNot, dAnd, dOr, vAnd, vOr, vNot, dBM, dSl, dRev, oSome, oNone]
        simp [atI, ixN, hlt]
        subst hK
        simp only [sSet, sFor, sIf, sRet, sExpr, sPar, sAsg, sSeq, sNext, sAug, dIt, dTup, dLst, dLstH, dCB, dCall, dCallK, dBin, dUn, dTest, dChain, dIfE, aCons, aNil, dVar, dC, dTruth, dNot, dAnd, dOr, vAnd, vOr, vNot, dBM, dSl, dRev, oSome, oNone]
        have ix1 : atI [Val.str z, Val.tup (ts.map Tree.enc)] 1 = some (.tup (ts.map Tree.enc)) := rfl
        simp [ix1, e]
        exact hN _ _ ⟨ts[i.toNat], rest, some (.int i), rfl, hu, rfl, rfl⟩
theorem bo__law_at (N : List Str) (hN : N.length = 3) : ∀ as h Q E, as.length = 2 → S__law_at as h Q E → den__law_at (startA N as) h (endsR Q) (RX E) := by
  rintro as h Q E - ⟨t, u, path, rfl, ha, q⟩
  have q := RT.same q
  unfold den__law_at
  simp only [startA, hN]
  refine seq_o fun K hK => ?_
  refine for_o fun dd hdd => ?_
  simp only [sSet, sFor, sIf, sRet, sExpr, sPar, sAsg, sSeq, sNext, sAug, dIt, dTup, dLst, dLstH, dCB, dCall, dCallK, dBin, dUn, dTest, dChain, dIfE, aCons, aNil, dVar, dC, dTruth, dNot, dAnd, dOr, vAnd, vOr, vNot, dBM, dSl, dRev, oSome, oNone]
  simp
  subst hdd
  refine for_ind (fun vs ρ h' => ∃ (t : Tree) (rest : List Int) (x2 : Option Val), vs = rest.map .int ∧ t.at rest = some u ∧ ρ = [some t.enc, some (.tup (path.map .int)), x2] ∧ h' = h) ?_ ?_ _ _ _ ⟨t, path, none, rfl, ha, rfl, rfl⟩
  · rintro ρ h' ⟨t, rest, x2, e1, ha, rfl, rfl⟩
    have : rest = [] := by cases rest with
      | nil => rfl
      | cons _ _ => cases e1
    subst this
    rw [Tree.at] at ha
    cases ha
    refine ⟨trivial, ?_⟩
    dsimp only
    subst hK
    simp only [sSet, sFor, sIf, sRet, sExpr, sPar, sAsg, sSeq, sNext, sAug, dIt, dTup, dLst, dLstH, dCB, dCall, dCallK, dBin, dUn, dTest, dChain, dIfE, aCons, aNil, dVar, dC, dTruth, dNot, dAnd, dOr, vAnd, vOr, vNot, dBM, dSl, dRev, oSome, oNone]
    exact q
  · rintro v vs ρ h' ⟨t, rest, x2, e1, ha, rfl, rfl⟩
    cases rest with
    | nil => cases e1
    | cons i rest =>
      rw [List.map_cons, List.cons.injEq] at e1
      obtain ⟨rfl, rfl⟩ := e1
      refine ⟨trivial, _, rfl, fun N hN => ?_⟩
      cases t with
      | leaf n => exact (at_leaf ha).elim
      | node z ts =>
        obtain ⟨h0, hk, hu⟩ := at_node ha
        obtain ⟨hk', e⟩ := atI_int (xs := ts.map Tree.enc) h0 (by rw [List.length_map]; omega)
        rw [List.getElem_map] at e
        rw [enc_node]
        simp only [sSet, sFor, sIf, sRet, sExpr, sPar, sAsg, sSeq, sNext, sAug, dIt, dTup, dLst, dLstH, dCB, dCall, dCallK, dBin, dUn, dTest, dChain, dIfE, aCons, aNil, dVar, dC, dTruth, dNot, dAnd, dOr, vAnd, vOr, vNot, dBM, dSl, dRev, oSome, oNone]
        have ix1 : atI [Val.str z, Val.tup (ts.map Tree.enc)] 1 = some (.tup (ts.map Tree.enc)) := rfl
        simp [ix1, e]
        exact hN _ _ ⟨ts[i.toNat], rest, some (.int i), rfl, hu, rfl, rfl⟩
end DL
namespace DL
open PySem PySem.Spec PyProof.Rows L2
theorem split_at {ts : List Tree} {k : Nat} (hk : k < ts.length) : ts = ts.take k ++ ts[k] :: ts.drop (k + 1) := by
  rw [← List.drop_eq_getElem_cons hk, List.take_append_drop]
mutual
theorem rows_pre (b : Book) (hp : Heap') : ∀ (t : Tree) (path : List Int), ∀ r ∈ t.rows b hp path, ∃ q, r.1 = path ++ q ∧ ∃ u, t.at q = some u ∧ u.land b hp = r.2
  | .leaf n, path, r, h => by
    rw [Tree.rows] at h
    rw [List.mem_singleton.mp h]
    exact ⟨[], by simp, .leaf n, rfl, rfl⟩
  | .node z ts, path, r, h => by
    rw [Tree.rows] at h
    rcases List.mem_cons.mp h with e | e
    · rw [e]
      exact ⟨[], by simp, .node z ts, rfl, rfl⟩
    · obtain ⟨j, q, hj, e1, u, hu, hl⟩ := rowsTs_pre b hp ts path 0 r e
      refine ⟨((0 + j : Nat) : Int) :: q, e1, u, ?_, hl⟩
      rw [Tree.at, if_pos (by omega)]
      have : ts[((0 + j : Nat) : Int).toNat]? = some ts[j] := by simp [hj]
      rw [this]
      exact hu
theorem rowsTs_pre (b : Book) (hp : Heap') : ∀ (ts : List Tree) (path : List Int) (i : Nat), ∀ r ∈ rowsTs b hp path i ts, ∃ (j : Nat) (q : List Int) (hj : j < ts.length), r.1 = path ++ ((i + j : Nat) : Int) :: q ∧ ∃ u, (ts[j]).at q = some u ∧ u.land b hp = r.2
  | [], path, i, r, h => by rw [rowsTs] at h; cases h
  | t :: ts, path, i, r, h => by
    rw [rowsTs] at h
    rcases List.mem_append.mp h with e | e
    · obtain ⟨q, e1, u, hu, hl⟩ := rows_pre b hp t _ r e
      exact ⟨0, q, by simp, by rw [e1]; simp, u, hu, hl⟩
    · obtain ⟨j, q, hj, e1, u, hu, hl⟩ := rowsTs_pre b hp ts path (i + 1) r e
      exact ⟨j + 1, q, by simpa using hj, by rw [e1, show i + 1 + j = i + (j + 1) by omega], u, hu, hl⟩
end
end DL
namespace DL
open PySem PySem.Spec PyProof.Rows L2
theorem dats_ints (xs : List Int) : dats (xs.map Val.int) = some (xs.map PyData.int) := by
  induction xs with
  | nil => rfl
  | cons x xs ih => rw [List.map_cons, dats, dat, ih]; rfl
theorem eqvAll_ints : ∀ xs ys : List Int, PyData.eqvAll (xs.map PyData.int) (ys.map PyData.int) = decide (xs = ys)
  | [], [] => rfl
  | [], y :: ys => rfl
  | x :: xs, [] => rfl
  | x :: xs, y :: ys => by
    rw [List.map_cons, List.map_cons, PyData.eqvAll, eqvAll_ints xs ys, PyData.eqv, Bool.eq_iff_iff]
    simp
theorem eqD_ints (xs ys : List Int) : eqD (.tup (xs.map .int)) (.tup (ys.map .int)) = decide (xs = ys) := by
  unfold eqD
  rw [dat, dat, dats_ints, dats_ints]
  exact eqvAll_ints xs ys
theorem okN_ints {xs : List Int} (h : xs.length ≤ 1000) (d : Nat) : okN (d + 1) (.tup (xs.map .int)) = true := by
  rw [okN_tup]
  refine ⟨fun v hv => ?_, by rw [List.length_map]; exact h⟩
  obtain ⟨n, -, rfl⟩ := List.mem_map.mp hv
  cases d <;> rfl
mutual
theorem whole_things (hp : Heap') : ∀ t : Tree, t.whole hp = (t.things.map (rawW hp)).sum
  | .leaf n => by rw [Tree.whole, Tree.things]; simp
  | .node z ts => by rw [Tree.whole, Tree.things]; exact wholeTs_things hp ts
theorem wholeTs_things (hp : Heap') : ∀ ts : List Tree, wholeTs hp ts = ((thingsTs ts).map (rawW hp)).sum
  | [] => by rw [wholeTs, thingsTs]; rfl
  | t :: ts => by rw [wholeTs, thingsTs, List.map_append, List.sum_append, whole_things hp t, wholeTs_things hp ts]
end
theorem sum_perm {xs ys : List Int} (h : xs.Perm ys) (f : Int → Int) : (xs.map f).sum = (ys.map f).sum := by
  induction h with
  | nil => rfl
  | cons x _ ih => rw [List.map_cons, List.map_cons, List.sum_cons, List.sum_cons, ih]
  | swap x y l => simp only [List.map_cons, List.sum_cons]; omega
  | trans _ _ i j => exact i.trans j
mutual
theorem things_pos {names : List Str} : ∀ t : Tree, t.okT names → 1 ≤ t.things.length
  | .leaf n, _ => by rw [Tree.things]; exact Nat.le_refl _
  | .node z ts, ok => by
    rw [Tree.okT] at ok
    rw [Tree.things]
    have := thingsTs_pos ts ok.2.2
    have : 1 ≤ ts.length := List.length_pos_iff.mpr ok.2.1
    omega
theorem thingsTs_pos {names : List Str} : ∀ ts : List Tree, okTs names ts → ts.length ≤ (thingsTs ts).length
  | [], _ => Nat.zero_le _
  | t :: ts, ok => by
    rw [okTs] at ok
    rw [thingsTs, List.length_cons, List.length_append]
    have := things_pos t ok.1
    have := thingsTs_pos ts ok.2
    omega
end
theorem at_sub {names : List Str} : ∀ (path : List Int) (t u : Tree), t.at path = some u → t.okT names → u.okT names ∧ (∀ n ∈ u.things, n ∈ t.things) ∧ u.things.length ≤ t.things.length ∧ u.ht + path.length ≤ t.ht ∧ u.size ≤ t.size ∧ ∀ i ∈ path, 0 ≤ i ∧ i < (t.things.length : Int)
  | [], t, u, h, ok => by
    rw [Tree.at] at h
    cases h
    exact ⟨ok, fun _ h => h, Nat.le_refl _, Nat.le_refl _, Nat.le_refl _, by simp⟩
  | i :: rest, .leaf m, u, h, _ => (at_leaf h).elim
  | i :: rest, .node z ts, u, h, ok => by
    obtain ⟨h0, hk, hu⟩ := at_node h
    obtain ⟨k, rfl⟩ := Int.eq_ofNat_of_zero_le h0
    have hk : k < ts.length := by simpa using hk
    have hu : (ts[k]).at rest = some u := by simpa using hu
    have mk := List.getElem_mem hk
    rw [Tree.okT] at ok
    have wl := thingsTs_pos ts ok.2.2
    rw [okTs_iff] at ok
    obtain ⟨a1, a2, a3, a4, a5, a6⟩ := at_sub rest ts[k] u hu (ok.2.2 _ mk)
    have l1 : (ts[k]).things.length ≤ (thingsTs ts).length := by rw [thingsTs_map]; exact len_mem (f := Tree.things) mk
    have l2 := htTs_mem mk
    have l3 : (ts[k]).size ≤ sizeTs ts := by
      have := congrArg sizeTs (split_at hk)
      rw [sizeTs_app, sizeTs] at this
      omega
    rw [things_node, ← thingsTs_map, Tree.ht, Tree.size, List.length_cons]
    refine ⟨a1, fun n hn => ?_, by omega, by omega, by omega, fun i hi => ?_⟩
    · rw [thingsTs_map]; exact List.mem_flatMap.mpr ⟨_, mk, a2 n hn⟩
    · rcases List.mem_cons.mp hi with e | e
      · rw [e]; omega
      · have := a6 i e; omega
mutual
theorem size_eq : ∀ t : Tree, t.size = t.things.length + t.lands.length
  | .leaf n => by rw [Tree.size, Tree.things, Tree.lands]; rfl
  | .node z ts => by rw [Tree.size, Tree.things, Tree.lands, sizeTs_eq ts, List.length_cons]; omega
theorem sizeTs_eq : ∀ ts : List Tree, sizeTs ts = (thingsTs ts).length + (landsTs ts).length
  | [] => by rw [sizeTs, thingsTs, landsTs]; rfl
  | t :: ts => by rw [sizeTs, thingsTs, landsTs, List.length_append, List.length_append, size_eq t, sizeTs_eq ts]; omega
end
end DL
namespace DL
open PySem PySem.Spec PyProof.Rows L2
end DL
namespace DL
open PySem PySem.Spec PyProof.Rows L2
theorem Drawn.nz {b : Book} (d : Drawn b) : ∀ z ∈ b.names, okN 0 (.str z) = true := fun z hz => by
  have := d.short z hz
  rcases List.mem_cons.mp this with e | this
  · rw [e]; decide +kernel
  rcases List.mem_cons.mp this with e | this
  · rw [e]; decide +kernel
  rw [List.mem_singleton.mp this]; decide +kernel
theorem okN_encO {names : List Str} (nz : ∀ z ∈ names, okN 0 (.str z) = true) {o : Option Str} (h : ∀ z, o = some z → z ∈ names) (d : Nat) : okN d (encO o) = true := by
  cases o with
  | none => cases d <;> rfl
  | some z => exact okN_le (nz z (h z rfl)) (Nat.zero_le _)
theorem okN_rows {names : List Str} (nz : ∀ z ∈ names, okN 0 (.str z) = true) {rs : List Row} (hl : rs.length ≤ 1000) (h : ∀ r ∈ rs, r.1.length ≤ 1000 ∧ ∀ z, r.2 = some z → z ∈ names) (d : Nat) : okN (d + 3) (.tup (rs.map encRow)) = true := by
  rw [okN_tup]
  refine ⟨fun v hv => ?_, by rw [List.length_map]; exact hl⟩
  obtain ⟨r, hr, rfl⟩ := List.mem_map.mp hv
  have := h r hr
  unfold encRow
  rw [okN_tup]
  refine ⟨fun v hv => ?_, (by decide : 2 ≤ 1000)⟩
  rcases List.mem_cons.mp hv with e | e
  · rw [e]; exact okN_ints this.1 d
  · rw [List.mem_singleton.mp e]; exact okN_encO nz this.2 _
mutual
theorem land_mem {b : Book} {hp : Heap'} (hf : ∀ x ∈ hp, ∀ z, x.2 = some z → z ∈ b.names) : ∀ t : Tree, t.okT b.names → ∀ z, t.land b hp = some z → z ∈ b.names
  | .leaf n, _, z, h => by
    rw [Tree.land] at h
    unfold rawL at h
    obtain ⟨x, hx, e⟩ := Option.bind_eq_some_iff.mp h
    exact hf x (List.mem_of_getElem? hx) z e
  | .node y ts, ok, z, h => by
    rw [Tree.okT] at ok
    rw [Tree.land] at h
    split at h
    · cases h; exact ok.1
    · cases h
end
end DL
namespace DL
open PySem PySem.Spec PyProof.Rows L2
mutual
theorem paths_len : ∀ t : Tree, t.paths.length = t.size
  | .leaf _ => by rw [Tree.paths, Tree.size]; rfl
  | .node _ ts => by rw [Tree.paths, Tree.size, List.length_cons, pathsTs_len 0 ts]
theorem pathsTs_len : ∀ (i : Nat) (ts : List Tree), (pathsTs i ts).length = sizeTs ts
  | _, [] => by rw [pathsTs, sizeTs]; rfl
  | i, t :: ts => by rw [pathsTs, sizeTs, List.length_append, List.length_map, paths_len t, pathsTs_len (i + 1) ts]
end
mutual
theorem paths_ht : ∀ (t : Tree), ∀ p ∈ t.paths, p.length ≤ t.ht
  | .leaf _, p, h => by rw [Tree.paths] at h; rw [List.mem_singleton.mp h]; exact Nat.zero_le _
  | .node _ ts, p, h => by
    rw [Tree.paths] at h
    rw [Tree.ht]
    rcases List.mem_cons.mp h with e | e
    · rw [e]; exact Nat.zero_le _
    · have := pathsTs_ht 0 ts p e
      omega
theorem pathsTs_ht : ∀ (i : Nat) (ts : List Tree), ∀ p ∈ pathsTs i ts, p.length ≤ htTs ts + 1
  | _, [], p, h => by rw [pathsTs] at h; cases h
  | i, t :: ts, p, h => by
    rw [pathsTs] at h
    rw [htTs]
    rcases List.mem_append.mp h with e | e
    · obtain ⟨q, hq, rfl⟩ := List.mem_map.mp e
      have := paths_ht t q hq
      rw [List.length_cons]
      omega
    · have := pathsTs_ht (i + 1) ts p e
      omega
end
end DL
namespace DL
open PySem PySem.Spec PyProof.Rows L2
mutual
theorem rows_fst (b : Book) (hp : Heap') : ∀ (t : Tree) (path : List Int), (t.rows b hp path).map (·.1) = t.paths.map (path ++ ·)
  | .leaf n, path => by rw [Tree.rows, Tree.paths]; simp
  | .node z ts, path => by
    rw [Tree.rows, Tree.paths, List.map_cons, List.map_cons, rowsTs_fst b hp ts path 0]
    simp
theorem rowsTs_fst (b : Book) (hp : Heap') : ∀ (ts : List Tree) (path : List Int) (i : Nat), (rowsTs b hp path i ts).map (·.1) = (pathsTs i ts).map (path ++ ·)
  | [], path, i => by rw [rowsTs, pathsTs]; rfl
  | t :: ts, path, i => by
    rw [rowsTs, pathsTs, List.map_append, List.map_append, rows_fst b hp t, rowsTs_fst b hp ts, List.map_map]
    congr 1
    apply List.map_congr_left
    intro p _
    simp
end
def landAt (b : Book) (hp : Heap') (t : Tree) (p : List Int) : Option Str := (t.at p).bind (·.land b hp)
theorem rows_paths (b : Book) (hp : Heap') (t : Tree) : t.rows b hp [] = t.paths.map fun p => (p, landAt b hp t p) := by
  have h1 : t.rows b hp [] = (t.rows b hp []).map fun r => (r.1, landAt b hp t r.1) := by
    have : ∀ r ∈ t.rows b hp [], (r.1, landAt b hp t r.1) = r := fun r hr => by
      obtain ⟨q, e, u, hu, hl⟩ := rows_pre b hp t [] r hr
      rw [List.nil_append] at e
      unfold landAt
      rw [e, hu]
      show (q, u.land b hp) = r
      rw [hl, ← e]
    exact (List.map_id _).symm.trans (List.map_congr_left fun r hr => (this r hr).symm)
  have h2 := rows_fst b hp t []
  rw [h1]
  rw [show (fun r : Row => (r.1, landAt b hp t r.1)) = (fun p : List Int => (p, landAt b hp t p)) ∘ (·.1) from rfl, ← List.map_map, h2]
  congr 1
  simp
theorem paths_at (t : Tree) : ∀ p ∈ t.paths, ∃ u, t.at p = some u := fun p hp => by
  have h2 := rows_fst ⟨[], []⟩ [] t []
  have : p ∈ (t.rows ⟨[], []⟩ [] []).map (·.1) := by rw [h2]; simpa using hp
  obtain ⟨r, hr, e⟩ := List.mem_map.mp this
  obtain ⟨q, e2, u, hu, _⟩ := rows_pre ⟨[], []⟩ [] t [] r hr
  rw [List.nil_append] at e2
  exact ⟨u, by rw [← e, e2]; exact hu⟩
theorem at_appT : ∀ (p q : List Int) (t : Tree), t.at (p ++ q) = (t.at p).bind (·.at q)
  | [], q, t => by rw [List.nil_append, Tree.at]; rfl
  | i :: p, q, t => by
    rw [List.cons_append]
    cases t with
    | leaf n => rw [Tree.at, Tree.at]; rfl
    | node z ts =>
      rw [Tree.at, Tree.at]
      split
      · split
        · exact at_appT p q _
        · rfl
      · rfl
end DL
namespace DL
open PySem PySem.Spec PyProof.Rows L2
end DL
namespace DL
open PySem PySem.Spec PyProof.Rows L2
def setN (n : Nat) : List Nat := (List.range 8).filter fun i => n.testBit i
def setI (n : Nat) : List Int := (setN n).map fun (i : Nat) => (i : Int)
def encS (n : Nat) : Val := .tup ((setI n).map .int)
def sub (p n : Nat) : Bool := p &&& n == p
theorem sub_iff {p n : Nat} : sub p n = true ↔ ∀ i, p.testBit i = true → n.testBit i = true := by
  unfold sub
  rw [beq_iff_eq]
  constructor
  · intro h i hi
    rw [← h, Nat.testBit_and, Bool.and_eq_true] at hi
    exact hi.2
  · intro h
    apply Nat.eq_of_testBit_eq
    intro i
    rw [Nat.testBit_and]
    cases e : p.testBit i with
    | false => rfl
    | true => rw [h i e]; rfl
theorem sub_le {p n : Nat} (h : sub p n = true) : p ≤ n := by
  unfold sub at h
  rw [beq_iff_eq] at h
  rw [← h]
  exact Nat.and_le_right
def partsN (n : Nat) : List Nat := ((List.range (n + 1)).filter fun p => p != 0 && sub p n).reverse
theorem mem_parts {n p : Nat} : p ∈ partsN n ↔ p ≠ 0 ∧ sub p n = true := by
  unfold partsN
  rw [List.mem_reverse, List.mem_filter, List.mem_range, Bool.and_eq_true, bne_iff_ne]
  constructor
  · exact fun h => h.2
  · exact fun h => ⟨Nat.lt_succ_of_le (sub_le h.2), h⟩
def lowN (n : Nat) : Nat := n &&& (256 - n)
theorem lt_of_sub {n p : Nat} (hn : n < 256) (h : sub p n = true) : p < 256 := Nat.lt_of_le_of_lt (sub_le h) hn
theorem bit_lt {n i : Nat} (hn : n < 256) (h : n.testBit i = true) : i < 8 := by
  apply Nat.lt_of_not_le
  intro hi
  have : n < 2 ^ i := Nat.lt_of_lt_of_le hn (Nat.pow_le_pow_right (by decide) hi : 2 ^ 8 ≤ 2 ^ i)
  rw [Nat.testBit_lt_two_pow this] at h
  cases h
theorem mem_setN {n i : Nat} (hn : n < 256) : i ∈ setN n ↔ n.testBit i = true := by
  unfold setN
  rw [List.mem_filter, List.mem_range]
  exact ⟨fun h => h.2, fun h => ⟨bit_lt hn h, h⟩⟩
theorem setN_up (n : Nat) : (setN n).Pairwise (· < ·) := List.pairwise_lt_range.filter _
theorem setI_len (n : Nat) : (setI n).length ≤ 8 := by
  unfold setI setN
  rw [List.length_map]
  exact Nat.le_trans (List.length_filter_le _ _) (by simp)
theorem setI_up (n : Nat) : (setI n).Pairwise (· < ·) := by
  unfold setI
  rw [List.pairwise_map]
  exact (setN_up n).imp fun h => by omega
def bitsL (ns : List Int) : Nat := (ns.map fun n => 2 ^ n.toNat).sum
theorem bits_all : ((List.range 256).all fun n => bitsL (setI n) == n) = true := by decide +kernel
theorem bits_set {n : Nat} (h : n < 256) : bitsL (setI n) = n := beq_iff_eq.mp (List.all_eq_true.mp bits_all n (List.mem_range.mpr h))
def wt (hp : Heap') (n : Nat) : Int := ((setI n).map (rawW hp)).sum
def inH (hp : Heap') (n : Nat) : Prop := n < 2 ^ hp.length
theorem inH_lt {hp : Heap'} (h8 : hp.length ≤ 8) {n : Nat} (h : inH hp n) : n < 256 := Nat.lt_of_lt_of_le h (Nat.pow_le_pow_right (by decide) h8 : 2 ^ hp.length ≤ 2 ^ 8)
theorem inH_rg {hp : Heap'} {n : Nat} (h : inH hp n) : ∀ i ∈ setI n, 0 ≤ i ∧ i < (hp.length : Int) := fun i hi => by
  unfold setI at hi
  obtain ⟨j, hj, rfl⟩ := List.mem_map.mp hi
  unfold setN at hj
  have := (List.mem_filter.mp hj).2
  have : j < hp.length := by
    apply Nat.lt_of_not_le
    intro hl
    rw [Nat.testBit_lt_two_pow (Nat.lt_of_lt_of_le h (Nat.pow_le_pow_right (by decide) hl))] at this
    cases this
  omega
theorem inH_sub {hp : Heap'} {p n : Nat} (h : inH hp n) (s : sub p n = true) : inH hp p := Nat.lt_of_le_of_lt (sub_le s) h
inductive Jnd (P : Nat → Prop) : Nat → Prop
  | one {n : Nat} : n ≠ 0 → P n → Jnd P n
  | more {n p : Nat} : sub p n = true → p ≠ 0 → p ≠ n → lowN n &&& p ≠ 0 → P p → Jnd P (n - p) → Jnd P n
theorem Jnd.mono {P P' : Nat → Prop} {n : Nat} (j : Jnd P n) (h : ∀ p, P p → P' p) : Jnd P' n := by
  induction j with
  | one n0 hp => exact .one n0 (h _ hp)
  | more s p0 pn l hp _ ih => exact .more s p0 pn l (h _ hp) ih
theorem Jnd.pos {P : Nat → Prop} {n : Nat} (j : Jnd P n) : n ≠ 0 := by
  cases j with
  | one n0 _ => exact n0
  | more s p0 pn _ _ _ => have := sub_le s; omega
def Tk (b : Book) (C : Str → Nat → Prop) (z : Str) (p : Nat) : Prop := ∃ t ∈ takesL b z, C t p
structure Clo (b : Book) (hp : Heap') (C : Str → Nat → Prop) : Prop where
  raw : ∀ (i : Nat) (w : Int) (z : Str), hp[i]? = some (w, some z) → C z (2 ^ i)
  made : ∀ z ∈ b.names, ∀ n, inH hp n → ∀ p, sub p n = true → Jnd (Tk b C z) p → enough b z (wt hp p) (wt hp n) = true → C z n
def Can (b : Book) (hp : Heap') (z : Str) (n : Nat) : Prop := ∀ C, Clo b hp C → C z n
theorem can_clo (b : Book) (hp : Heap') : Clo b hp (Can b hp) := by
  refine ⟨fun i w z h C c => c.raw i w z h, fun z hz n hn p s j e C c => c.made z hz n hn p s (j.mono fun q ⟨t, ht, h⟩ => ⟨t, ht, h C c⟩) e⟩
end DL
namespace DL
open PySem PySem.Spec PyProof.Rows L2
structure TInv (b : Book) (hp : Heap') (D : Nat → Prop) (gs js : Str → List Nat) : Prop where
  g : ∀ z ∈ b.names, ∀ n, n ∈ gs z ↔ D n ∧ Can b hp z n
  j : ∀ z ∈ b.names, ∀ n, n ∈ js z ↔ D n ∧ Jnd (Tk b (Can b hp) z) n
structure MInv (b : Book) (hp : Heap') (D : Nat → Prop) (m : Nat) (gs js : Str → List Nat) : Prop where
  g : ∀ z ∈ b.names, ∀ n, n ≠ m → (n ∈ gs z ↔ D n ∧ Can b hp z n)
  j : ∀ z ∈ b.names, ∀ n, n ≠ m → (n ∈ js z ↔ D n ∧ Jnd (Tk b (Can b hp) z) n)
  gm : ∀ z ∈ b.names, m ∈ gs z → Can b hp z m
theorem TInv.mid {b : Book} {hp : Heap'} {D : Nat → Prop} {g j : Str → List Nat} (t : TInv b hp D g j) {m : Nat} (hm : ¬ D m) : MInv b hp D m g j :=
  ⟨fun z hz n _ => t.g z hz n, fun z hz n _ => t.j z hz n, fun z hz h => ((t.g z hz m).mp h).2⟩
structure FillOk (b : Book) (hp : Heap') (D : Nat → Prop) (m : Nat) : Prop where
  w : WFB b
  ho : HpOk b hp
  m0 : m ≠ 0
  mH : inH hp m
  nd : ¬ D m
  low : ∀ p, p ≠ 0 → p ≠ m → sub p m = true → D p
theorem FillOk.lt {b : Book} {hp : Heap'} {D : Nat → Prop} {m : Nat} (f : FillOk b hp D m) : m < 256 := inH_lt f.ho.n8 f.mH
end DL
namespace DL
open PySem PySem.Spec PyProof.Rows L2
noncomputable def dec (p : Prop) : Bool := @decide p (Classical.propDecidable p)
def encD (xs : List Nat) : List (Key × Val) := xs.map fun n => (.inl ((n : Nat) : Int), .bl true)
structure Ad where
  tk : Addr
  gd : Addr
  jd : Addr
  ga : Str → Addr
  ja : Str → Addr
def refD (b : Book) (f : Str → Addr) : List (Key × Val) := b.names.map fun z => (.inr z, .ref (f z))
structure Small (xs : List Nat) : Prop where
  nd : xs.Nodup
  lt : ∀ n ∈ xs, n < 256
def OffT (b : Book) (A : Ad) (h h' : Hv) : Prop := (∀ c, (∀ z ∈ b.names, c ≠ A.ga z ∧ c ≠ A.ja z) → h' c = h c)
end DL
namespace DL
open PySem PySem.Spec PyProof.Rows L2
set_option maxHeartbeats 0 in
theorem pop_lt_all : ((List.range 256).all fun n => (partsN n).all fun p => p == n || decide ((setI p).length < (setI n).length)) = true := by decide +kernel
theorem pop_lt {p n : Nat} (hn : n < 256) (p0 : p ≠ 0) (h : sub p n = true) (ne : p ≠ n) : (setI p).length < (setI n).length := by
  have := List.all_eq_true.mp (List.all_eq_true.mp pop_lt_all n (List.mem_range.mpr hn)) p (mem_parts.mpr ⟨p0, h⟩)
  rw [Bool.or_eq_true, beq_iff_eq, decide_eq_true_eq] at this
  exact this.resolve_left ne
theorem sub_mem {n p : Nat} (hn : n < 256) (hp : p < 256) : sub p n = true ↔ ∀ i ∈ setI p, i ∈ setI n := by
  rw [sub_iff]
  unfold setI
  constructor
  · intro h i hi
    obtain ⟨j, hj, rfl⟩ := List.mem_map.mp hi
    exact List.mem_map.mpr ⟨j, (mem_setN hn).mpr (h j ((mem_setN hp).mp hj)), rfl⟩
  · intro h i hi
    have := h i (List.mem_map.mpr ⟨i, (mem_setN hp).mpr hi, rfl⟩)
    obtain ⟨j, hj, e⟩ := List.mem_map.mp this
    have : j = i := by omega
    subst this
    exact (mem_setN hn).mp hj
end DL
namespace DL
open PySem PySem.Spec PyProof.Rows L2
def CMade (b : Book) (hp : Heap') (fs : Str → List Nat) (z : Str) (m : Nat) : Prop := ∃ p, sub p m = true ∧ Jnd (Tk b (fun t q => q ∈ fs t) z) p ∧ enough b z (wt hp p) (wt hp m) = true
def rawS (hp : Heap') (z : Str) (n : Nat) : Prop := ∃ (i : Nat) (w : Int), hp[i]? = some (w, some z) ∧ n = 2 ^ i
theorem raw_can {b : Book} {hp : Heap'} {z : Str} {n : Nat} (h : rawS hp z n) : Can b hp z n := by
  obtain ⟨i, w, h, rfl⟩ := h
  exact (can_clo b hp).raw i w z h
structure LInv (b : Book) (hp : Heap') (D : Nat → Prop) (fs : Str → List Nat) : Prop where
  f : ∀ z ∈ b.names, ∀ n, n ∈ fs z ↔ (D n ∧ Can b hp z n) ∨ rawS hp z n
structure LMid (b : Book) (hp : Heap') (D : Nat → Prop) (m : Nat) (fs : Str → List Nat) : Prop where
  f : ∀ z ∈ b.names, ∀ n, n ≠ m → (n ∈ fs z ↔ (D n ∧ Can b hp z n) ∨ rawS hp z n)
  mc : ∀ z ∈ b.names, m ∈ fs z → Can b hp z m
  r : ∀ z ∈ b.names, rawS hp z m → m ∈ fs z
theorem LInv.mid {b : Book} {hp : Heap'} {D : Nat → Prop} {fs : Str → List Nat} (i : LInv b hp D fs) (m : Nat) : LMid b hp D m fs :=
  ⟨fun z hz n _ => i.f z hz n, fun z hz h => ((i.f z hz m).mp h).elim (fun h => h.2) raw_can, fun z hz h => (i.f z hz m).mpr (.inr h)⟩
structure Grw (G : Gx) (h0 h : Hv) : Prop where
  sub : Sub h0 h
  bz : ∀ c, h c = some .busy → h0 c = some .busy
  tb : Tbs G.Ts h
theorem Grw.new {G : Gx} {h0 h : Hv} {p : Addr} {o : Ob} (g : Grw G h0 h) (e : h p = none) (nb : o ≠ .busy) (nt : ∀ q, o ≠ .tab q) : Grw G h0 (put h p o) :=
  ⟨g.sub.trans (Sub.put e), fun c hc => by
    by_cases z : c = p
    · subst z; rw [put_same] at hc; exact absurd (Option.some.inj hc) nb
    · rw [put_ne z] at hc; exact g.bz c hc, g.tb.put e nt⟩
theorem Grw.write {G : Gx} {h0 h : Hv} {p : Addr} {o u : Ob} (g : Grw G h0 h) (e0 : h0 p = none) (e : h p = some u) (nu : ∀ q, u ≠ .tab q) (nb : o ≠ .busy) (nt : ∀ q, o ≠ .tab q) : Grw G h0 (put h p o) :=
  ⟨fun c w hc => by rw [put_ne (fun z => by rw [z, e0] at hc; cases hc)]; exact g.sub c w hc, fun c hc => by
    by_cases z : c = p
    · subst z; rw [put_same] at hc; exact absurd (Option.some.inj hc) nb
    · rw [put_ne z] at hc; exact g.bz c hc, g.tb.write e nu nt⟩
end DL
namespace DL
open PySem PySem.Spec PyProof.Rows L2
def DV (h : Hv) (d : Addr) (kvs : List (Key × Val)) : Prop := h d = some (.dK kvs) ∨ ∃ o xs, h d = some (.dF o xs kvs)
structure FndAt (h : Hv) (d : Addr) (la : Str → Addr) (b : Book) (fs : Str → List Nat) : Prop where
  d : DV h d (refD b la)
  l : ∀ z ∈ b.names, h (la z) = some (.lst ((fs z).map encS))
  nl : ∀ z ∈ b.names, ∀ y ∈ b.names, z ≠ y → la z ≠ la y
  s : ∀ z ∈ b.names, Small (fs z)
  z : ∀ z ∈ b.names, ∀ n ∈ fs z, n ≠ 0
end DL
namespace DL
open PySem PySem.Spec PyProof.Rows L2
end DL
namespace DL
open PySem PySem.Spec PyProof.Rows L2
end DL
namespace DL
open PySem PySem.Spec PyProof.Rows L2
end DL
namespace DL
open PySem PySem.Spec PyProof.Rows L2
end DL
namespace DL
open PySem PySem.Spec PyProof.Rows L2
def EvE (ρ : Sl) (h : Hv) (E : PX) (d : ED) (v : Val) : Prop := ∀ Q : PV, Q v h → d ρ h Q E
def EvT (ρ : Sl) (h : Hv) (E : PX) (d : TD) (k : Bool) : Prop := ∀ Q : Bool → Hv → Prop, Q k h → d ρ h Q E
def EvA (ρ : Sl) (h : Hv) (E : PX) (d : AD) (vs : List Val) : Prop := ∀ Q : List Val → Hv → Prop, Q vs h → d ρ h Q E
def EvI (ρ : Sl) (h : Hv) (E : PX) (d : ID) (it : Itr) : Prop := ∀ Q : Itr → Hv → Prop, Q it h → d ρ h Q E
def EvF (h : Hv) (f : F2) (v w u : Val) : Prop := ∀ Q : PV, Q u h → f v w h Q
def EvC (h : Hv) (f : FA) (vs : List Val) (u : Val) : Prop := ∀ Q : PV, Q u h → f vs h Q
section
variable {ρ : Sl} {h : Hv} {E : PX} {d da db dc : ED} {ta tb : TD} {aa : AD} {v w u : Val} {k l : Bool} {vs : List Val}
theorem EvE.cast (a : EvE ρ h E d v) (e : v = w) : EvE ρ h E d w := e ▸ a
theorem EvT.cast (a : EvT ρ h E ta k) (e : k = l) : EvT ρ h E ta l := e ▸ a
theorem ev_var {i : Nat} (e : ρ[i]? = some (some v) := by rfl) : EvE ρ h E (dVar i) v := fun Q q => by
  show match ρ[i]? with | some (some v) => Q v h | _ => False
  rw [e]; exact q
theorem ev_c : EvE ρ h E (dC v) v := fun Q q => q
theorem ev_bin {f : F2} (ha : EvE ρ h E da v) (hb : EvE ρ h E db w) (hf : EvF h f v w u) : EvE ρ h E (dBin f da db) u := fun Q q => ha _ (hb _ (hf _ q))
theorem evt_test (ha : EvE ρ h E da (.bl k)) : EvT ρ h E (dTest da) k := fun Q q => ha _ q
theorem evt_truth (ha : EvE ρ h E da v) (e : truA v h = some k) : EvT ρ h E (dTruth da) k := fun Q q => ha _ (by
  show match truA v h with | some k => Q k h | none => False
  rw [e]; exact q)
theorem evt_truthB (ha : EvE ρ h E da (.bl k)) : EvT ρ h E (dTruth da) k := evt_truth ha rfl
theorem evt_not (ha : EvT ρ h E ta k) : EvT ρ h E (dNot ta) (!k) := fun Q q => ha _ q
theorem evt_and (ha : EvT ρ h E ta k) (hb : k = true → EvT ρ h E tb l) : EvT ρ h E (dAnd ta tb) (k && l) := fun Q q => ha _ (by
  show if k = true then tb ρ h Q E else Q false h
  cases k with
  | false => rw [if_neg Bool.false_ne_true]; exact q
  | true => rw [if_pos rfl]; exact hb rfl Q q)
theorem evt_or (ha : EvT ρ h E ta k) (hb : k = false → EvT ρ h E tb l) : EvT ρ h E (dOr ta tb) (k || l) := fun Q q => ha _ (by
  show if k = true then Q true h else tb ρ h Q E
  cases k with
  | true => rw [if_pos rfl]; exact q
  | false => rw [if_neg Bool.false_ne_true]; exact hb rfl Q q)
theorem ev_if (ht : EvT ρ h E ta k) (ha : k = true → EvE ρ h E da v) (hb : k = false → EvE ρ h E db v) : EvE ρ h E (dIfE ta da db) v := fun Q q => ht _ (by
  show if k = true then da ρ h Q E else db ρ h Q E
  cases k with
  | true => rw [if_pos rfl]; exact ha rfl Q q
  | false => rw [if_neg Bool.false_ne_true]; exact hb rfl Q q)
theorem ev_vAnd (ha : EvE ρ h E da (.bl k)) (hb : k = true → EvE ρ h E db (.bl l)) : EvE ρ h E (vAnd da db) (.bl (k && l)) := fun Q q => ha _ (by
  show if k = true then db ρ h Q E else Q (.bl k) h
  cases k with
  | false => rw [if_neg Bool.false_ne_true]; exact q
  | true => rw [if_pos rfl]; exact hb rfl Q q)
theorem eva_nil : EvA ρ h E aNil [] := fun Q q => q
theorem eva_cons (ha : EvE ρ h E da v) (hb : EvA ρ h E aa vs) : EvA ρ h E (aCons da aa) (v :: vs) := fun Q q => ha _ (hb _ q)
theorem eva1 (ha : EvE ρ h E da v) : EvA ρ h E (aCons da aNil) [v] := eva_cons ha eva_nil
theorem eva2 (ha : EvE ρ h E da v) (hb : EvE ρ h E db w) : EvA ρ h E (aCons da (aCons db aNil)) [v, w] := eva_cons ha (eva1 hb)
theorem ev_tup (ha : EvA ρ h E aa vs) (hl : vs.length ≤ sizeLine) : EvE ρ h E (dTup aa) (.tup vs) := fun Q q => ha _ ⟨hl, q⟩
theorem ev_lst (ha : EvA ρ h E aa vs) (hl : vs.length ≤ sizeLine) : EvE ρ h E (dLst aa) (.lst vs) := fun Q q => ha _ ⟨hl, q⟩
theorem ev_cb {f : FA} (ha : EvA ρ h E aa vs) (hf : EvC h f vs u) : EvE ρ h E (dCB f aa) u := fun Q q => ha _ (hf _ q)
theorem ev_call {n : Nat} {fs : SpF} (ha : EvA ρ h E aa vs) (hn : vs.length = n) (hf : ∀ Q : PV, Q u h → fs vs h Q (fun nm pl h' => E nm pl ρ h')) : EvE ρ h E (dCall n fs aa) u := fun Q q => ha _ ⟨hn, hf _ q⟩
theorem ev_dget {o : Val} (ha : EvE ρ h E da v) (hb : EvE ρ h E db w) (e : dgetA v w h = some (some o)) : EvE ρ h E (dDGet da db) o := fun Q q => ha _ (hb _ (by
  show match dgetA v w h with | some (some u) => Q u h | _ => False
  rw [e]; exact q))
def EvO (ρ : Sl) (h : Hv) (E : PX) (d : OD) (i : Option Int) : Prop := ∀ Q : Option Int → Hv → Prop, Q i h → d ρ h Q E
theorem evo_none : EvO ρ h E oNone none := fun Q q => q
theorem evo_some {i : Int} (ha : EvE ρ h E da (.int i)) : EvO ρ h E (oSome da) (some i) := fun Q q => ha _ q
theorem ev_sl {lo hi : OD} {l r : Option Int} (ha : EvE ρ h E da v) (hl : EvO ρ h E lo l) (hr : EvO ρ h E hi r) (hf : ∀ Q : PV, Q u h → fSl v l r h Q) : EvE ρ h E (dSl fSl da lo hi) u := fun Q q => ha _ (hl _ (hr _ (hf _ q)))
theorem evi_it {it : Itr} (ha : EvE ρ h E da v) (e : iterOf v h = some it) : EvI ρ h E (dIt da) it := fun Q q => ha _ (by
  show match iterOf v h with | some it => Q it h | none => False
  rw [e]; exact q)
theorem evi_range1 {n : Nat} (ha : EvE ρ h E da (.int (n : Int))) (hn : n ≤ 1000000) : EvI ρ h E (dRange1 (aCons da aNil)) ⟨(List.range n).map fun (i : Nat) => .int (0 + (i : Nat)), fun _ => True⟩ := fun Q q => (eva1 ha) _ (by
  show -(2 ^ 62) ≤ (n : Int) ∧ (n : Int) < 2 ^ 62 ∧ Q ⟨(List.range ((n : Nat) : Int).toNat).map fun (i : Nat) => .int (0 + (i : Nat)), fun _ => True⟩ h
  refine ⟨by omega, by omega, ?_⟩
  have : ((n : Nat) : Int).toNat = n := by omega
  rw [this]; exact q)
variable {D : AE} {s1 s2 : SD}
theorem s_seq (q : s1 ρ h { D with nx := fun ρ h => s2 ρ h D E } E) : sSeq s1 s2 ρ h D E := q
theorem s_set {i : Nat} (ha : EvE ρ h E da v) (q : D.nx (ρ.set i (some v)) h) : sSet i da ρ h D E := ha _ q
theorem ss_set {i : Nat} (ha : EvE ρ h E da v) (q : s2 (ρ.set i (some v)) h D E) : sSeq (sSet i da) s2 ρ h D E := ha _ q
theorem ss_par2 {i j : Nat} (ha : EvA ρ h E aa [v, w]) (q : s2 ((ρ.set i (some v)).set j (some w)) h D E) : sSeq (sPar [i, j] aa) s2 ρ h D E := ha _ q
theorem s_if (ht : EvT ρ h E ta k) (q1 : k = true → s1 ρ h D E) (q2 : k = false → s2 ρ h D E) : sIf ta s1 s2 ρ h D E := ht _ (by
  show if k = true then s1 ρ h D E else s2 ρ h D E
  cases k with
  | true => rw [if_pos rfl]; exact q1 rfl
  | false => rw [if_neg Bool.false_ne_true]; exact q2 rfl)
theorem s_ret (ha : EvE ρ h E da v) (q : D.rt v h) : sRet da ρ h D E := ha _ q
theorem s_for {di : ID} {t : Tg} {it : Itr} (hi : EvI ρ h E di it) (q : forL it.ok t s1 it.items ρ h D E) : sFor di t s1 ρ h D E := hi _ q
theorem s_dput {h' : Hv} (hv : EvE ρ h E da v) (hd : EvE ρ h E db w) (hk : EvE ρ h E dc u) (e : dputA w u v h = some h') (q : D.nx ρ h') : sDPut db dc da ρ h D E := hv _ (hd _ (hk _ (by
  show match dputA w u v h with | some h' => D.nx ρ h' | none => False
  rw [e]; exact q)))
theorem ss_dput {h' : Hv} (hv : EvE ρ h E da v) (hd : EvE ρ h E db w) (hk : EvE ρ h E dc u) (e : dputA w u v h = some h') (q : s2 ρ h' D E) : sSeq (sDPut db dc da) s2 ρ h D E := s_seq (s_dput hv hd hk e q)
theorem ss_if (ht : EvT ρ h E ta k) {s3 : SD} (q1 : k = true → s1 ρ h { D with nx := fun ρ h => s3 ρ h D E } E) (q2 : k = false → s2 ρ h { D with nx := fun ρ h => s3 ρ h D E } E) : sSeq (sIf ta s1 s2) s3 ρ h D E := s_seq (s_if ht q1 q2)
theorem ss_for {di : ID} {t : Tg} {it : Itr} (hi : EvI ρ h E di it) (q : ∀ d', d' = s1 → forL it.ok t d' it.items ρ h { D with nx := fun ρ h => s2 ρ h D E } E) : sSeq (sFor di t s1) s2 ρ h D E := s_seq (s_for hi (q s1 rfl))
theorem ev_neg {i : Int} (ha : EvE ρ h E da (.int i)) : EvE ρ h E (dUn fNeg da) (.int (-i)) := fun Q q => ha _ q
theorem s_call {n : Nat} {fs : SpF} (ha : EvA ρ h E aa vs) (hn : vs.length = n) (hf : fs vs h (fun _ h' => D.nx ρ h') (fun nm pl h' => E nm pl ρ h')) : sExpr (dCall n fs aa) ρ h D E := ha _ ⟨hn, hf⟩
theorem f_add (i j : Int) : EvF h fAdd (.int i) (.int j) (.int (i + j)) := fun Q q => q
theorem f_ixL {v : Val} {vs : List Val} {n : Nat} {u : Val} (e : seqOf v h = some vs) (hu : vs[n]? = some u) : EvF h fIx v (.int (n : Int)) u := fun Q q => by
  have hn : n < vs.length := (List.getElem?_eq_some_iff.mp hu).1
  have ea : atI vs (n : Int) = some u := by
    have : ixN vs.length (n : Int) = some n := by unfold ixN; simp; omega
    unfold atI
    rw [this]
    exact hu
  cases v with
  | str z => cases e
  | tup xs => show match seqOf (.tup xs) h with | some vs => (match atI vs (n : Int) with | some u => Q u h | none => False) | none => False; rw [e]; show match atI vs (n : Int) with | some u => Q u h | none => False; rw [ea]; exact q
  | tpo xs => show match seqOf (.tpo xs) h with | some vs => (match atI vs (n : Int) with | some u => Q u h | none => False) | none => False; rw [e]; show match atI vs (n : Int) with | some u => Q u h | none => False; rw [ea]; exact q
  | lst xs => show match seqOf (.lst xs) h with | some vs => (match atI vs (n : Int) with | some u => Q u h | none => False) | none => False; rw [e]; show match atI vs (n : Int) with | some u => Q u h | none => False; rw [ea]; exact q
  | scr xs => show match seqOf (.scr xs) h with | some vs => (match atI vs (n : Int) with | some u => Q u h | none => False) | none => False; rw [e]; show match atI vs (n : Int) with | some u => Q u h | none => False; rw [ea]; exact q
  | ref xs => show match seqOf (.ref xs) h with | some vs => (match atI vs (n : Int) with | some u => Q u h | none => False) | none => False; rw [e]; show match atI vs (n : Int) with | some u => Q u h | none => False; rw [ea]; exact q
  | _ => cases e
theorem c_len {v : Val} {n : Nat} (e : lenA v h = some n) : EvC h fLen [v] (.int (n : Int)) := fun Q q => by
  show match lenA v h with | some n => Q (.int n) h | none => False
  rw [e]; exact q
section
variable {α : Type} {di : ID} {t : Tg} {tt : TD} {te : ED} {vs : List Nat} {ok : Hv → Prop}
theorem ev_lcF (xs : List α) (f : α → Val) (pv : α → Bool) (g : α → Val) (hdi : EvI ρ h E di ⟨xs.map f, ok⟩) (hok : ∀ h', Sub h h' → ok h') (hl : xs.length ≤ sizeLine)
    (he : ∀ x ∈ xs, ∃ ρ', bT t (f x) (wipeA ρ vs) = some ρ' ∧ (∀ h', Sub h h' → EvT ρ' h' EF tt (pv x)) ∧ (pv x = true → ∀ h', Sub h h' → EvE ρ' h' EF te (g x))) : EvE ρ h E (dLc di t tt te vs) (.lst ((xs.filter pv).map g)) := fun Q q =>
  lc_filtT xs f pv g hdi hok hl (fun x hx => let ⟨ρ', e, a, b⟩ := he x hx; ⟨ρ', e, fun h' Q' sb q' => a h' sb Q' q', fun k h' Q' sb q' => b k h' sb Q' q'⟩) q
theorem ev_lc (xs : List α) (f : α → Val) (g : α → Val) (hdi : EvI ρ h E di ⟨xs.map f, ok⟩) (hok : ∀ h', Sub h h' → ok h') (hl : xs.length ≤ sizeLine)
    (he : ∀ x ∈ xs, ∃ ρ', bT t (f x) (wipeA ρ vs) = some ρ' ∧ ∀ h', Sub h h' → EvE ρ' h' EF te (g x)) : EvE ρ h E (dLc di t tTrue te vs) (.lst (xs.map g)) := fun Q q =>
  lc_mapT xs f g hdi hok hl (fun x hx => let ⟨ρ', e, a⟩ := he x hx; ⟨ρ', e, fun h' Q' sb q' => a h' sb Q' q'⟩) q
theorem ev_all (xs : List α) (f : α → Val) (p : α → Bool) (hdi : EvI ρ h E di ⟨xs.map f, ok⟩) (hok : ∀ h', Sub h h' → ok h') (hl : xs.length ≤ sizeLine)
    (he : ∀ x ∈ xs, ∃ ρ', bT t (f x) (wipeA ρ vs) = some ρ' ∧ ∀ h', Sub h h' → EvE ρ' h' EF te (.bl (p x))) : EvE ρ h E (dCB fAll (aCons (dLc di t tTrue te vs) aNil)) (.bl (xs.all p)) := fun Q q =>
  all_lcT xs f p hdi hok hl (fun x hx => let ⟨ρ', e, a⟩ := he x hx; ⟨ρ', e, fun h' Q' sb q' => a h' sb Q' q'⟩) q
theorem ev_sum (xs : List α) (f : α → Val) (p : α → Int) (hdi : EvI ρ h E di ⟨xs.map f, ok⟩) (hok : ∀ h', Sub h h' → ok h') (hl : xs.length ≤ sizeLine)
    (he : ∀ x ∈ xs, ∃ ρ', bT t (f x) (wipeA ρ vs) = some ρ' ∧ ∀ h', Sub h h' → EvE ρ' h' EF te (.int (p x))) : EvE ρ h E (dCB fSum (aCons (dLc di t tTrue te vs) aNil)) (.int (xs.map p).sum) := fun Q q =>
  sum_lcT xs f p hdi hok hl (fun x hx => let ⟨ρ', e, a⟩ := he x hx; ⟨ρ', e, fun h' Q' sb q' => a h' sb Q' q'⟩) q
end
end
end DL
namespace DL
open PySem PySem.Spec PyProof.Rows L2
def insN (xs : List Nat) (n : Nat) : List Nat := if n ∈ xs then xs else xs ++ [n]
theorem mem_insN {xs : List Nat} {n k : Nat} : k ∈ insN xs n ↔ k ∈ xs ∨ k = n := by
  unfold insN
  split
  · rename_i h
    constructor
    · exact .inl
    · rintro (h' | h')
      · exact h'
      · rw [h']; exact h
  · simp
theorem Small.ins {xs : List Nat} {n : Nat} (s : Small xs) (h : n < 256) : Small (insN xs n) := by
  refine ⟨?_, fun k hk => ?_⟩
  · unfold insN
    split
    · exact s.nd
    · rename_i hn
      rw [List.nodup_append]
      exact ⟨s.nd, by simp, fun a ha b hb => by rw [List.mem_singleton.mp hb]; exact fun e => hn (e ▸ ha)⟩
  · rcases mem_insN.mp hk with h' | h'
    · exact s.lt k h'
    · rw [h']; exact h
theorem nodup_le : ∀ (N : Nat) (xs : List Nat), xs.Nodup → (∀ n ∈ xs, n < N) → xs.length ≤ N
  | 0, xs, _, h => by
    cases xs with
    | nil => simp
    | cons x xs => exact absurd (h x List.mem_cons_self) (Nat.not_lt_zero _)
  | N + 1, xs, nd, h => by
    have ih := nodup_le N (xs.erase N) (nd.erase N) fun n hn => by
      have := (nd.mem_erase_iff).mp hn
      have := h n this.2
      omega
    by_cases e : N ∈ xs
    · rw [List.length_erase_of_mem e] at ih; omega
    · rw [List.erase_of_not_mem e] at ih; omega
theorem Small.len {xs : List Nat} (s : Small xs) : xs.length ≤ 256 := nodup_le 256 xs s.nd s.lt
def upS (f : Str → List Nat) (z : Str) (xs : List Nat) : Str → List Nat := fun y => if y = z then xs else f y
theorem upS_same {f : Str → List Nat} {z : Str} {xs : List Nat} : upS f z xs z = xs := by unfold upS; rw [if_pos rfl]
theorem upS_ne {f : Str → List Nat} {z y : Str} {xs : List Nat} (h : y ≠ z) : upS f z xs y = f y := by unfold upS; rw [if_neg h]
section
variable {G : Gx} {h : Hv} {a : Addr} {b : Book} {hp : Heap'} {gs js : Str → List Nat} {A : Ad}
theorem OffT.refl (h : Hv) : OffT b A h h := fun _ _ => rfl
theorem OffT.trans {h1 h2 : Hv} (x : OffT b A h h1) (y : OffT b A h1 h2) : OffT b A h h2 := fun c hc => (y c hc).trans (x c hc)
variable {E : PX} {Q : PV} {ρ : Sl} {i : Nat}
variable {ds dz dn : ED} {h' : Hv}
end
end DL
namespace DL
open PySem PySem.Spec PyProof.Rows L2
end DL
namespace DL
open PySem PySem.Spec PyProof.Rows L2
section
variable {G : Gx} {a : Addr} {b : Book} {hp : Heap'} {gs js : Str → List Nat} {A : Ad} {m : Nat}
end
end DL
namespace DL
open PySem PySem.Spec PyProof.Rows L2
theorem f_ix0 {h : Hv} {v : Val} {vs : List Val} {u : Val} (e : seqOf v h = some vs) (hu : vs[0]? = some u) : EvF h fIx v (.int 0) u := f_ixL (n := 0) e hu
theorem f_ix1 {h : Hv} {v : Val} {vs : List Val} {u : Val} (e : seqOf v h = some vs) (hu : vs[1]? = some u) : EvF h fIx v (.int 1) u := f_ixL (n := 1) e hu
theorem f_eqI {h : Hv} {i j : Int} : EvF h fEq (.int i) (.int j) (.bl (decide (i = j))) := fun Q q => by
  show match scA (.int i) (.int j) with | some b => Q (.bl b) h | none => datEq (.int i) (.int j) h fun b => Q (.bl b) h
  exact q
end DL
namespace DL
open PySem PySem.Spec PyProof.Rows L2
end DL
namespace DL
open PySem PySem.Spec PyProof.Rows L2
end DL
namespace DL
open PySem PySem.Spec PyProof.Rows L2
end DL
namespace DL
open PySem PySem.Spec PyProof.Rows L2
theorem setI_ne {n : Nat} (hn : n < 256) (n0 : n ≠ 0) : ∃ x r, setI n = x :: r := by
  cases e : setI n with
  | nil => have := bits_set hn; rw [e] at this; exact absurd this.symm n0
  | cons x r => exact ⟨x, r, rfl⟩
end DL
namespace DL
open PySem PySem.Spec PyProof.Rows L2
theorem f_addL {h : Hv} {v w : Val} {xs ys : List Val} (e1 : listOf v h = some xs) (e2 : listOf w h = some ys) (hl : xs.length + ys.length ≤ sizeLine) : EvF h fAdd v w (.lst (xs ++ ys)) := fun Q q => by
  unfold fAdd
  split
  · cases e1
  · cases e1
  · cases e1
  · cases e1
  · cases e1
  · rw [e1, e2]; exact ⟨hl, q⟩
theorem f_addT {h : Hv} {xs ys : List Val} (hl : xs.length + ys.length ≤ sizeLine) : EvF h fAdd (.tup xs) (.tup ys) (.tup (xs ++ ys)) := fun Q q => ⟨hl, q⟩
end DL
namespace DL
open PySem PySem.Spec PyProof.Rows L2
theorem okN_lints {xs : List Int} (h : xs.length ≤ 1000) (d : Nat) : okN (d + 1) (.lst (xs.map .int)) = true := by
  rw [okN_lst]
  refine ⟨fun v hv => ?_, by rw [List.length_map]; exact h⟩
  obtain ⟨n, -, rfl⟩ := List.mem_map.mp hv
  cases d <;> rfl
end DL
namespace DL
open PySem PySem.Spec PyProof.Rows L2
section
variable {h h' : Hv} {d : Addr} {la : Str → Addr} {b : Book} {fs : Str → List Nat} {ρ : Sl} {E : PX} {dd dz : ED}
theorem DV.sub {kvs : List (Key × Val)} (v : DV h d kvs) (sb : Sub h h') : DV h' d kvs := v.imp (sb d _) fun ⟨o, xs, e⟩ => ⟨o, xs, sb d _ e⟩
end
end DL
namespace DL
open PySem PySem.Spec PyProof.Rows L2
theorem okN_encS (n d : Nat) : okN (d + 1) (encS n) = true := okN_ints (by have := setI_len n; omega) d
structure FB (G : Gx) (h0 h : Hv) (d : Addr) (la : Str → Addr) (b : Book) (fs : Str → List Nat) : Prop where
  f : FndAt h d la b fs
  g : Grw G h0 h
  nd : h0 d = none
  nl : ∀ z ∈ b.names, h0 (la z) = none ∧ la z ≠ d
section
variable {G : Gx} {h0 h : Hv} {d : Addr} {la : Str → Addr} {b : Book} {fs : Str → List Nat} {z : Str} {n : Nat}
theorem FB.app (t : FB G h0 h d la b fs) (hz : z ∈ b.names) (hn : n < 256) (n0 : n ≠ 0) (nf : n ∉ fs z) : FB G h0 (put h (la z) (.lst ((fs z).map encS ++ [encS n]))) d la b (upS fs z (fs z ++ [n])) := by
  refine ⟨⟨?_, fun y hy => ?_, t.f.nl, fun y hy => ?_, fun y hy => ?_⟩, t.g.write (t.nl z hz).1 (t.f.l z hz) (fun _ z => nomatch z) (fun z => nomatch z) (fun _ z => nomatch z), t.nd, t.nl⟩
  · rcases t.f.d with v | ⟨o, xs, v⟩
    · exact .inl (by rw [put_ne (t.nl z hz).2.symm]; exact v)
    · exact .inr ⟨o, xs, by rw [put_ne (t.nl z hz).2.symm]; exact v⟩
  · by_cases e : y = z
    · subst e; rw [put_same, upS_same, List.map_append]; rfl
    · rw [put_ne (t.f.nl y hy z hz e), upS_ne e]; exact t.f.l y hy
  · by_cases e : y = z
    · subst e; rw [upS_same]
      refine ⟨List.nodup_append.mpr ⟨(t.f.s y hy).nd, by simp, fun a ha c hc => ?_⟩, fun k hk => ?_⟩
      · rw [List.mem_singleton.mp hc]; exact fun e => nf (e ▸ ha)
      · rcases List.mem_append.mp hk with hk | hk
        · exact (t.f.s y hy).lt k hk
        · rw [List.mem_singleton.mp hk]; exact hn
    · rw [upS_ne e]; exact t.f.s y hy
  · by_cases e : y = z
    · subst e; rw [upS_same]
      intro k hk
      rcases List.mem_append.mp hk with hk | hk
      · exact t.f.z y hy k hk
      · rw [List.mem_singleton.mp hk]; exact n0
    · rw [upS_ne e]; exact t.f.z y hy
theorem FB.frz (t : FB G h0 h d la b fs) {kvs : List (Key × Val)} (e : h d = some (.dK kvs)) (o : Obj) (xs : List (Key × V)) : FB G h0 (put h d (.dF o xs (refD b la))) d la b fs := by
  refine ⟨⟨.inr ⟨o, xs, put_same⟩, fun y hy => ?_, t.f.nl, t.f.s, t.f.z⟩, t.g.write t.nd e (fun _ z => nomatch z) (fun z => nomatch z) (fun _ z => nomatch z), t.nd, t.nl⟩
  rw [put_ne (t.nl y hy).2]; exact t.f.l y hy
end
end DL
namespace DL
open PySem PySem.Spec PyProof.Rows L2
theorem cb1 {f : FA} {d : ED} {ρ : Sl} {h : Hv} {Q : PV} {E : PX} (q : d ρ h (fun v h1 => f [v] h1 Q) E) : dCB f (aCons d aNil) ρ h Q E := q
end DL
namespace DL
open PySem PySem.Spec PyProof.Rows L2
end DL
namespace DL
open PySem PySem.Spec PyProof.Rows L2
section
variable {ρ : Sl} {h : Hv} {E : PX} {aa ab : AD} {vs ws : List Val} {u v : Val} {da : ED} {s2 : SD} {D : AE}
theorem f_neS (ok : okN 64 v = true) (hs : scA v v = none := by rfl) : EvF h fNe v v (.bl false) := fun Q q => fNe_dat ok ok (by rw [eqD_refl ok]; exact q) hs
end
theorem e_call {n : Nat} {fs : SpF} {ρ : Sl} {h : Hv} {E : PX} {aa : AD} {vs : List Val} {Q : PV} (ha : EvA ρ h E aa vs) (hn : vs.length = n) (hf : fs vs h Q (fun nm pl h' => E nm pl ρ h')) : dCall n fs aa ρ h Q E := ha _ ⟨hn, hf⟩
theorem x_set {i : Nat} {d : ED} {s2 : SD} {ρ : Sl} {h : Hv} {E : PX} {D : AE} (q : d ρ h (fun v h => s2 (ρ.set i (some v)) h D E) E) : sSeq (sSet i d) s2 ρ h D E := q
theorem Town.sub {t r : Addr} {h h' : Hv} (T : Town t r h) (s : Sub h h') : Town t r h' := by
  obtain ⟨c, c0, e1⟩ := T.tc
  obtain ⟨rs, e2, k⟩ := T.rc
  exact ⟨T.ne, ⟨c, c0, s _ _ e1⟩, rs, s _ _ e2, k⟩
section
variable {ρ : Sl} {h : Hv} {E : PX} {s2 : SD} {D : AE} {ns : List Int} {t r : Addr} {Ts : List (Addr × Str)}
theorem ss_begun {i : Nat} (tb : Tbs Ts h) (q : ∀ t r h', Town t r h' → Tbs Ts h' → s2 (ρ.set i (some (.ref t))) h' D E) : sSeq (sSet i (dCall 0 S__law_begun aNil)) s2 ρ h D E :=
  s_seq (show _ ∧ _ from ⟨rfl, rfl, fun t r h1 ht hr T1 o1 => q t r h1 T1 (tb.begin ht hr T1 o1)⟩)
theorem ss_book {i : Nat} {ds dt : ED} (nl : ns.length ≤ 63) (T : Town t r h) (tb : Tbs Ts h) (hs : EvE ρ h E ds (.scr ns)) (ht : EvE ρ h E dt (.ref t)) (q : ∀ b h', Drawn b → Town t r h' → Tbs Ts h' → Only t r h h' → s2 (ρ.set i (some (encB b))) h' D E) : sSeq (sSet i (dCall 2 S__law_a_book (aCons ds (aCons dt aNil)))) s2 ρ h D E :=
  x_set (e_call (eva2 hs ht) rfl ⟨ns, t, r, rfl, nl, T, fun b h' db T' o' => q b h' db T' (tb.town T T' o') o'⟩)
theorem ss_heap {i : Nat} {ds dt db dm : ED} {b : Book} {most : Int} (nl : ns.length ≤ 63) (m1 : 1 ≤ most) (m8 : most ≤ 8) (bl : b.lands.length ≤ 4) (T : Town t r h) (tb : Tbs Ts h) (hs : EvE ρ h E ds (.scr ns)) (ht : EvE ρ h E dt (.ref t)) (hb : EvE ρ h E db (encB b)) (hm : EvE ρ h E dm (.int most)) (q : ∀ hp h', DrawnH b hp most → Town t r h' → Tbs Ts h' → Only t r h h' → s2 (ρ.set i (some (encH hp))) h' D E) : sSeq (sSet i (dCall 4 S__law_a_heap (aCons ds (aCons dt (aCons db (aCons dm aNil)))))) s2 ρ h D E :=
  x_set (e_call (eva_cons hs (eva_cons ht (eva2 hb hm))) rfl ⟨ns, t, r, b, most, rfl, nl, m1, m8, bl, T, fun b h' db T' o' => q b h' db T' (tb.town T T' o') o'⟩)
theorem e_draw {ds dt dm : ED} {m : Int} {Q : PV} (nl : ns.length ≤ 63) (m0 : 0 < m) (m1 : m < 1073741824) (T : Town t r h) (tb : Tbs Ts h) (hs : EvE ρ h E ds (.scr ns)) (ht : EvE ρ h E dt (.ref t)) (hm : EvE ρ h E dm (.int m)) (q : ∀ n h', 0 ≤ n → n < m → Town t r h' → Tbs Ts h' → Only t r h h' → Q (.int n) h') : dCall 3 S__law_draw (aCons ds (aCons dt (aCons dm aNil))) ρ h Q E :=
  (eva_cons hs (eva2 ht hm)) _ ⟨rfl, ns, t, r, m, rfl, m0, m1, nl, T, fun n h' n0 n1 T' o' => q n h' n0 n1 T' (tb.town T T' o') o'⟩
end
theorem drawn_hp {b : Book} {hp : Heap'} {m : Int} (dh : DrawnH b hp m) (hm : m ≤ 8) : HpOk b hp := ⟨by have := dh.nm; omega, dh.fr⟩
theorem names_len {b : Book} (wf : WFB b) : b.names.length ≤ 4 := by have := wf.n4; unfold Book.names; rw [List.length_map]; exact this
theorem FndAt.only {h h' : Hv} {d : Addr} {la : Str → Addr} {b : Book} {fs : Str → List Nat} {t r : Addr} (f : FndAt h d la b fs) (nd : d ≠ t ∧ d ≠ r) (nl : ∀ z ∈ b.names, la z ≠ t ∧ la z ≠ r) (on : Only t r h h') : FndAt h' d la b fs :=
  ⟨f.d.imp (fun e => (on d nd.1 nd.2).trans e) fun ⟨o, xs, e⟩ => ⟨o, xs, (on d nd.1 nd.2).trans e⟩, fun z hz => (on _ (nl z hz).1 (nl z hz).2).trans (f.l z hz), f.nl, f.s, f.z⟩
theorem FndAt.sub {h h' : Hv} {d : Addr} {la : Str → Addr} {b : Book} {fs : Str → List Nat} (f : FndAt h d la b fs) (s : Sub h h') : FndAt h' d la b fs :=
  ⟨f.d.sub s, fun z hz => s _ _ (f.l z hz), f.nl, f.s, f.z⟩
end DL
namespace DL
open PySem PySem.Spec PyProof.Rows L2
def Ris (xs : List Nat) : Prop := xs.Pairwise fun a b => setI a < setI b
structure LotOk (b : Book) (hp : Heap') (fs : Str → List Nat) : Prop where
  r : ∀ z ∈ b.names, Ris (fs z)
  s : ∀ z ∈ b.names, ∀ n ∈ fs z, n ≠ 0 ∧ inH hp n
def lotV (b : Book) (fs : Str → List Nat) : Val := .tup (b.names.map fun z => .tup ((fs z).map encS))
end DL
namespace DL
open PySem PySem.Spec PyProof.Rows L2
end DL
namespace DL
open PySem PySem.Spec PyProof.Rows L2
end DL
namespace DL
open PySem PySem.Spec PyProof.Rows L2
section
variable {ρ : Sl} {h : Hv} {E : PX} {da db : ED}
theorem lcL2_any {α β : Type} {t t1 : Tg} {di1 : ID} {te : ED} {vs1 : List Nat} {ρw : Sl} (f : α → Val) (ys : α → List β) (g : β → Val) (p : α → β → Bool) {n : Nat} : ∀ (xs : List α) (acc : List Val) (Q : List Val → Hv → Prop), acc.length + xs.length * n ≤ sizeLine →
    (∀ x ∈ xs, (ys x).length ≤ n ∧ ∃ ρ', bT t (f x) ρw = some ρ' ∧ EvI ρ' h EF di1 ⟨(ys x).map g, fun _ => True⟩ ∧ ∀ y ∈ ys x, ∃ ρ2, bT t1 (g y) (wipeA ρ' vs1) = some ρ2 ∧ EvE ρ2 h EF te (.bl (p x y))) →
    Q (acc ++ xs.flatMap fun x => (ys x).map fun y => .bl (p x y)) h → lcL2 (fun _ => True) t tTrue di1 t1 tTrue te vs1 ρw (xs.map f) acc h Q
  | [], acc, Q, hl, he, q => ⟨trivial, by simpa using q⟩
  | x :: xs, acc, Q, hl, he, q => by
    obtain ⟨hn, ρ', e, hi, hy⟩ := he x List.mem_cons_self
    rw [List.map_cons, lcL2]
    refine ⟨trivial, ?_⟩
    rw [e]
    simp only [tTrue, if_true]
    refine hi _ ?_
    rw [List.length_cons, Nat.succ_mul] at hl
    refine lcL_filtT g (fun _ => true) (fun y => .bl (p x y)) trivial (ys x) acc _ (by omega) (fun y hy' => ?_) ?_
    · obtain ⟨ρ2, e2, ev⟩ := hy y hy'
      exact ⟨ρ2, e2, fun Q' q' => q', fun _ Q' q' => ev Q' q'⟩
    · refine lcL2_any f ys g p (n := n) xs _ Q ?_ (fun x' hx' => he x' (List.mem_cons_of_mem _ hx')) ?_
      · rw [List.length_append, List.length_map, List.filter_eq_self.mpr (fun _ _ => rfl)]; omega
      · rw [List.filter_eq_self.mpr (fun _ _ => rfl), List.append_assoc]
        rw [List.flatMap_cons] at q
        exact q
theorem ev_any2 {α β : Type} {t t1 : Tg} {di di1 : ID} {te : ED} {vs vs1 : List Nat} (xs : List α) (f : α → Val) (ys : α → List β) (g : β → Val) (p : α → β → Bool) (n : Nat) (hl : xs.length * n ≤ sizeLine) (hdi : EvI ρ h E di ⟨xs.map f, fun _ => True⟩)
    (he : ∀ x ∈ xs, (ys x).length ≤ n ∧ ∃ ρ', bT t (f x) (wipeA ρ vs) = some ρ' ∧ (∀ h', Sub h h' → EvI ρ' h' EF di1 ⟨(ys x).map g, fun _ => True⟩) ∧ ∀ y ∈ ys x, ∃ ρ2, bT t1 (g y) (wipeA ρ' vs1) = some ρ2 ∧ ∀ h', Sub h h' → EvE ρ2 h' EF te (.bl (p x y))) :
    EvE ρ h E (dCB fAny (aCons (dLc2 di t tTrue di1 t1 tTrue te vs vs1) aNil)) (.bl (xs.any fun x => (ys x).any (p x))) := fun Q q => by
  refine cb1 (hdi _ fun D nD => ?_)
  have sb : Sub h (put h D .busy) := Sub.put nD
  refine lcL2_any f ys g p (n := n) xs [] _ (by simpa using hl) (fun x hx => ?_) ?_
  · obtain ⟨a, ρ', e, c, d⟩ := he x hx
    exact ⟨a, ρ', e, c _ sb, fun y hy => let ⟨ρ2, e2, ev⟩ := d y hy; ⟨ρ2, e2, ev _ sb⟩⟩
  · rw [drop_put nD, List.nil_append]
    have e : (xs.flatMap fun x => (ys x).map fun y => Val.bl (p x y)) = (xs.flatMap fun x => (ys x).map (p x)).map .bl := by
      rw [List.map_flatMap]
      congr 1
      funext x
      rw [List.map_map]
      rfl
    rw [e]
    show fAny [.lst ((xs.flatMap fun x => (ys x).map (p x)).map fun v => .bl v)] h Q
    have e3 : blsOf ((xs.flatMap fun x => (ys x).map (p x)).map fun v => Val.bl v) = some (xs.flatMap fun x => (ys x).map (p x)) := blsOf_map' _
    simp only [fAny, listOf, Option.bind_some, e3]
    have e2 : (xs.flatMap fun x => (ys x).map (p x)).any id = xs.any fun x => (ys x).any (p x) := by
      rw [List.any_flatMap]
      congr 1
      funext x
      rw [List.any_map]
      rfl
    rw [e2]; exact q
end
structure Gr0 (h0 h : Hv) : Prop where
  sub : Sub h0 h
  bz : ∀ c, h c = some .busy → h0 c = some .busy
theorem Gr0.refl (h : Hv) : Gr0 h h := ⟨Sub.refl h, fun _ e => e⟩
theorem Gr0.new {h0 h : Hv} {p : Addr} {o : Ob} (g : Gr0 h0 h) (e : h p = none) (nb : o ≠ .busy) : Gr0 h0 (put h p o) :=
  ⟨g.sub.trans (Sub.put e), fun c hc => by
    by_cases z : c = p
    · subst z; rw [put_same] at hc; exact absurd (Option.some.inj hc) nb
    · rw [put_ne z] at hc; exact g.bz c hc⟩
theorem Gr0.write {h0 h : Hv} {p : Addr} {o : Ob} (g : Gr0 h0 h) (e0 : h0 p = none) (nb : o ≠ .busy) : Gr0 h0 (put h p o) :=
  ⟨fun c w hc => by rw [put_ne (fun z => by rw [z, e0] at hc; cases hc)]; exact g.sub c w hc, fun c hc => by
    by_cases z : c = p
    · subst z; rw [put_same] at hc; exact absurd (Option.some.inj hc) nb
    · rw [put_ne z] at hc; exact g.bz c hc⟩
theorem Gr0.none {h0 h : Hv} (g : Gr0 h0 h) {c : Addr} (e : h c = none) : h0 c = none := by
  cases e0 : h0 c with
  | none => rfl
  | some o => rw [g.sub c o e0] at e; cases e
structure TldAt (h : Hv) (d : Addr) (ta : Str → Addr) (b : Book) (fs : Str → List Nat) : Prop where
  dv : DV h d (refD b ta)
  l : ∀ z ∈ b.names, h (ta z) = some (.dK (encD (fs z)))
  ne : ∀ z ∈ b.names, ta z ≠ d
theorem TldAt.sub {h h' : Hv} {d : Addr} {ta : Str → Addr} {b : Book} {fs : Str → List Nat} (t : TldAt h d ta b fs) (s : Sub h h') : TldAt h' d ta b fs := ⟨t.dv.sub s, fun z hz => s _ _ (t.l z hz), t.ne⟩
theorem TldAt.fresh {h : Hv} {d : Addr} {ta : Str → Addr} {b : Book} {fs : Str → List Nat} (t : TldAt h d ta b fs) {j : Addr} (e : h j = none) : j ≠ d ∧ ∀ z ∈ b.names, j ≠ ta z := by
  refine ⟨fun e2 => ?_, fun z hz e2 => by rw [e2, t.l z hz] at e; cases e⟩
  subst e2
  rcases t.dv with v | ⟨o, xs, v⟩ <;> (rw [v] at e; cases e)
theorem TldAt.put {h : Hv} {d : Addr} {ta : Str → Addr} {b : Book} {fs : Str → List Nat} (t : TldAt h d ta b fs) {j : Addr} {o : Ob} (n : j ≠ d ∧ ∀ z ∈ b.names, j ≠ ta z) : TldAt (DL.put h j o) d ta b fs :=
  ⟨t.dv.imp (fun e => by rw [put_ne n.1.symm]; exact e) fun ⟨o, xs, e⟩ => ⟨o, xs, by rw [put_ne n.1.symm]; exact e⟩, fun z hz => by rw [put_ne (n.2 z hz).symm]; exact t.l z hz, t.ne⟩
theorem TldAt.frz {h : Hv} {d : Addr} {ta : Str → Addr} {b : Book} {fs : Str → List Nat} (t : TldAt h d ta b fs) (o : Obj) (xs : List (Key × V)) : TldAt (DL.put h d (.dF o xs (refD b ta))) d ta b fs :=
  ⟨.inr ⟨o, xs, put_same⟩, fun z hz => by rw [put_ne (t.ne z hz)]; exact t.l z hz, t.ne⟩
section
variable {h h' : Hv} {d : Addr} {ta : Str → Addr} {b : Book} {fs : Str → List Nat} {ρ : Sl} {E : PX} {dd dz dn : ED} {z : Str} {n : Nat}
end
theorem Ris.nodup {xs : List Nat} (r : Ris xs) : xs.Nodup := r.imp fun {a b} h e => by subst e; exact List.lt_irrefl _ h
section
variable {b : Book} {hp : Heap'} {fs : Str → List Nat}
theorem LotOk.small (l : LotOk b hp fs) (h8 : hp.length ≤ 8) {z : Str} (hz : z ∈ b.names) : Small (fs z) := ⟨(l.r z hz).nodup, fun n hn => inH_lt h8 (l.s z hz n hn).2⟩
theorem LotOk.okN (l : LotOk b hp fs) (h8 : hp.length ≤ 8) (wf : WFB b) (d : Nat) : DL.okN (d + 3) (lotV b fs) = true := by
  unfold lotV
  rw [okN_tup]
  refine ⟨fun v hv => ?_, by rw [List.length_map]; have := names_len wf; omega⟩
  obtain ⟨z, hz, rfl⟩ := List.mem_map.mp hv
  rw [okN_tup]
  refine ⟨fun v hv => ?_, by rw [List.length_map]; have := (l.small h8 hz).len; omega⟩
  obtain ⟨n, -, rfl⟩ := List.mem_map.mp hv
  exact okN_encS n d
end
end DL
namespace DL
open PySem PySem.Spec PyProof.Rows L2
def fTupleB : FA := fun vs h Q => ∃ v ws, vs = [v] ∧ listOf v h = some ws ∧ (Q (.tup ws) h ∨ Q (.tpo ws) h)
theorem call_tupleB {X : Cx} : CallR X (.type "tuple") (fun xs H Q => (∃ p ys, xs = [.ref p] ∧ SqL X.K H p ys ∧ ∀ l, H l = none → Q (.ref l) (upd H l (.tup ys))) ∨ ∃ p ys, xs = [.ref p] ∧ SqL X.K H p ys ∧ ∀ l (o : Obj), H l = none → o.dict = none → Q (.ref l) (upd H l (.frz o (.tup ys)))) := by
  intro pins s σ H xs us Q I r q
  rcases q with ⟨p, ys, e, hs, q⟩ | q
  · exact call_tuple_of pins s σ H xs us Q I r ⟨p, ys, e, .inl ⟨hs, q⟩⟩
  · exact call_tupleF pins s σ H xs us Q I r q
theorem cl_tupleB {K : PySem.W.Frag} : CaL K fTupleB (fun xs H Q => (∃ p ys, xs = [.ref p] ∧ SqL K H p ys ∧ ∀ l, H l = none → Q (.ref l) (upd H l (.tup ys))) ∨ ∃ p ys, xs = [.ref p] ∧ SqL K H p ys ∧ ∀ l (o : Obj), H l = none → o.dict = none → Q (.ref l) (upd H l (.frz o (.tup ys)))) := fun vs xs h H Q' Q r rs q c => by
  obtain ⟨v, ws, rfl, hl, q⟩ := q
  obtain ⟨x, ex, rx⟩ := rvs1 rs
  obtain ⟨a, ys, e1, e2, e3⟩ := listOf_rel r rx hl
  subst e1
  rcases q with q | q
  · exact .inl ⟨a, ys, ex, .of e2, fun l np => c.tup r e3 np q⟩
  · exact .inr ⟨a, ys, ex, .of e2, fun l o np hd => c.tpo r e3 np hd q⟩
def nolA (b : Book) : Val → Option Bool
  | .non => some true
  | .str z => some (decide (z ∈ b.names))
  | .int _ => some false
  | _ => none
def clmA (b : Book) : Val → Option Bool
  | .tup [_, w] => nolA b w
  | .tup vs => if vs.length = 2 then none else some false
  | _ => none
def S_is_none_or_landX : SpF := fun as h Q _ => ∃ (b : Book) (v : Val) (r : Bool), as = [encB b, v] ∧ b.lands.length ≤ 4 ∧ nolA b v = some r ∧ Q (.bl r) h
def S_is_claim : SpF := fun as h Q _ => ∃ (b : Book) (v : Val) (r : Bool), as = [encB b, v] ∧ b.lands.length ≤ 4 ∧ clmA b v = some r ∧ Q (.bl r) h
def S_all_countsX : SpF := fun as h Q _ => ∃ (b : Book) (hp : Heap') (t : Tree), as = [encB b, encH hp, t.enc] ∧ WFB b ∧ TrOk b hp t ∧ t.ht < 24 ∧ t.size ≤ 900 ∧ (Q (.tup ((t.rows b hp []).map encRow)) h ∨ Q (.tpo ((t.rows b hp []).map encRow)) h)
def inNm' (b : Book) : Option Str → Bool
  | none => true
  | some z => decide (z ∈ b.names)
inductive BadC (b : Book) (t : Tree) : Val → Prop
  | non : BadC b t .non
  | int (i : Int) : BadC b t (.int i)
  | row (vs : List Val) (hl : vs.length ≤ 1000) (hs : ∀ x ∈ vs, (clmA b x).isSome = true) (x : Val) (hx : x ∈ vs) (hb : clmA b x = some false) : BadC b t (.tup vs)
  | paths (ps : List (Val × Option Str)) (hl : ps.length ≤ 1000) (hs : ∀ p ∈ ps, okN 3 p.1 = true ∧ inNm' b p.2 = true) (ne : eqD (.lst (ps.map (·.1))) (.lst (t.paths.map encPt)) = false) : BadC b t (.tup (ps.map fun p => .tup [p.1, encO p.2]))
structure ClOk (b : Book) (t : Tree) (cs : List Row) : Prop where
  ps : cs.map (·.1) = t.paths
  fr : ∀ r ∈ cs, inNm' b r.2 = true
def ClB (b : Book) (hp : Heap') (t : Tree) : Prop := WFB b ∧ TrOk b hp t ∧ t.ht < 24 ∧ t.size ≤ 900
def S_look_claims : SpF := fun as h Q E => ∃ (b : Book) (hp : Heap') (t : Tree) (v : Val), as = [encB b, encH hp, t.enc, v] ∧ ClB b hp t ∧
  ((BadC b t v ∧ E "NoClaims" none h) ∨ ∃ cs : List Row, (v = .tup (cs.map encRow) ∨ v = .tpo (cs.map encRow)) ∧ ClOk b t cs ∧ Q .non h)
def wrongA (b : Book) (hp : Heap') (t : Tree) (cs : List Row) : List (List Int) := (cs.filter fun r => !decide (r.2 = landAt b hp t r.1)).map (·.1)
def S_wrong_claims : SpF := fun as h Q E => ∃ (b : Book) (hp : Heap') (t : Tree) (v : Val), as = [encB b, encH hp, t.enc, v] ∧ ClB b hp t ∧
  ((BadC b t v ∧ E "NoClaims" none h) ∨ ∃ cs : List Row, (v = .tup (cs.map encRow) ∨ v = .tpo (cs.map encRow)) ∧ ClOk b t cs ∧ Q (.tup ((wrongA b hp t cs).map encPt)) h)
def clAt (cs : List Row) (p : List Int) : Option Str := ((cs.find? fun r => decide (r.1 = p)).map (·.2)).getD none
def cntC (b : Book) (hp : Heap') (z : Str) (f : List Int → Option Str) (path : List Int) : Nat → List Tree → Int
  | _, [] => 0
  | i, t :: ts => (match f (path ++ [(i : Int)]) with
    | some l => if l ∈ takesL b z then t.whole hp else 0
    | none => 0) + cntC b hp z f path (i + 1) ts
def folA (b : Book) (hp : Heap') (t : Tree) (f : List Int → Option Str) (path : List Int) : Bool := match t.at path with
  | some (.leaf n) => decide (f path = rawL hp n)
  | some (.node z ts) => decide (f path = if enough b z (cntC b hp z f path 0 ts) (wholeTs hp ts) = true then some z else none)
  | none => false
def dtC (cs : List Row) : List (List Key × Val) := cs.map fun r => (r.1.map Sum.inl, encO r.2)
def S_follows : SpF := fun as h Q _ => ∃ (b : Book) (hp : Heap') (t : Tree) (d : Addr) (path : List Int) (cs : List Row), as = [encB b, encH hp, t.enc, .ref d, encPt path] ∧ ClB b hp t ∧ ClOk b t cs ∧ h d = some (.dT (dtC cs)) ∧ path ∈ t.paths ∧ Q (.bl (folA b hp t (clAt cs) path)) h
def firstA (b : Book) (hp : Heap') (t : Tree) (cs : List Row) : List (List Int) := (cs.filter fun r => !folA b hp t (clAt cs) r.1).map (·.1)
def S_first_wrongs : SpF := fun as h Q E => ∃ (b : Book) (hp : Heap') (t : Tree) (v : Val), as = [encB b, encH hp, t.enc, v] ∧ ClB b hp t ∧
  ((BadC b t v ∧ E "NoClaims" none h) ∨ ∃ cs : List Row, v = .tpo (cs.map encRow) ∧ ClOk b t cs ∧ Q (.tup ((firstA b hp t cs).map encPt)) h)
end DL
namespace DL
open PySem PySem.Spec PyProof.Rows L2
theorem nd_map {α β : Type} {f : α → β} (hf : ∀ a b, f a = f b → a = b) {l : List α} (h : l.Nodup) : (l.map f).Nodup := List.pairwise_map.mpr (List.Pairwise.imp (fun ne e => ne (hf _ _ e)) h)
theorem mem_pathsTs {j k : Nat} {ts : List Tree} {u : Tree} {q : List Int} (hk : ts[k]? = some u) (hq : q ∈ u.paths) : ((j + k : Nat) : Int) :: q ∈ pathsTs j ts := by
  induction ts generalizing j k with
  | nil => simp at hk
  | cons t ts ih =>
    rw [pathsTs]
    cases k with
    | zero =>
      have : t = u := by simpa using hk
      subst this
      exact List.mem_append_left _ (List.mem_map.mpr ⟨q, hq, by simp⟩)
    | succ k =>
      refine List.mem_append_right _ ?_
      have := ih (j := j + 1) (k := k) (by simpa using hk)
      rw [show j + 1 + k = j + (k + 1) by omega] at this
      exact this
theorem at_path : ∀ (p : List Int) (t u : Tree), t.at p = some u → p ∈ t.paths
  | [], t, u, _ => by cases t <;> rw [Tree.paths] <;> exact List.mem_cons_self
  | i :: p, .leaf n, u, h => (at_leaf h).elim
  | i :: p, .node z ts, u, h => by
    obtain ⟨h0, hk, hu⟩ := at_node h
    obtain ⟨k, rfl⟩ := Int.eq_ofNat_of_zero_le h0
    have hk : k < ts.length := by simpa using hk
    have hu : (ts[k]).at p = some u := by simpa using hu
    rw [Tree.paths]
    refine List.mem_cons_of_mem _ ?_
    have := mem_pathsTs (j := 0) (List.getElem?_eq_getElem hk) (at_path p _ _ hu)
    rwa [Nat.zero_add] at this
theorem of_pathsTs {j : Nat} : ∀ {ts : List Tree} {p : List Int}, p ∈ pathsTs j ts → ∃ (k : Nat) (u : Tree) (q : List Int), ts[k]? = some u ∧ q ∈ u.paths ∧ p = ((j + k : Nat) : Int) :: q := fun {ts} => by
  induction ts generalizing j with
  | nil => intro p h; rw [pathsTs] at h; cases h
  | cons t ts ih =>
    intro p h
    rw [pathsTs] at h
    rcases List.mem_append.mp h with h | h
    · obtain ⟨q, hq, rfl⟩ := List.mem_map.mp h
      exact ⟨0, t, q, rfl, hq, by simp⟩
    · obtain ⟨k, u, q, hk, hq, e⟩ := ih h
      exact ⟨k + 1, u, q, by simpa using hk, hq, by rw [e, show j + 1 + k = j + (k + 1) by omega]⟩
mutual
theorem paths_nd : ∀ t : Tree, t.paths.Nodup
  | .leaf n => by rw [Tree.paths]; simp
  | .node z ts => by
    rw [Tree.paths, List.nodup_cons]
    refine ⟨fun h => ?_, pathsTs_nd 0 ts⟩
    obtain ⟨k, u, q, _, _, e⟩ := of_pathsTs h
    cases e
theorem pathsTs_nd : ∀ (i : Nat) (ts : List Tree), (pathsTs i ts).Nodup
  | i, [] => by rw [pathsTs]; exact List.nodup_nil
  | i, t :: ts => by
    rw [pathsTs, List.nodup_append]
    refine ⟨nd_map (fun a b e => (List.cons.inj e).2) (paths_nd t), pathsTs_nd (i + 1) ts, fun a ha b hb e => ?_⟩
    obtain ⟨q, _, rfl⟩ := List.mem_map.mp ha
    obtain ⟨k, u, q', _, _, e'⟩ := of_pathsTs hb
    rw [← e, List.cons.injEq] at e'
    omega
end
theorem at_snoc {t : Tree} {p : List Int} {z : Str} {ts : List Tree} {i : Nat} (h : t.at p = some (.node z ts)) (hi : i < ts.length) : t.at (p ++ [(i : Int)]) = some ts[i] := by
  rw [at_appT, h]
  show (Tree.node z ts).at [(i : Int)] = some ts[i]
  rw [Tree.at, if_pos (by omega)]
  have : ts[(i : Int).toNat]? = some ts[i] := by simp [hi]
  rw [this]
  rfl
theorem inl_inj : Function.Injective (fun p : List Int => (p.map Sum.inl : List Key)) := fun a => by
  induction a with
  | nil => intro b e; cases b with
    | nil => rfl
    | cons y b => cases e
  | cons x a ih => intro b e; cases b with
    | nil => cases e
    | cons y b =>
      have e : (Sum.inl x : Key) :: a.map Sum.inl = Sum.inl y :: b.map Sum.inl := e
      rw [List.cons.injEq] at e
      rw [Sum.inl.inj e.1, ih e.2]
theorem val_dt : ∀ {cs : List Row} {p : List Int}, p ∈ cs.map (·.1) → valA (dtC cs) (p.map Sum.inl) = some (encO (clAt cs p))
  | [], p, h => by cases h
  | r :: cs, p, h => by
    unfold dtC valA clAt
    rw [List.map_cons, List.find?_cons, List.find?_cons]
    by_cases e : r.1 = p
    · subst e
      simp
    · have e' : ¬ (r.1.map Sum.inl : List Key) = p.map Sum.inl := fun z => e (inl_inj z)
      rw [show decide ((r.1.map Sum.inl : List Key) = p.map Sum.inl) = false from decide_eq_false e', show decide (r.1 = p) = false from decide_eq_false e]
      have hm : p ∈ cs.map (·.1) := by
        rcases List.mem_cons.mp h with z | z
        · exact absurd z.symm e
        · exact z
      have := val_dt hm
      unfold dtC valA clAt at this
      exact this
theorem cl_of {cs : List Row} (nd : (cs.map (·.1)).Nodup) {r : Row} (hr : r ∈ cs) : clAt cs r.1 = r.2 := by
  induction cs with
  | nil => cases hr
  | cons c cs ih =>
    unfold clAt
    rw [List.find?_cons]
    rw [List.map_cons, List.nodup_cons] at nd
    rcases List.mem_cons.mp hr with e | e
    · subst e; simp
    · have ne : c.1 ≠ r.1 := fun z => nd.1 (z ▸ List.mem_map_of_mem e)
      rw [show decide (c.1 = r.1) = false from decide_eq_false ne]
      exact ih nd.2 e
theorem dt_nd {cs : List Row} (nd : (cs.map (·.1)).Nodup) : ((dtC cs).map (·.1)).Nodup := by
  have : (dtC cs).map (·.1) = (cs.map (·.1)).map fun p => (p.map Sum.inl : List Key) := by unfold dtC; rw [List.map_map, List.map_map]; rfl
  rw [this]
  exact nd_map (fun a b e => inl_inj e) nd
theorem dt_rows (cs : List Row) : cs.map encRow = (dtC cs).map fun p => Val.tup [.tup (p.1.map keyV), p.2] := by
  unfold dtC
  rw [List.map_map]
  congr 1
  funext r
  show encRow r = .tup [.tup ((r.1.map Sum.inl).map keyV), encO r.2]
  rw [List.map_map]
  rfl
theorem cntC_app (b : Book) (hp : Heap') (z : Str) (f : List Int → Option Str) (path : List Int) : ∀ (i : Nat) (ts us : List Tree), cntC b hp z f path i (ts ++ us) = cntC b hp z f path i ts + cntC b hp z f path (i + ts.length) us
  | i, [], us => by rw [List.nil_append, cntC]; simp
  | i, t :: ts, us => by
    rw [List.cons_append, cntC, cntC, cntC_app b hp z f path (i + 1) ts us, List.length_cons, show i + 1 + ts.length = i + (ts.length + 1) by omega]
    omega
end DL
namespace DL
open PySem PySem.Spec PyProof.Rows L2
def den_is_none_or_landX : SD := (sRet (vOr (dBin fIsN (dVar 1) (dC .non)) (vAnd (dCB fIsi (aCons (dVar 1) (aCons (dC (.ty "str")) aNil))) (dBin fIn (dVar 1) (dCall 1 S_names_of (aCons (dVar 0) aNil))))))
def den_is_claim : SD := (sRet (vAnd (dCB fIsi (aCons (dVar 1) (aCons (dC (.ty "tuple")) aNil))) (vAnd (dBin fEq (dCB fLen (aCons (dVar 1) aNil)) (dC (.int 2))) (dCall 2 S_is_none_or_landX (aCons (dVar 0) (aCons (dBin fIx (dVar 1) (dC (.int 1))) aNil))))))
def den_all_countsX : SD := (sSeq (sSet 3 (dLstH aNil)) (sSeq (sExpr (dCall 5 S_valued (aCons (dVar 0) (aCons (dVar 1) (aCons (dVar 2) (aCons (dTup aNil) (aCons (dVar 3) aNil))))))) (sRet (dCB fTupleB (aCons (dVar 3) aNil)))))
def den_look_claims : SD := (sSeq (sIf (dOr (dNot (dTruth (dCB fIsi (aCons (dVar 3) (aCons (dC (.ty "tuple")) aNil))))) (dNot (dTruth (dCB fAll (aCons (dLc (dIt (dVar 3)) (.nm 9) tTrue (dCall 2 S_is_claim (aCons (dVar 0) (aCons (dVar 9) aNil))) [9]) aNil))))) (sRaise "NoClaims") sNext) (sSeq (sSet 4 (dLc (dIt (dCall 3 S_all_countsX (aCons (dVar 0) (aCons (dVar 1) (aCons (dVar 2) aNil))))) (.tp [(.nm 6), (.nm 7)]) tTrue (dVar 6) [6, 7])) (sSeq (sSet 5 (dLc (dIt (dVar 3)) (.tp [(.nm 6), (.nm 7)]) tTrue (dVar 6) [6, 7])) (sSeq (sIf (dOr (dTest (dBin fNe (dVar 5) (dVar 4))) (dNot (dTruth (dCB fAll (aCons (dLc (dIt (dVar 5)) (.nm 6) tTrue (dCB fIsi (aCons (dVar 6) (aCons (dC (.ty "tuple")) aNil))) [6]) aNil))))) (sRaise "NoClaims") sNext) (sIf (dTruth (dCB fAny (aCons (dLc2 (dIt (dVar 5)) (.nm 6) tTrue (dIt (dVar 6)) (.nm 8) tTrue (dCB fIsi (aCons (dVar 8) (aCons (dC (.ty "bool")) aNil))) [6, 8] [8]) aNil))) (sRaise "NoClaims") sNext)))))
def den_wrong_claims : SD := (sSeq (sExpr (dCall 4 S_look_claims (aCons (dVar 0) (aCons (dVar 1) (aCons (dVar 2) (aCons (dVar 3) aNil)))))) (sSeq (sSet 4 (dCB fDictTT (aCons (dCall 3 S_all_countsX (aCons (dVar 0) (aCons (dVar 1) (aCons (dVar 2) aNil)))) aNil))) (sRet (dCB fTuple (aCons (dLc (dIt (dVar 3)) (.tp [(.nm 5), (.nm 6)]) (dTest (dBin fNe (dVar 6) (dDGet (dVar 4) (dVar 5)))) (dVar 5) [5, 6]) aNil)))))
def den_follows : SD := (sSeq (sSet 5 (dCall 2 S_tree_at (aCons (dVar 2) (aCons (dVar 4) aNil)))) (sSeq (sIf (dNot (dTruth (dCB fIsi (aCons (dVar 5) (aCons (dC (.ty "tuple")) aNil))))) (sRet (dBin fEq (dDGet (dVar 3) (dVar 4)) (dBin fIx (dBin fIx (dVar 1) (dVar 5)) (dC (.int 1))))) sNext) (sSeq (sAsg (.tp [(.nm 6), (.nm 7)]) (dTup (aCons (dC (.int 0)) (aCons (dC (.int 0)) aNil)))) (sSeq (sFor (dEnum (aCons (dBin fIx (dVar 5) (dC (.int 1))) aNil)) (.tp [(.nm 8), (.nm 9)]) (sSeq (sSet 10 (dBin fIx (dCall 5 S_valued (aCons (dVar 0) (aCons (dVar 1) (aCons (dVar 9) (aCons (dTup aNil) (aCons (dLstH aNil) aNil)))))) (dC (.int 0)))) (sSeq (sAug 6 (fI0 fun i j => .int (i + j)) (dVar 10)) (sSeq (sSet 11 (dDGet (dVar 3) (dBin fAdd (dVar 4) (dTup (aCons (dVar 8) aNil))))) (sAug 7 (fI0 fun i j => .int (i + j)) (dIfE (dAnd (dTest (dBin fNotN (dVar 11) (dC .non))) (dTest (dBin fIn (dVar 11) (dCall 2 S_takes (aCons (dVar 0) (aCons (dBin fIx (dVar 5) (dC (.int 0))) aNil)))))) (dVar 10) (dC (.int 0)))))))) (sRet (dBin fEq (dDGet (dVar 3) (dVar 4)) (dIfE (dTruth (dCall 4 S_is_enough (aCons (dVar 0) (aCons (dBin fIx (dVar 5) (dC (.int 0))) (aCons (dVar 7) (aCons (dVar 6) aNil)))))) (dBin fIx (dVar 5) (dC (.int 0))) (dC .non))))))))
def den_first_wrongs : SD := (sSeq (sExpr (dCall 4 S_look_claims (aCons (dVar 0) (aCons (dVar 1) (aCons (dVar 2) (aCons (dVar 3) aNil)))))) (sSeq (sSet 4 (dCB fDictTT (aCons (dVar 3) aNil))) (sRet (dCB fTuple (aCons (dLc (dIt (dVar 3)) (.tp [(.nm 5), (.nm 6)]) (dNot (dTruth (dCall 5 S_follows (aCons (dVar 0) (aCons (dVar 1) (aCons (dVar 2) (aCons (dVar 4) (aCons (dVar 5) aNil)))))))) (dVar 5) [5, 6]) aNil)))))
end DL
namespace DL
open PySem PySem.Spec PyProof.Rows L2
theorem m_vOr {ρ : Sl} {h : Hv} {E : PX} {da db : ED} {k l : Bool} (ha : EvE ρ h E da (.bl k)) (hb : k = false → EvE ρ h E db (.bl l)) : EvE ρ h E (vOr da db) (.bl (k || l)) := fun Q q => ha _ (by
  show if k = true then Q (.bl k) h else db ρ h Q E
  cases k with
  | true => rw [if_pos rfl]; exact q
  | false => rw [if_neg Bool.false_ne_true]; exact hb rfl Q q)
theorem m_inZ {h : Hv} {z : Str} {ns : List Str} : EvF h fIn (.str z) (.lst (ns.map .str)) (.bl (decide (z ∈ ns))) := fun Q q => by
  refine ⟨rfl, ?_, Qv q (by rw [inA_str])⟩
  rw [List.all_map, List.all_eq_true]
  intro x _
  rfl
theorem m_next {ρ : Sl} {h : Hv} {D : AE} {E : PX} (q : D.nx ρ h) : sNext ρ h D E := q
theorem m_tupL {h : Hv} {vs : List Val} : EvC h fTuple [.lst vs] (.tup vs) := fun Q q => q
theorem m_neOO {h : Hv} {a b : Option Str} : EvF h fNe (encO a) (encO b) (.bl (!decide (a = b))) := fun Q q => by
  cases b with
  | some z =>
    cases a with
    | none => exact Qv q (by simp)
    | some y => exact Qv q (by
      congr 1
      rw [Bool.eq_iff_iff]
      simp)
  | none =>
    cases a with
    | none => exact Qv q (by simp)
    | some z => exact Qv q (by simp)
theorem m_retX {ρ : Sl} {h : Hv} {D : AE} {E : PX} {d : ED} (q : d ρ h D.rt E) : sRet d ρ h D E := q
theorem m_cb {ρ : Sl} {h : Hv} {E : PX} {aa : AD} {vs : List Val} {f : FA} {Q : PV} (ha : EvA ρ h E aa vs) (q : f vs h Q) : dCB f aa ρ h Q E := ha _ q
theorem bo_is_none_or_landX (N : List Str) (hN : N.length = 2) : ∀ as h Q E, as.length = 2 → S_is_none_or_landX as h Q E → den_is_none_or_landX (startA N as) h (endsR Q) (RX E) := by
  rintro as h Q E - ⟨b, v, r, rfl, l4, e, q⟩
  unfold den_is_none_or_landX
  simp only [startA, hN]
  cases v with
  | non => cases e; exact s_ret (v := .bl true) (m_vOr (k := true) (l := true) (ev_bin (ev_var (v := .non)) ev_c fun Q q => q) fun z => nomatch z) (RT.same q)
  | str z =>
    cases e
    exact s_ret (v := .bl (decide (z ∈ b.names))) ((m_vOr (k := false) (l := decide (z ∈ b.names)) (ev_bin (ev_var (v := .str z)) ev_c fun Q q => q) fun _ => (ev_vAnd (k := true) (l := decide (z ∈ b.names)) (ev_cb (eva2 (ev_var (v := .str z)) ev_c) fun Q q => ⟨by decide, q⟩) fun _ => ev_bin (ev_var (v := .str z)) (ev_call (eva1 (ev_var (v := encB b))) rfl fun Q q => ⟨b, rfl, l4, q⟩) m_inZ)).cast (by simp)) (RT.same q)
  | int i => cases e; exact s_ret (v := .bl false) (m_vOr (k := false) (l := false) (ev_bin (ev_var (v := .int i)) ev_c fun Q q => q) fun _ => (ev_vAnd (k := false) (l := false) (ev_cb (eva2 (ev_var (v := .int i)) ev_c) fun Q q => ⟨by decide, q⟩) fun z => nomatch z)) (RT.same q)
  | _ => cases e
theorem bo_is_claim (N : List Str) (hN : N.length = 2) : ∀ as h Q E, as.length = 2 → S_is_claim as h Q E → den_is_claim (startA N as) h (endsR Q) (RX E) := by
  rintro as h Q E - ⟨b, v, r, rfl, l4, e, q⟩
  unfold den_is_claim
  simp only [startA, hN]
  cases v with
  | tup vs =>
    by_cases h2 : vs.length = 2
    · obtain ⟨x, y, rfl⟩ : ∃ x y, vs = [x, y] := by
        match vs, h2 with
        | [x, y], _ => exact ⟨x, y, rfl⟩
      have e : nolA b y = some r := e
      exact s_ret (v := .bl r) ((ev_vAnd (k := true) (l := r) (ev_cb (eva2 (ev_var (v := .tup [x, y])) ev_c) fun Q q => ⟨by decide, q⟩) fun _ => (ev_vAnd (k := true) (l := r) ((ev_bin (ev_cb (eva1 (ev_var (v := .tup [x, y]))) (c_len (n := 2) rfl)) ev_c f_eqI).cast (by simp)) fun _ => ev_call (eva2 (ev_var (v := encB b)) (ev_bin (ev_var (v := .tup [x, y])) ev_c (f_ix1 (u := y) rfl rfl))) rfl fun Q q => ⟨b, y, r, rfl, l4, e, q⟩).cast (by simp)).cast (by simp)) (RT.same q)
    · have er : r = false := by
        have e' : clmA b (.tup vs) = some r := e
        unfold clmA at e'
        split at e'
        · rename_i hh; cases hh; exact absurd rfl h2
        · rename_i hh
          cases hh
          rw [if_neg h2] at e'
          exact (Option.some.inj e').symm
        · cases e'
      subst er
      exact s_ret (v := .bl false) ((ev_vAnd (k := true) (l := false) (ev_cb (eva2 (ev_var (v := .tup vs)) ev_c) fun Q q => ⟨by decide, q⟩) fun _ => (ev_vAnd (k := false) (l := false) ((ev_bin (ev_cb (eva1 (ev_var (v := .tup vs))) (c_len (n := vs.length) rfl)) ev_c f_eqI).cast (by simp; omega)) fun z => nomatch z)).cast (by simp)) (RT.same q)
  | _ => cases e
theorem bo_all_countsX (N : List Str) (hN : N.length = 4) : ∀ as h Q E, as.length = 3 → S_all_countsX as h Q E → den_all_countsX (startA N as) h (endsR Q) (RX E) := by
  rintro as h Q E - ⟨b, hp, t, rfl, wf, tk, hd, sz, q⟩
  unfold den_all_countsX
  simp only [startA, hN]
  refine seq_o fun K hK => ?_
  simp only [sSet, sFor, sIf, sRet, sExpr, sPar, sAsg, sSeq, sNext, sAug, dIt, dTup, dLst, dLstH, dCB, dCall, dCallK, dBin, dUn, dTest, dChain, dIfE, aCons, aNil, dVar, dC, dTruth, dNot, dAnd, dOr, vAnd, vOr, vNot, dBM, dSl, dRev, oSome, oNone]
  simp
  intro p hp'
  subst hK
  refine seq_o fun K hK => ?_
  simp only [sSet, sFor, sIf, sRet, sExpr, sPar, sAsg, sSeq, sNext, sAug, dIt, dTup, dLst, dLstH, dCB, dCall, dCallK, dBin, dUn, dTest, dChain, dIfE, aCons, aNil, dVar, dC, dTruth, dNot, dAnd, dOr, vAnd, vOr, vNot, dBM, dSl, dRev, oSome, oNone]
  simp
  refine ask_valued wf tk hd sz put_same ?_
  rw [put_put]
  subst hK
  refine m_retX (m_cb (eva1 (ev_var (v := .ref p))) ?_)
  refine ⟨.ref p, (t.rows b hp []).map encRow, rfl, by simp [listOf, put_same], ?_⟩
  rcases q with q | q
  · exact .inl (RT.less (Lss.put hp' (by simp)) q)
  · exact .inr (RT.less (Lss.put hp' (by simp)) q)
end DL
namespace DL
open PySem PySem.Spec PyProof.Rows L2
theorem paths_okN {t : Tree} (hh : t.ht < 24) {p : List Int} (hp : p ∈ t.paths) (d : Nat) : okN (d + 1) (encPt p) = true := okN_ints (by have := paths_ht t p hp; omega) d
theorem clm_pair {b : Book} {x : Val} {o : Option Str} : clmA b (.tup [x, encO o]) = some (inNm' b o) := by cases o <;> rfl
theorem m_isi {h : Hv} {v : Val} (e : tyN v h = some "tuple") : EvC h fIsi [v, .ty "tuple"] (.bl true) := fun Q q => by
  show match tyN v h with | some t => "tuple" ∈ ["int", "bool", "str", "tuple", "list"] ∧ Q (.bl (isT t "tuple")) h | none => False
  rw [e]
  exact ⟨by decide, q⟩
set_option maxHeartbeats 1000000 in
theorem bo_look_claims (N : List Str) (hN : N.length = 10) : ∀ as h Q E, as.length = 4 → S_look_claims as h Q E → den_look_claims (startA N as) h (endsR Q) (RX E) := by
  rintro as h Q E - ⟨b, hp, t, v, rfl, ⟨wf, tk, hh, hs⟩, q⟩
  unfold den_look_claims
  simp only [startA, hN]
  have l4 := wf.n4
  have pl : t.paths.length ≤ 900 := by rw [paths_len]; exact hs
  -- the first look
  have first : ∀ (vs : List Val), iterOf v h = some ⟨vs, fun _ => True⟩ → tyN v h = some "tuple" → vs.length ≤ 1000 → (∀ x ∈ vs, (clmA b x).isSome = true) →
      EvT [some (encB b), some (encH hp), some t.enc, some v, none, none, none, none, none, none] h (RX E) (dOr (dNot (dTruth (dCB fIsi (aCons (dVar 3) (aCons (dC (.ty "tuple")) aNil))))) (dNot (dTruth (dCB fAll (aCons (dLc (dIt (dVar 3)) (.nm 9) tTrue (dCall 2 S_is_claim (aCons (dVar 0) (aCons (dVar 9) aNil))) [9]) aNil))))) (!(vs.all fun x => (clmA b x).getD false)) := fun vs ei et hl hx => by
    refine (evt_or (k := false) (evt_not (evt_truthB (ev_cb (eva2 (ev_var (v := v)) ev_c) (m_isi et)))) fun _ => evt_not (evt_truthB (ev_all (ok := fun _ => True) vs (fun x => x) (fun x => (clmA b x).getD false) (by rw [List.map_id']; exact evi_it ev_var ei) (fun _ _ => trivial) (by rw [sizeLine_eq]; omega) fun x xm => ?_))).cast (by simp)
    refine ⟨_, rfl, fun h' sb => ev_call (eva2 (ev_var (v := encB b)) (ev_var (v := x))) rfl fun Q q => ?_⟩
    obtain ⟨r, er⟩ := Option.isSome_iff_exists.mp (hx x xm)
    refine ⟨b, x, r, rfl, l4, er, ?_⟩
    rw [er] at q
    exact q
  -- pairs
  have rest : ∀ (ps : List (Val × Option Str)), iterOf v h = some ⟨ps.map fun p => .tup [p.1, encO p.2], fun _ => True⟩ → tyN v h = some "tuple" → ps.length ≤ 1000 → (∀ p ∈ ps, okN 3 p.1 = true ∧ inNm' b p.2 = true) →
      (eqD (.lst (ps.map (·.1))) (.lst (t.paths.map encPt)) = false → E "NoClaims" none h) → (ps.map (·.1) = t.paths.map encPt → Q .non h) → (eqD (.lst (ps.map (·.1))) (.lst (t.paths.map encPt)) = false ∨ ps.map (·.1) = t.paths.map encPt) → den_look_claims [some (encB b), some (encH hp), some t.enc, some v, none, none, none, none, none, none] h (endsR Q) (RX E) := fun ps ei et hl hx qe qq hc => by
    unfold den_look_claims
    refine ss_if (k := false) ((first _ ei et (by rw [List.length_map]; exact hl) fun x xm => ?_).cast ?_) (fun z => nomatch z) fun _ => ?_
    · obtain ⟨p, pm, rfl⟩ := List.mem_map.mp xm
      rw [clm_pair]; rfl
    · rw [Bool.not_eq_false', List.all_map, List.all_eq_true]
      intro p pm
      show (clmA b (.tup [p.1, encO p.2])).getD false = true
      rw [clm_pair]
      exact (hx p pm).2
    refine m_next ?_
    dsimp only
    refine ss_set (v := .lst (t.paths.map encPt)) (ev_lc (ok := fun _ => True) t.paths (fun p => encRow (p, landAt b hp t p)) encPt (evi_it (v := .tup ((t.rows b hp []).map encRow)) (ev_call (eva_cons (ev_var (v := encB b)) (eva2 (ev_var (v := encH hp)) (ev_var (v := t.enc)))) rfl fun Q q => ⟨b, hp, t, rfl, wf, tk, hh, hs, .inl q⟩) (by rw [rows_paths, List.map_map]; rfl)) (fun _ _ => trivial) (by rw [sizeLine_eq]; omega) fun p pm => ⟨_, rfl, fun h' sb => ev_var⟩) ?_
    refine ss_set (v := .lst (ps.map (·.1))) (ev_lc (ok := fun _ => True) ps (fun p => .tup [p.1, encO p.2]) (·.1) (evi_it (v := v) ev_var ei) (fun _ _ => trivial) (by rw [sizeLine_eq]; omega) fun p pm => ⟨_, rfl, fun h' sb => ev_var⟩) ?_
    have ok1 : okN 64 (.lst (ps.map (·.1))) = true := by
      rw [okN_lst]
      refine ⟨fun x xm => ?_, by rw [List.length_map]; exact hl⟩
      obtain ⟨p, pm, rfl⟩ := List.mem_map.mp xm
      exact okN_le (hx p pm).1 (by decide)
    have ok2 : okN 64 (.lst (t.paths.map encPt)) = true := by
      rw [okN_lst]
      refine ⟨fun x xm => ?_, by rw [List.length_map]; omega⟩
      obtain ⟨p, pm, rfl⟩ := List.mem_map.mp xm
      exact paths_okN hh pm 62
    have ne : ∀ {ρ : Sl} {d1 d2 : ED}, EvE ρ h (RX E) d1 (.lst (ps.map (·.1))) → EvE ρ h (RX E) d2 (.lst (t.paths.map encPt)) → EvT ρ h (RX E) (dTest (dBin fNe d1 d2)) (!(eqD (.lst (ps.map (·.1))) (.lst (t.paths.map encPt)))) := fun e1 e2 => evt_test (ev_bin e1 e2 fun Q q => fNe_dat ok1 ok2 q)
    rcases hc with hc | hc
    · refine ss_if (k := true) ((evt_or (k := true) (l := true) ((ne (ev_var (v := .lst (ps.map (·.1)))) (ev_var (v := .lst (t.paths.map encPt)))).cast (by rw [hc]; rfl)) fun z => nomatch z).cast rfl) (fun _ => ?_) fun z => nomatch z
      exact ⟨h, Lss.refl h, qe hc⟩
    · refine ss_if (k := false) ((evt_or (k := false) (l := false) ((ne (ev_var (v := .lst (ps.map (·.1)))) (ev_var (v := .lst (t.paths.map encPt)))).cast (by rw [hc, eqD_refl ok2]; rfl)) fun _ => (evt_not (evt_truthB (ev_all (ok := fun _ => True) t.paths encPt (fun _ => true) (evi_it (v := .lst (ps.map (·.1))) ev_var (by rw [hc]; rfl)) (fun _ _ => trivial) (by rw [sizeLine_eq]; omega) fun p pm => ⟨_, rfl, fun h' sb => ev_cb (eva2 (ev_var (v := encPt p)) ev_c) (m_isi rfl)⟩))).cast (by simp)).cast rfl) (fun z => nomatch z) fun _ => ?_
      refine m_next ?_
      dsimp only
      refine s_if (k := false) (evt_truthB ((ev_any2 t.paths encPt (fun p => p) Val.int (fun _ _ => false) 24 (by rw [sizeLine_eq]; omega) (evi_it (v := .lst (ps.map (·.1))) ev_var (by rw [hc]; rfl)) fun p pm => ⟨by have := paths_ht t p pm; omega, _, rfl, fun h' sb => evi_it (v := encPt p) ev_var rfl, fun i im => ⟨_, rfl, fun h' sb => ev_cb (eva2 (ev_var (v := .int i)) ev_c) fun Q q => ⟨by decide, q⟩⟩⟩).cast (by simp))) (fun z => nomatch z) fun _ => ?_
      exact ⟨h, Lss.refl h, qq hc⟩
  rcases q with ⟨bad, q⟩ | ⟨cs, hv, ok, q⟩
  · cases bad with
    | non =>
      refine ss_if (k := true) ((evt_or (k := true) (l := true) (evt_not (evt_truthB (ev_cb (eva2 (ev_var (v := .non)) ev_c) (u := .bl false) fun Q q => ⟨by decide, q⟩))) fun z => nomatch z).cast rfl) (fun _ => ?_) fun z => nomatch z
      exact ⟨h, Lss.refl h, q⟩
    | int i =>
      refine ss_if (k := true) ((evt_or (k := true) (l := true) (evt_not (evt_truthB (ev_cb (eva2 (ev_var (v := .int i)) ev_c) (u := .bl false) fun Q q => ⟨by decide, q⟩))) fun z => nomatch z).cast rfl) (fun _ => ?_) fun z => nomatch z
      exact ⟨h, Lss.refl h, q⟩
    | row vs hl hx x xm hb =>
      refine ss_if (k := true) ((first vs rfl rfl hl hx).cast ?_) (fun _ => ⟨h, Lss.refl h, q⟩) fun z => nomatch z
      rw [Bool.not_eq_true', List.all_eq_false]
      exact ⟨x, xm, by rw [hb]; simp⟩
    | paths ps hl hx ne =>
      have := rest ps rfl rfl hl hx (fun _ => q) (fun e => by
        rw [e] at ne
        rw [eqD_refl (d := 64) (by
          rw [okN_lst]
          refine ⟨fun x xm => ?_, by rw [List.length_map]; omega⟩
          obtain ⟨p, pm, rfl⟩ := List.mem_map.mp xm
          exact paths_okN hh pm 62)] at ne
        cases ne) (.inl ne)
      unfold den_look_claims at this
      exact this
  · have lc : cs.length = t.paths.length := by rw [← ok.ps, List.length_map]
    have mem : ∀ r ∈ cs, r.1 ∈ t.paths := fun r hr => by rw [← ok.ps]; exact List.mem_map_of_mem hr
    have := rest (cs.map fun r => (encPt r.1, r.2)) (by
        rw [List.map_map]
        rcases hv with rfl | rfl <;> rfl) (by rcases hv with rfl | rfl <;> rfl) (by rw [List.length_map]; omega) (fun p pm => by
        obtain ⟨r, hr, rfl⟩ := List.mem_map.mp pm
        exact ⟨paths_okN hh (mem r hr) 2, ok.fr r hr⟩) (fun e => by
        have : (cs.map fun r => (encPt r.1, r.2)).map (·.1) = t.paths.map encPt := by rw [← ok.ps, List.map_map, List.map_map]; rfl
        rw [this, eqD_refl (d := 64) (by
          rw [okN_lst]
          refine ⟨fun x xm => ?_, by rw [List.length_map]; omega⟩
          obtain ⟨p, pm, rfl⟩ := List.mem_map.mp xm
          exact paths_okN hh pm 62)] at e
        cases e) (fun _ => q) (.inr (by rw [← ok.ps, List.map_map, List.map_map]; rfl))
    unfold den_look_claims at this
    exact this
end DL
namespace DL
open PySem PySem.Spec PyProof.Rows L2
def ptD (p : List Int) : PyData := .tuple (p.map .int)
theorem dat_pt (p : List Int) : dat (encPt p) = some (ptD p) := by
  unfold encPt
  rw [dat, dats_ints]; rfl
theorem dats_pts : ∀ ps : List (List Int), dats (ps.map encPt) = some (ps.map ptD)
  | [] => rfl
  | p :: ps => by rw [List.map_cons, dats, dat_pt, dats_pts ps]; rfl
theorem eqv_pt (p q : List Int) : PyData.eqv (ptD p) (ptD q) = decide (p = q) := by
  unfold ptD
  rw [PyData.eqv]
  exact eqvAll_ints p q
theorem rows_ok {b : Book} {hp : Heap'} {t : Tree} (tk : TrOk b hp t) (fr : ∀ x ∈ hp, ∀ z, x.2 = some z → z ∈ b.names) : ClOk b t (t.rows b hp []) := by
  refine ⟨by rw [rows_paths, List.map_map]; exact List.map_id' _, fun r hr => ?_⟩
  rw [rows_paths] at hr
  obtain ⟨p, hp', rfl⟩ := List.mem_map.mp hr
  show inNm' b (landAt b hp t p) = true
  cases e : landAt b hp t p with
  | none => rfl
  | some z =>
    unfold landAt at e
    obtain ⟨u, hu, el⟩ := Option.bind_eq_some_iff.mp e
    have := land_mem fr u ((at_sub p t u hu tk.ok).1) z el
    simp [inNm', this]
theorem wrong_rows {b : Book} {hp : Heap'} {t : Tree} : wrongA b hp t (t.rows b hp []) = [] := by
  unfold wrongA
  rw [List.map_eq_nil_iff, List.filter_eq_nil_iff]
  intro r hr
  rw [rows_paths] at hr
  obtain ⟨p, hp', rfl⟩ := List.mem_map.mp hr
  simp
theorem okN_pts {t : Tree} (hh : t.ht < 24) {ps : List (List Int)} (hl : ps.length ≤ 1000) (hm : ∀ p ∈ ps, p ∈ t.paths) : okN 64 (.tup (ps.map encPt)) = true := by
  rw [okN_tup]
  refine ⟨fun v hv => ?_, by rw [List.length_map]; exact hl⟩
  obtain ⟨p, hp, rfl⟩ := List.mem_map.mp hv
  exact paths_okN hh (hm p hp) 62
end DL
namespace DL
open PySem PySem.Spec PyProof.Rows L2
section
variable {b : Book} {hp : Heap'} {t : Tree} {f : List Int → Option Str}
theorem cntC_land (z : Str) (path : List Int) : ∀ (i : Nat) (ts : List Tree), (∀ k (hk : k < ts.length), f (path ++ [((i + k : Nat) : Int)]) = (ts[k]).land b hp) → cntC b hp z f path i ts = cntTs b hp z ts
  | i, [], _ => by rw [cntC, cntTs]
  | i, t :: ts, h => by
    rw [cntC, cntTs]
    have h0 := h 0 (by simp)
    rw [Nat.add_zero] at h0
    rw [h0, cntC_land z path (i + 1) ts fun k hk => ?_]
    · rfl
    · have := h (k + 1) (by simpa using hk)
      rw [show i + (k + 1) = i + 1 + k by omega] at this
      exact this
theorem path_at : ∀ (p : List Int) (t : Tree), p ∈ t.paths → ∃ u, t.at p = some u
  | [], t, _ => ⟨t, by cases t <;> rfl⟩
  | i :: p, .leaf n, h => by rw [Tree.paths] at h; simp at h
  | i :: p, .node z ts, h => by
    rw [Tree.paths] at h
    rcases List.mem_cons.mp h with h | h
    · cases h
    · obtain ⟨k, u, q, hk, hq, e⟩ := of_pathsTs h
      rw [Nat.zero_add, List.cons.injEq] at e
      obtain ⟨e1, e2⟩ := e
      subst e1 e2
      obtain ⟨v, hv⟩ := path_at _ u hq
      refine ⟨v, ?_⟩
      rw [Tree.at, if_pos (by omega)]
      have : ((k : Nat) : Int).toNat = k := by omega
      rw [this, hk]
      exact hv
theorem child_at {p : List Int} {u : Tree} (h : t.at p = some u) {i : Int} (hc : p ++ [i] ∈ t.paths) : ∃ z ts, u = .node z ts ∧ ∃ (k : Nat) (hk : k < ts.length), i = (k : Int) ∧ t.at (p ++ [i]) = some ts[k] := by
  obtain ⟨v, hv⟩ := path_at _ t hc
  have hv' := hv
  rw [at_appT, h] at hv
  have hv : u.at [i] = some v := hv
  cases u with
  | leaf n => exact (at_leaf hv).elim
  | node z ts =>
    obtain ⟨h0, hk, e⟩ := at_node hv
    refine ⟨z, ts, rfl, i.toNat, hk, by omega, ?_⟩
    rw [hv', ← e]
    cases (ts[i.toNat]) <;> rfl
theorem fol_true {p : List Int} (hp' : p ∈ t.paths) (hc : ∀ i : Int, p ++ [i] ∈ t.paths → f (p ++ [i]) = landAt b hp t (p ++ [i])) : folA b hp t f p = decide (f p = landAt b hp t p) := by
  obtain ⟨u, hu⟩ := path_at _ t hp'
  have el : landAt b hp t p = u.land b hp := by unfold landAt; rw [hu]; rfl
  unfold folA
  rw [hu, el]
  cases u with
  | leaf n => rfl
  | node z ts =>
    dsimp only
    rw [Tree.land, cntC_land z p 0 ts fun k hk => ?_]
    rw [Nat.zero_add]
    have ha := at_snoc hu hk
    rw [hc _ (at_path _ _ _ ha)]
    unfold landAt
    rw [ha]; rfl
theorem first_below : ∀ (n : Nat) (p : List Int) (u : Tree), t.at p = some u → u.ht ≤ n → f p ≠ landAt b hp t p → ∃ s, p ++ s ∈ t.paths ∧ folA b hp t f (p ++ s) = false
  | n, p, u, hu, hn, hw => by
    have hp' := at_path _ _ _ hu
    by_cases hc : ∀ i : Int, p ++ [i] ∈ t.paths → f (p ++ [i]) = landAt b hp t (p ++ [i])
    · refine ⟨[], by rw [List.append_nil]; exact hp', ?_⟩
      rw [List.append_nil, fol_true hp' hc]
      exact decide_eq_false hw
    · obtain ⟨i, hi⟩ := Classical.not_forall.mp hc
      obtain ⟨hi, hwi⟩ := Classical.not_imp.mp hi
      obtain ⟨z, ts, rfl, k, hk, rfl, ha⟩ := child_at hu hi
      match n, hn with
      | 0, hn => exact absurd (ht_node (z := z) (d := 0) (by omega) _ (List.getElem_mem hk)) (Nat.not_lt_zero _)
      | n + 1, hn =>
        obtain ⟨s, h1, h2⟩ := first_below n _ _ ha (by have := ht_node (z := z) (d := n + 1) (by omega) _ (List.getElem_mem hk); omega) hwi
        rw [List.append_assoc] at h1 h2
        exact ⟨_, h1, h2⟩
end
section
variable {b : Book} {hp : Heap'} {t : Tree} {cs : List Row}
theorem mem_wrong (ok : ClOk b t cs) {p : List Int} : p ∈ wrongA b hp t cs ↔ p ∈ t.paths ∧ clAt cs p ≠ landAt b hp t p := by
  have nd : (cs.map (·.1)).Nodup := by rw [ok.ps]; exact paths_nd t
  unfold wrongA
  rw [List.mem_map]
  constructor
  · rintro ⟨r, hr, rfl⟩
    obtain ⟨h1, h2⟩ := List.mem_filter.mp hr
    refine ⟨by rw [← ok.ps]; exact List.mem_map_of_mem h1, fun e => ?_⟩
    rw [cl_of nd h1] at e
    rw [decide_eq_true e] at h2
    cases h2
  · rintro ⟨h1, h2⟩
    rw [← ok.ps] at h1
    obtain ⟨r, hr, rfl⟩ := List.mem_map.mp h1
    rw [cl_of nd hr] at h2
    exact ⟨r, List.mem_filter.mpr ⟨hr, by rw [decide_eq_false h2]; rfl⟩, rfl⟩
theorem mem_first (ok : ClOk b t cs) {p : List Int} : p ∈ firstA b hp t cs ↔ p ∈ t.paths ∧ folA b hp t (clAt cs) p = false := by
  unfold firstA
  rw [List.mem_map]
  constructor
  · rintro ⟨r, hr, rfl⟩
    obtain ⟨h1, h2⟩ := List.mem_filter.mp hr
    exact ⟨by rw [← ok.ps]; exact List.mem_map_of_mem h1, by simpa using h2⟩
  · rintro ⟨h1, h2⟩
    rw [← ok.ps] at h1
    obtain ⟨r, hr, rfl⟩ := List.mem_map.mp h1
    exact ⟨r, List.mem_filter.mpr ⟨hr, by rw [h2]; rfl⟩, rfl⟩
theorem first_of_wrong (ok : ClOk b t cs) {p : List Int} (h : p ∈ wrongA b hp t cs) : ∃ s, p ++ s ∈ firstA b hp t cs := by
  obtain ⟨h1, h2⟩ := (mem_wrong ok).mp h
  obtain ⟨u, hu⟩ := path_at _ t h1
  obtain ⟨s, h3, h4⟩ := first_below u.ht p u hu (Nat.le_refl _) h2
  exact ⟨s, (mem_first ok).mpr ⟨h3, h4⟩⟩
theorem wrong_of_first (ok : ClOk b t cs) {p : List Int} (h : p ∈ firstA b hp t cs) : p ∈ wrongA b hp t cs ∨ ∃ i : Int, p ++ [i] ∈ wrongA b hp t cs := by
  obtain ⟨h1, h2⟩ := (mem_first ok).mp h
  by_cases hc : ∀ i : Int, p ++ [i] ∈ t.paths → clAt cs (p ++ [i]) = landAt b hp t (p ++ [i])
  · left
    rw [fol_true h1 hc] at h2
    exact (mem_wrong ok).mpr ⟨h1, of_decide_eq_false h2⟩
  · obtain ⟨i, hi⟩ := Classical.not_forall.mp hc
    obtain ⟨hi, hwi⟩ := Classical.not_imp.mp hi
    exact .inr ⟨i, (mem_wrong ok).mpr ⟨hi, hwi⟩⟩
theorem nil_iff (ok : ClOk b t cs) : wrongA b hp t cs = [] ↔ firstA b hp t cs = [] := by
  constructor
  · intro h
    refine List.eq_nil_iff_forall_not_mem.mpr fun p hp' => ?_
    rcases wrong_of_first ok hp' with z | ⟨i, z⟩ <;> rw [h] at z <;> cases z
  · intro h
    refine List.eq_nil_iff_forall_not_mem.mpr fun p hp' => ?_
    obtain ⟨s, z⟩ := first_of_wrong ok hp'
    rw [h] at z; cases z
theorem truth_iff (ok : ClOk b t cs) : cs = t.rows b hp [] ↔ wrongA b hp t cs = [] := by
  constructor
  · rintro rfl; exact wrong_rows
  · intro h
    rw [rows_paths, ← ok.ps, List.map_map]
    have : cs.map id = cs.map ((fun p => (p, landAt b hp t p)) ∘ (·.1)) := by
      refine List.map_congr_left fun r hr => ?_
      have hn : r.1 ∉ wrongA b hp t cs := by rw [h]; exact List.not_mem_nil
      have nd : (cs.map (·.1)).Nodup := by rw [ok.ps]; exact paths_nd t
      have : ¬ (r.1 ∈ t.paths ∧ clAt cs r.1 ≠ landAt b hp t r.1) := fun z => hn ((mem_wrong ok).mpr z)
      have hm : r.1 ∈ t.paths := by rw [← ok.ps]; exact List.mem_map_of_mem hr
      have e : clAt cs r.1 = landAt b hp t r.1 := Classical.byContradiction fun z => this ⟨hm, z⟩
      rw [cl_of nd hr] at e
      show r = (r.1, landAt b hp t r.1)
      rw [← e]
    rw [List.map_id] at this
    exact this
theorem deepest_wrong (ok : ClOk b t cs) {p : List Int} (h : p ∈ firstA b hp t cs) (hm : ∀ q ∈ firstA b hp t cs, q.length ≤ p.length) : p ∈ wrongA b hp t cs := by
  rcases wrong_of_first ok h with z | ⟨i, z⟩
  · exact z
  · obtain ⟨s, hs⟩ := first_of_wrong ok z
    have := hm _ hs
    rw [List.length_append, List.length_append, List.length_singleton] at this
    omega
def mendC (b : Book) (hp : Heap') (t : Tree) (cs : List Row) (p : List Int) : List Row := cs.map fun r => if r.1 = p then (p, landAt b hp t p) else r
theorem mend_paths (p : List Int) : (mendC b hp t cs p).map (·.1) = cs.map (·.1) := by
  unfold mendC
  rw [List.map_map]
  refine List.map_congr_left fun r _ => ?_
  show (if r.1 = p then (p, landAt b hp t p) else r).1 = r.1
  split
  · rename_i h; exact h.symm
  · rfl
theorem mend_ok (fr : ∀ x ∈ hp, ∀ z, x.2 = some z → z ∈ b.names) (tk : TrOk b hp t) (ok : ClOk b t cs) {p : List Int} (hp' : p ∈ t.paths) : ClOk b t (mendC b hp t cs p) := by
  refine ⟨by rw [mend_paths]; exact ok.ps, fun r hr => ?_⟩
  obtain ⟨r0, h0, rfl⟩ := List.mem_map.mp hr
  split
  · have := (rows_ok tk fr).fr (p, landAt b hp t p) (by rw [rows_paths]; exact List.mem_map.mpr ⟨p, hp', rfl⟩)
    exact this
  · exact ok.fr r0 h0
theorem filt_len {α : Type} {l : List α} (nd : l.Nodup) {f g : α → Bool} {a : α} (ha : a ∈ l) (hf : f a = true) (hg : g a = false) (hs : ∀ x ∈ l, x ≠ a → f x = g x) : (l.filter f).length = (l.filter g).length + 1 := by
  induction l with
  | nil => cases ha
  | cons x l ih =>
    rw [List.nodup_cons] at nd
    rcases List.mem_cons.mp ha with e | e
    · subst e
      rw [List.filter_cons_of_pos hf, List.filter_cons_of_neg (by rw [hg]; decide), List.length_cons]
      congr 2
      exact List.filter_congr fun y hy => hs y (List.mem_cons_of_mem _ hy) fun z => nd.1 (z ▸ hy)
    · have := ih nd.2 e fun y hy => hs y (List.mem_cons_of_mem _ hy)
      have ex := hs x List.mem_cons_self fun z => nd.1 (z ▸ e)
      cases hx : f x with
      | true => rw [List.filter_cons_of_pos hx, List.filter_cons_of_pos (by rw [← ex]; exact hx), List.length_cons, List.length_cons, this]
      | false => rw [List.filter_cons_of_neg (by rw [hx]; decide), List.filter_cons_of_neg (by rw [← ex, hx]; decide), this]
theorem wrong_len (ok : ClOk b t cs) : (wrongA b hp t cs).length = (t.paths.filter fun p => !decide (clAt cs p = landAt b hp t p)).length := by
  have nd : (cs.map (·.1)).Nodup := by rw [ok.ps]; exact paths_nd t
  unfold wrongA
  rw [← ok.ps, List.filter_map, List.length_map, List.length_map]
  congr 1
  refine List.filter_congr fun r hr => ?_
  show _ = !decide (clAt cs r.1 = landAt b hp t r.1)
  rw [cl_of nd hr]
theorem mend_at (ok : ClOk b t cs) {p q : List Int} (hq : q ∈ t.paths) : clAt (mendC b hp t cs p) q = if q = p then landAt b hp t p else clAt cs q := by
  have nd : (cs.map (·.1)).Nodup := by rw [ok.ps]; exact paths_nd t
  have nd' : ((mendC b hp t cs p).map (·.1)).Nodup := by rw [mend_paths]; exact nd
  rw [← ok.ps] at hq
  obtain ⟨r, hr, rfl⟩ := List.mem_map.mp hq
  have hm : (if r.1 = p then (p, landAt b hp t p) else r) ∈ mendC b hp t cs p := List.mem_map.mpr ⟨r, hr, rfl⟩
  by_cases e : r.1 = p
  · rw [if_pos e] at hm ⊢
    have := cl_of nd' hm
    rw [e]; exact this
  · rw [if_neg e] at hm ⊢
    rw [cl_of nd' hm, cl_of nd hr]
theorem mend_wrong (fr : ∀ x ∈ hp, ∀ z, x.2 = some z → z ∈ b.names) (tk : TrOk b hp t) (ok : ClOk b t cs) {p : List Int} (h : p ∈ wrongA b hp t cs) : (wrongA b hp t cs).length = (wrongA b hp t (mendC b hp t cs p)).length + 1 := by
  obtain ⟨h1, h2⟩ := (mem_wrong ok).mp h
  rw [wrong_len ok, wrong_len (mend_ok fr tk ok h1)]
  refine filt_len (paths_nd t) h1 (by simpa using h2) ?_ fun x hx ne => ?_
  · rw [mend_at ok h1, if_pos rfl]; simp
  · rw [mend_at ok hx, if_neg ne]
def chgC (cs : List Row) (k : Nat) (o : Option Str) : List Row := cs.set k ((cs.getD k ([], none)).1, o)
theorem chg_paths {k : Nat} (hk : k < cs.length) {o : Option Str} : (chgC cs k o).map (·.1) = cs.map (·.1) := by
  unfold chgC
  rw [List.map_set]
  refine List.ext_getElem? fun i => ?_
  by_cases e : k = i
  · subst e
    rw [List.getElem?_set_self (by simpa using hk), List.getElem?_map, List.getElem?_eq_getElem hk]
    simp [hk]
  · rw [List.getElem?_set_ne e]
theorem chg_ok (ok : ClOk b t cs) {k : Nat} (hk : k < cs.length) {o : Option Str} (ho : inNm' b o = true) : ClOk b t (chgC cs k o) := by
  refine ⟨by rw [chg_paths hk]; exact ok.ps, fun r hr => ?_⟩
  rcases List.mem_or_eq_of_mem_set hr with h | h
  · exact ok.fr r h
  · rw [h]; exact ho
theorem filt_set {α : Type} (f : α → Bool) : ∀ (l : List α) (k : Nat) (a : α), ((l.set k a).filter f).length ≤ (l.filter f).length + 1
  | [], k, a => by simp
  | x :: l, 0, a => by
    rw [List.set_cons_zero]
    have h1 : ((a :: l).filter f).length ≤ (l.filter f).length + 1 := by rw [List.filter_cons]; split <;> simp
    have h2 : (l.filter f).length ≤ ((x :: l).filter f).length := by rw [List.filter_cons]; split <;> simp
    omega
  | x :: l, k + 1, a => by
    rw [List.set_cons_succ, List.filter_cons, List.filter_cons]
    have := filt_set f l k a
    split <;> simp <;> omega
theorem chg_wrong {k : Nat} {o : Option Str} : (wrongA b hp t (chgC cs k o)).length ≤ (wrongA b hp t cs).length + 1 := by
  unfold wrongA chgC
  rw [List.length_map, List.length_map]
  exact filt_set _ _ _ _
end
end DL
namespace DL
open PySem PySem.Spec PyProof.Rows L2
def S__law_mended (G : Gx) : SpF := fun as h Q _ => ∃ (b : Book) (hp : Heap') (t : Tree) (cs : List Row), as = [encB b, encH hp, t.enc, .tpo (cs.map encRow)] ∧ ClB b hp t ∧ (∀ x ∈ hp, ∀ z, x.2 = some z → z ∈ b.names) ∧ ClOk b t cs ∧ t.paths.length < 64 ∧ (wrongA b hp t cs).length < 40 ∧ Tbs G.Ts h ∧ ("_law_mended" : Str) ∈ G.ns ∧
  ∀ d, h d = none → Q (.tup [.ref d, .int ((wrongA b hp t cs).length : Int)]) (put h d (.dT (dtC (t.rows b hp []))))
theorem lexLt_cc (x : Int) (p q : List Int) : HT.lexLt (x :: p) (x :: q) = HT.lexLt p q := by rw [HT.lexLt_cons, if_pos rfl]
mutual
theorem paths_rise : ∀ t : Tree, RiseI t.paths
  | .leaf n => by rw [Tree.paths]; exact List.pairwise_singleton _ _
  | .node z ts => by
    rw [Tree.paths]
    refine List.pairwise_cons.mpr ⟨fun p hp => ?_, pathsTs_rise 0 ts⟩
    obtain ⟨k, u, q, _, _, rfl⟩ := of_pathsTs hp
    rfl
theorem pathsTs_rise : ∀ (i : Nat) (ts : List Tree), RiseI (pathsTs i ts)
  | i, [] => by rw [pathsTs]; exact List.Pairwise.nil
  | i, t :: ts => by
    rw [pathsTs]
    refine List.pairwise_append.mpr ⟨List.pairwise_map.mpr ((paths_rise t).imp fun h => by rw [lexLt_cc]; exact h), pathsTs_rise (i + 1) ts, fun p hp q hq => ?_⟩
    obtain ⟨p', _, rfl⟩ := List.mem_map.mp hp
    obtain ⟨k, u, q', _, _, rfl⟩ := of_pathsTs hq
    rw [HT.lexLt_cons, if_neg (by omega)]
    exact decide_eq_true (by omega)
end
theorem dtC_keys (cs : List Row) : (dtC cs).map (·.1) = (cs.map (·.1)).map intK := by unfold dtC; rw [List.map_map, List.map_map]; rfl
theorem dtC_pairs (cs : List Row) : (dtC cs).map pairT = cs.map encRow := (dt_rows cs).symm
theorem dtC_mend {b : Book} {hp : Heap'} {t : Tree} {cs : List Row} {p : List Int} (hm : p ∈ cs.map (·.1)) : putA (dtC cs) (p.map Sum.inl) (encO (landAt b hp t p)) = dtC (mendC b hp t cs p) := by
  unfold putA
  have : ((dtC cs).any fun kv => decide (kv.1 = (p.map Sum.inl : List Key))) = true := by
    obtain ⟨r, hr, rfl⟩ := List.mem_map.mp hm
    exact List.any_eq_true.mpr ⟨_, List.mem_map_of_mem hr, decide_eq_true rfl⟩
  rw [if_pos this]
  unfold dtC mendC
  rw [List.map_map, List.map_map]
  refine List.map_congr_left fun r hr => ?_
  show (if (r.1.map Sum.inl : List Key) = p.map Sum.inl then ((r.1.map Sum.inl : List Key), encO (landAt b hp t p)) else (r.1.map Sum.inl, encO r.2)) = _
  by_cases e : r.1 = p
  · rw [if_pos (by rw [e])]
    simp only [Function.comp, e, if_true]
  · rw [if_neg fun z => e (inl_inj z)]
    simp only [Function.comp, if_neg e]
end DL
namespace DL
open PySem PySem.Spec PyProof.Rows L2
def den__law_mended (G : Gx) : SD := (sSeq (sPar [4, 5] (aCons (dCB fDictTT (aCons (dVar 3) aNil)) (aCons (dC (.int 0)) aNil))) (sSeq (sWhile (dTest (dBin fLtI (dVar 5) (dC (.int 40)))) (sSeq (sSet 6 (dCall 4 S_first_wrongs (aCons (dVar 0) (aCons (dVar 1) (aCons (dVar 2) (aCons (dCB fTupleF (aCons (dSortIt (dVar 4)) aNil)) aNil)))))) (sSeq (sIf (dTest (dBin fEq (dVar 6) (dTup aNil))) (sRet (dTup (aCons (dVar 4) (aCons (dVar 5) aNil)))) sNext) (sSeq (sSet 7 (dMaxK G.Ts (G.T "_law_mended") (lamQ "_law_mended") (aCons (dVar 6) aNil) (dTup (aCons (dCB fLen (aCons (dVar 0) aNil)) (aCons (dVar 0) aNil))))) (sSeq (sSet 8 (dCall 2 S__law_at (aCons (dVar 2) (aCons (dVar 7) aNil)))) (sSeq (sDPut (dVar 4) (dVar 7) (dCall 3 S_counts_as (aCons (dVar 0) (aCons (dVar 1) (aCons (dVar 8) aNil))))) (sSet 5 (dBin fAdd (dVar 5) (dC (.int 1)))))))))) (sRet (dTup (aCons (dVar 4) (aCons (dVar 5) aNil))))))
end DL
namespace DL
open PySem PySem.Spec PyProof.Rows L2
theorem keyL_ints (p : List Int) : keysOf (p.map Val.int) = some (p.map Sum.inl) := by
  induction p with
  | nil => rfl
  | cons i p ih => rw [List.map_cons, keysOf, ih]; rfl
theorem dget_cl {h : Hv} {d : Addr} {cs : List Row} {p : List Int} (hd : h d = some (.dT (dtC cs))) (hp : p ∈ cs.map (·.1)) : dgetA (.ref d) (encPt p) h = some (some (encO (clAt cs p))) := by
  unfold dgetA encPt
  simp only [hd, keyL_ints, val_dt hp]
theorem find_enc {b : Book} {hp : Heap'} {t : Tree} : t.paths = ((t.rows b hp []).map (·.1)) := by rw [rows_paths, List.map_map]; exact (List.map_id' _).symm
theorem rows_cl {b : Book} {hp : Heap'} {t : Tree} {p : List Int} (h : p ∈ t.paths) : clAt (t.rows b hp []) p = landAt b hp t p := by
  have nd : ((t.rows b hp []).map (·.1)).Nodup := by rw [← find_enc]; exact paths_nd t
  have : (p, landAt b hp t p) ∈ t.rows b hp [] := by rw [rows_paths]; exact List.mem_map.mpr ⟨p, h, rfl⟩
  exact cl_of nd this
theorem m_dict {ρ : Sl} {h : Hv} {E : PX} {D : AE} {s2 : SD} {de : ED} {i : Nat} {cs : List Row} (he : EvE ρ h E de (.tpo (cs.map encRow))) (nd : (cs.map (·.1)).Nodup) (q : ∀ d, h d = none → s2 (ρ.set i (some (.ref d))) (put h d (.dT (dtC cs))) D E) : sSeq (sSet i (dCB fDictTT (aCons de aNil))) s2 ρ h D E := by
  show de ρ h _ E
  exact he _ ⟨dtC cs, by rw [dt_rows], dt_nd nd, fun p np => q p np⟩
theorem m_valued0 {ρ : Sl} {h : Hv} {E : PX} {D : AE} {s2 : SD} {db dh dt : ED} {i : Nat} {b : Book} {hp : Heap'} {t : Tree} (hb : EvE ρ h E db (encB b)) (hh : EvE ρ h E dh (encH hp)) (ht : EvE ρ h E dt t.enc) (wf : WFB b) (tk : TrOk b hp t) (hd : t.ht < 24) (sz : t.size ≤ 900)
    (q : ∀ p, h p = none → s2 (ρ.set i (some (.int (t.whole hp)))) (put h p (.lst ((t.rows b hp []).map encRow))) D E) : sSeq (sSet i (dBin fIx (dCall 5 S_valued (aCons db (aCons dh (aCons dt (aCons (dTup aNil) (aCons (dLstH aNil) aNil)))))) (dC (.int 0)))) s2 ρ h D E := by
  show db ρ h _ E
  refine hb _ ?_
  show dh ρ h _ E
  refine hh _ ?_
  show dt ρ h _ E
  refine ht _ ⟨by simp, ⟨by simp, fun p np => ⟨rfl, ask_valued wf tk hd sz put_same ?_⟩⟩⟩
  rw [put_put]
  show fIx (.tup [.int (t.whole hp), .int (t.cnt b hp), encO (t.land b hp)]) (.int 0) (put h p (.lst ((t.rows b hp []).map encRow))) (fun v h => s2 (ρ.set i (some v)) h D E)
  exact f_ix0 (u := .int (t.whole hp)) rfl rfl (fun v h => s2 (ρ.set i (some v)) h D E) (q p np)
theorem bo_wrong_claims (N : List Str) (hN : N.length = 7) : ∀ as h Q E, as.length = 4 → S_wrong_claims as h Q E → den_wrong_claims (startA N as) h (endsR Q) (RX E) := by
  rintro as h Q E - ⟨b, hp, t, v, rfl, cb, q⟩
  unfold den_wrong_claims
  simp only [startA, hN]
  obtain ⟨wf, tk, hh, hs⟩ := cb
  have look : EvA [some (encB b), some (encH hp), some t.enc, some v, none, none, none] h (RX E) (aCons (dVar 0) (aCons (dVar 1) (aCons (dVar 2) (aCons (dVar 3) aNil)))) [encB b, encH hp, t.enc, v] := eva_cons ev_var (eva_cons ev_var (eva2 ev_var ev_var))
  refine s_seq (s_call look rfl ⟨b, hp, t, v, rfl, ⟨wf, tk, hh, hs⟩, ?_⟩)
  rcases q with ⟨bad, q⟩ | ⟨cs, hv, ok, q⟩
  · exact .inl ⟨bad, h, Lss.refl h, q⟩
  refine .inr ⟨cs, hv, ok, ?_⟩
  dsimp only
  have nd : ((t.rows b hp []).map (·.1)).Nodup := by rw [← find_enc]; exact paths_nd t
  have lc : cs.length ≤ 900 := by
    have := congrArg List.length ok.ps
    rw [List.length_map, paths_len] at this
    omega
  refine m_dict (cs := t.rows b hp []) (ev_call (eva_cons (ev_var (v := encB b)) (eva2 (ev_var (v := encH hp)) (ev_var (v := t.enc)))) rfl fun Q q => ⟨b, hp, t, rfl, wf, tk, hh, hs, .inr q⟩) nd fun d hd => ?_
  refine s_ret (v := .tup ((wrongA b hp t cs).map encPt)) (ev_cb (eva1 ((ev_lcF (ok := fun _ => True) cs encRow (fun r => !decide (r.2 = landAt b hp t r.1)) (fun r => encPt r.1) (evi_it (v := v) ev_var (by rcases hv with rfl | rfl <;> rfl)) (fun _ _ => trivial) (by rw [sizeLine_eq]; omega) fun r hr => ⟨_, rfl, fun h' sb => ?_, fun _ h' sb => ev_var⟩).cast (by unfold wrongA; rw [List.map_map]; rfl))) m_tupL) (RT.less (Lss.put hd (by simp)) q)
  have hm : r.1 ∈ t.paths := by rw [← ok.ps]; exact List.mem_map_of_mem hr
  have hm' : r.1 ∈ (t.rows b hp []).map (·.1) := by rw [← find_enc]; exact hm
  refine evt_test (ev_bin (ev_var (v := encO r.2)) (ev_dget (ev_var (v := .ref d)) (ev_var (v := encPt r.1)) (dget_cl (sb d _ put_same) hm')) ?_)
  rw [rows_cl hm]
  exact m_neOO
theorem m_eqOO {h : Hv} {a b : Option Str} : EvF h fEq (encO a) (encO b) (.bl (decide (a = b))) := fun Q q => by
  cases b with
  | some z =>
    cases a with
    | none => exact Qv q (by simp)
    | some y => exact Qv q (by
      congr 1
      rw [Bool.eq_iff_iff]
      simp)
  | none =>
    cases a with
    | none => exact Qv q (by simp)
    | some z => exact Qv q (by simp)
theorem m_asg {ρ ρ' : Sl} {h : Hv} {E : PX} {D : AE} {de : ED} {v : Val} {t : Tg} {s2 : SD} (hv : EvE ρ h E de v) (e : bT t v ρ = some ρ') (q : s2 ρ' h D E) : sSeq (sAsg t de) s2 ρ h D E := hv _ (by
  show match bT t v ρ with | some ρ' => s2 ρ' h D E | none => False
  rw [e]; exact q)
theorem m_aug {ρ : Sl} {h : Hv} {E : PX} {D : AE} {de : ED} {i : Nat} {a c : Int} {s2 : SD} (e : ρ[i]? = some (some (.int a))) (hv : EvE ρ h E de (.int c)) (q : s2 (ρ.set i (some (.int (a + c)))) h D E) : sSeq (sAug i (fI0 fun i j => .int (i + j)) de) s2 ρ h D E := by
  show match ρ[i]? with | some (some v) => _ | _ => False
  rw [e]
  exact hv _ q
theorem m_augL {ρ : Sl} {h : Hv} {E : PX} {D : AE} {de : ED} {i : Nat} {a c : Int} (e : ρ[i]? = some (some (.int a))) (hv : EvE ρ h E de (.int c)) (q : D.nx (ρ.set i (some (.int (a + c)))) h) : sAug i (fI0 fun i j => .int (i + j)) de ρ h D E := by
  show match ρ[i]? with | some (some v) => _ | _ => False
  rw [e]
  exact hv _ q
theorem m_inT {h : Hv} {z : Str} {ns : List Str} : EvF h fIn (.str z) (.tup (ns.map .str)) (.bl (decide (z ∈ ns))) := fun Q q => by
  refine ⟨rfl, ?_, Qv q (by rw [inA_str])⟩
  rw [List.all_map, List.all_eq_true]
  intro x _
  rfl
def kC (b : Book) (z : Str) : Option Str → Bool
  | some l => decide (l ∈ takesL b z)
  | none => false
theorem cntC_cons {b : Book} {hp : Heap'} {z : Str} {f : List Int → Option Str} {path : List Int} {i : Nat} {t : Tree} : cntC b hp z f path i [t] = if kC b z (f (path ++ [(i : Int)])) = true then t.whole hp else 0 := by
  rw [cntC, cntC, Int.add_zero]
  cases f (path ++ [(i : Int)]) with
  | none => simp [kC]
  | some l => simp [kC]
theorem bo_follows (N : List Str) (hN : N.length = 12) : ∀ as h Q E, as.length = 5 → S_follows as h Q E → den_follows (startA N as) h (endsR Q) (RX E) := by
  rintro as h Q E - ⟨b, hp, t, d, path, cs, rfl, ⟨wf, tk, hh, hs⟩, ok, hd, hpath, q⟩
  unfold den_follows
  simp only [startA, hN]
  obtain ⟨u, hu⟩ := paths_at t path hpath
  obtain ⟨uok, uth, -, uht, usz, -⟩ := at_sub path t u hu tk.ok
  have uk : TrOk b hp u := ⟨uok, fun n hn => tk.rg n (uth n hn)⟩
  refine ss_set (v := u.enc) (ev_call (eva2 (ev_var (v := t.enc)) (ev_var (v := encPt path))) rfl fun Q q => ⟨t, u, path, rfl, hu, q⟩) ?_
  have hm : path ∈ cs.map (·.1) := by rw [ok.ps]; exact hpath
  unfold folA at q
  rw [hu] at q
  have pacts := wf.pl
  cases u with
  | leaf n =>
    have rg := uk.rg n (by simp [Tree.things])
    refine ss_if (k := true) (evt_not (evt_truthB (ev_cb (eva2 (ev_var (v := .int n)) ev_c) (u := .bl false) fun Q q => ⟨by decide, q⟩))) (fun _ => ?_) fun z => nomatch z
    exact s_ret (v := .bl (decide (clAt cs path = rawL hp n))) (ev_bin (ev_dget (ev_var (v := .ref d)) (ev_var (v := encPt path)) (dget_cl hd hm)) (ev_bin (v := .tup [.int (rawW hp n), encO (rawL hp n)]) (ev_bin (ev_var (v := encH hp)) (ev_var (v := .int n)) fun Q q => ix_heap rg.1 rg.2 q) ev_c (f_ix1 rfl rfl)) m_eqOO) (RT.same q)
  | node z ts =>
    rw [enc_node]
    have zn := uk.land
    refine ss_if (k := false) (evt_not (evt_truthB (ev_cb (eva2 (ev_var (v := .tup [.str z, .tup (ts.map Tree.enc)])) ev_c) (m_isi rfl)))) (fun z => nomatch z) fun _ => ?_
    refine m_next ?_
    dsimp only
    refine m_asg (v := .tup [.int 0, .int 0]) (ev_tup (eva2 ev_c ev_c) (by decide)) rfl ?_
    refine ss_for (it := ⟨enumV (ts.map Tree.enc), fun _ => True⟩) (fun Q q => (eva1 (ev_bin (ev_var (v := .tup [.str z, .tup (ts.map Tree.enc)])) ev_c (f_ix1 (u := .tup (ts.map Tree.enc)) rfl rfl))) _ q) fun dd hdd => ?_
    rw [enumV_from]
    refine for_ind (fun vs ρ h' => ∃ (done rest : List Tree) (x8 x9 x10 x11 : Option Val), ts = done ++ rest ∧ vs = enumFrom done.length (rest.map Tree.enc) ∧ Lss h' h ∧ Sub h h' ∧ ρ = [some (encB b), some (encH hp), some t.enc, some (.ref d), some (encPt path), some (.tup [.str z, .tup (ts.map Tree.enc)]), some (.int (wholeTs hp done)), some (.int (cntC b hp z (clAt cs) path 0 done)), x8, x9, x10, x11]) ?_ ?_ _ _ _ ⟨[], ts, none, none, none, none, rfl, rfl, Lss.refl h, Sub.refl h, rfl⟩
    · rintro ρ h' ⟨done, rest, x8, x9, x10, x11, e1, e2, ls, sb, rfl⟩
      have : rest = [] := by cases rest with
        | nil => rfl
        | cons _ _ => cases e2
      subst this
      rw [List.append_nil] at e1
      subst e1
      refine ⟨trivial, ?_⟩
      dsimp only
      refine s_ret (v := .bl (decide (clAt cs path = if enough b z (cntC b hp z (clAt cs) path 0 ts) (wholeTs hp ts) = true then some z else none))) (ev_bin (ev_dget (ev_var (v := .ref d)) (ev_var (v := encPt path)) (dget_cl (sb _ _ hd) hm)) (w := encO (if enough b z (cntC b hp z (clAt cs) path 0 ts) (wholeTs hp ts) = true then some z else none)) (ev_if (k := enough b z (cntC b hp z (clAt cs) path 0 ts) (wholeTs hp ts)) (evt_truthB (ev_call (eva_cons (ev_var (v := encB b)) (eva_cons (ev_bin (ev_var (v := .tup [.str z, .tup (ts.map Tree.enc)])) ev_c (f_ix0 (u := .str z) rfl rfl)) (eva2 ev_var ev_var))) rfl fun Q q => ⟨b, z, _, _, rfl, wf, zn, q⟩)) (fun k => ?_) fun k => ?_) m_eqOO) (RT.less ls q)
      · rw [if_pos k]
        exact ev_bin (ev_var (v := .tup [.str z, .tup (ts.map Tree.enc)])) ev_c (f_ix0 (u := .str z) rfl rfl)
      · rw [if_neg (by rw [k]; exact Bool.false_ne_true)]
        exact ev_c
    · rintro v vs ρ h' ⟨done, rest, x8, x9, x10, x11, e1, e2, ls, sb, rfl⟩
      cases rest with
      | nil => cases e2
      | cons t' rest =>
        rw [List.map_cons, enumFrom, List.cons.injEq] at e2
        obtain ⟨rfl, rfl⟩ := e2
        have mt : t' ∈ ts := by rw [e1]; simp
        have hk : done.length < ts.length := by rw [e1]; simp
        have gt : ts[done.length] = t' := by simp [e1]
        have tk' := uk.mem mt
        have hp' : path ++ [((done.length : Nat) : Int)] ∈ cs.map (·.1) := by rw [ok.ps]; exact at_path _ _ _ (at_snoc hu hk)
        have h1 : t'.ht < 24 := by
          have := htTs_mem mt
          rw [Tree.ht] at uht
          omega
        have h2 : t'.size ≤ 900 := by
          have : t'.size ≤ sizeTs ts := by
            rw [e1, sizeTs_app, sizeTs]; omega
          rw [Tree.size] at usz
          omega
        refine ⟨trivial, _, rfl, fun N hN => ?_⟩
        subst hdd
        refine m_valued0 (b := b) (hp := hp) (t := t') ev_var ev_var ev_var wf tk' h1 h2 fun p np => ?_
        have ls2 : Lss (put h' p (.lst ((t'.rows b hp []).map encRow))) h := (Lss.put np (by simp)).trans ls
        have sb2 : Sub h (put h' p (.lst ((t'.rows b hp []).map encRow))) := sb.trans (Sub.put np)
        refine m_aug rfl (ev_var (v := .int (t'.whole hp))) ?_
        refine ss_set (v := encO (clAt cs (path ++ [((done.length : Nat) : Int)]))) (ev_dget (ev_var (v := .ref d)) (w := encPt (path ++ [((done.length : Nat) : Int)])) ((ev_bin (ev_var (v := encPt path)) (ev_tup (eva1 (ev_var (v := .int ((done.length : Nat) : Int)))) (by simp [sizeLine_eq])) (f_addT (by
          have := paths_ht t path hpath
          simp only [List.length_map, List.length_singleton, sizeLine_eq]
          omega))).cast (by unfold encPt; simp)) (dget_cl (sb2 _ _ hd) hp')) ?_
        refine m_augL rfl (c := if kC b z (clAt cs (path ++ [((done.length : Nat) : Int)])) = true then t'.whole hp else 0) (ev_if (k := kC b z (clAt cs (path ++ [((done.length : Nat) : Int)]))) ?_ (fun k => ?_) fun k => ?_) ?_
        · cases ec : clAt cs (path ++ [((done.length : Nat) : Int)]) with
          | none => exact (evt_and (k := false) (l := false) (evt_test (ev_bin (ev_var (v := encO none)) ev_c fun Q q => q)) fun z => nomatch z).cast rfl
          | some l => exact (evt_and (k := true) (l := decide (l ∈ takesL b z)) (evt_test (ev_bin (ev_var (v := .str l)) ev_c fun Q q => q)) fun _ => evt_test (ev_bin (ev_var (v := .str l)) (ev_call (eva2 (ev_var (v := encB b)) (ev_bin (ev_var (v := .tup [.str z, .tup (ts.map Tree.enc)])) ev_c (f_ix0 (u := .str z) rfl rfl))) rfl fun Q q => ⟨b, z, rfl, pacts, q⟩) m_inT)).cast (by simp [kC])
        · rw [if_pos k]; exact ev_var
        · rw [if_neg (by rw [k]; exact Bool.false_ne_true)]; exact ev_c
        · refine hN _ _ ⟨done ++ [t'], rest, some (.int ((done.length : Nat) : Int)), some t'.enc, some (.int (t'.whole hp)), some (encO (clAt cs (path ++ [((done.length : Nat) : Int)]))), by rw [e1]; simp, by simp, ls2, sb2, ?_⟩
          rw [wholeTs_app, cntC_app, cntC_cons, Nat.zero_add]
          simp [wholeTs]
end DL
namespace DL
open PySem PySem.Spec PyProof.Rows L2
theorem bo_first_wrongs (N : List Str) (hN : N.length = 7) : ∀ as h Q E, as.length = 4 → S_first_wrongs as h Q E → den_first_wrongs (startA N as) h (endsR Q) (RX E) := by
  rintro as h Q E - ⟨b, hp, t, v, rfl, cb, q⟩
  unfold den_first_wrongs
  simp only [startA, hN]
  have look : EvA [some (encB b), some (encH hp), some t.enc, some v, none, none, none] h (RX E) (aCons (dVar 0) (aCons (dVar 1) (aCons (dVar 2) (aCons (dVar 3) aNil)))) [encB b, encH hp, t.enc, v] := eva_cons ev_var (eva_cons ev_var (eva2 ev_var ev_var))
  refine s_seq (s_call look rfl ⟨b, hp, t, v, rfl, cb, ?_⟩)
  rcases q with ⟨bad, q⟩ | ⟨cs, hv, ok, q⟩
  · exact .inl ⟨bad, h, Lss.refl h, q⟩
  refine .inr ⟨cs, .inr hv, ok, ?_⟩
  dsimp only
  subst hv
  have nd : (cs.map (·.1)).Nodup := by rw [ok.ps]; exact paths_nd t
  have lc : cs.length ≤ 900 := by
    have := congrArg List.length ok.ps
    rw [List.length_map, paths_len] at this
    have := cb.2.2.2
    omega
  refine m_dict (cs := cs) ev_var nd fun d hd => ?_
  refine s_ret (v := .tup ((firstA b hp t cs).map encPt)) (ev_cb (eva1 ((ev_lcF (ok := fun _ => True) cs encRow (fun r => !folA b hp t (clAt cs) r.1) (fun r => encPt r.1) (evi_it (v := .tpo (cs.map encRow)) ev_var rfl) (fun _ _ => trivial) (by rw [sizeLine_eq]; omega) fun r hr => ⟨_, rfl, fun h' sb => ?_, fun _ h' sb => ev_var⟩).cast (by unfold firstA; rw [List.map_map]; rfl))) m_tupL) (RT.less (Lss.put hd (by simp)) q)
  have hm : r.1 ∈ t.paths := by rw [← ok.ps]; exact List.mem_map_of_mem hr
  exact evt_not (evt_truthB (ev_call (eva_cons (ev_var (v := encB b)) (eva_cons (ev_var (v := encH hp)) (eva_cons (ev_var (v := t.enc)) (eva2 (ev_var (v := .ref d)) (ev_var (v := encPt r.1)))))) rfl fun Q q => ⟨b, hp, t, d, r.1, cs, rfl, cb, ok, sb d _ put_same, hm, q⟩))
end DL
namespace DL
open PySem PySem.Spec PyProof.Rows L2
end DL
namespace DL
open PySem PySem.Spec PyProof.Rows L2
end DL
namespace DL
open PySem PySem.Spec PyProof.Rows L2
end DL
namespace DL
open PySem PySem.Spec PyProof.Rows L2
structure LS (Ts : List (Addr × Str)) (t r : Addr) (h : Hv) : Prop where
  T : Town t r h
  tb : Tbs Ts h
section
variable {Ts : List (Addr × Str)} {t r : Addr} {h h' : Hv} {p : Addr} {vs ws : List Val}
theorem LS.new (s : LS Ts t r h) (e : h p = none) : LS Ts t r (put h p (.lst vs)) := ⟨s.T.put (s.T.fresh e).1 (s.T.fresh e).2, s.tb.put e (fun _ z => nomatch z)⟩
theorem LS.ne (s : LS Ts t r h) (e : h p = some (.lst ws)) : p ≠ t ∧ p ≠ r := by
  obtain ⟨c, _, e1⟩ := s.T.tc
  obtain ⟨rs, e2, _⟩ := s.T.rc
  exact ⟨fun z => (by rw [z, e1] at e; cases e), fun z => (by rw [z, e2] at e; cases e)⟩
theorem LS.wr (s : LS Ts t r h) (e : h p = some (.lst ws)) : LS Ts t r (put h p (.lst vs)) := ⟨s.T.put (s.ne e).1 (s.ne e).2, s.tb.write e (fun _ z => nomatch z) (fun _ z => nomatch z)⟩
end
theorem f_gtI {h : Hv} {i j : Int} : EvF h fGt (.int i) (.int j) (.bl (decide (j < i))) := fun Q q => q
end DL
namespace DL
open PySem PySem.Spec PyProof.Rows L2
theorem CMade.mono {b : Book} {hp : Heap'} {fs gs : Str → List Nat} {z : Str} {m : Nat} (c : CMade b hp fs z m) (h : ∀ t ∈ takesL b z, ∀ n ∈ fs t, n ∈ gs t) : CMade b hp gs z m := by
  obtain ⟨p, s, j, e⟩ := c
  exact ⟨p, s, j.mono fun q ⟨t, ht, hq⟩ => ⟨t, ht, h t ht q hq⟩, e⟩
end DL
namespace DL
open PySem PySem.Spec PyProof.Rows L2
set_option maxHeartbeats 0 in
theorem bit_add_all : ((List.range 256).all fun m => (List.range 8).all fun x => m.testBit x || (decide (m + 2 ^ x < 256) && (List.range 9).all fun i => (m + 2 ^ x).testBit i == (m.testBit i || decide (i = x)))) = true := by decide +kernel
theorem bit_add {m x : Nat} (hm : m < 256) (hx : x < 8) (hb : m.testBit x = false) : m + 2 ^ x < 256 ∧ ∀ i, (m + 2 ^ x).testBit i = (m.testBit i || decide (i = x)) := by
  have := List.all_eq_true.mp (List.all_eq_true.mp bit_add_all m (List.mem_range.mpr hm)) x (List.mem_range.mpr hx)
  rw [hb, Bool.false_or, Bool.and_eq_true, decide_eq_true_eq] at this
  refine ⟨this.1, fun i => ?_⟩
  by_cases hi : i < 9
  · exact beq_iff_eq.mp (List.all_eq_true.mp this.2 i (List.mem_range.mpr hi))
  · have big : ∀ k, k < 256 → k.testBit i = false := fun k hk => by
      cases e : k.testBit i with
      | false => rfl
      | true => have := bit_lt hk e; omega
    rw [big _ this.1, big _ hm]
    simp; omega
def In8 (L : List Int) : Prop := ∀ i ∈ L, 0 ≤ i ∧ i < 8
theorem bitsL_cons (x : Int) (L : List Int) : bitsL (x :: L) = 2 ^ x.toNat + bitsL L := by unfold bitsL; simp
theorem bits_list : ∀ {L : List Int}, L.Nodup → In8 L → bitsL L < 256 ∧ ∀ i : Nat, (bitsL L).testBit i = decide ((i : Int) ∈ L)
  | [], _, _ => ⟨by decide, fun i => by simp [bitsL]⟩
  | x :: L, nd, h8 => by
    obtain ⟨nx, nd'⟩ := List.nodup_cons.mp nd
    obtain ⟨lt, tb⟩ := bits_list nd' fun i hi => h8 i (List.mem_cons_of_mem _ hi)
    have hx := h8 x List.mem_cons_self
    have ex : ((x.toNat : Nat) : Int) = x := by omega
    have hb : (bitsL L).testBit x.toNat = false := by rw [tb, ex]; exact decide_eq_false nx
    obtain ⟨a, c⟩ := bit_add lt (by omega : x.toNat < 8) hb
    rw [bitsL_cons, Nat.add_comm]
    refine ⟨a, fun i => ?_⟩
    rw [c, tb, Bool.eq_iff_iff, Bool.or_eq_true, decide_eq_true_eq, decide_eq_true_eq, decide_eq_true_eq, List.mem_cons]
    constructor
    · rintro (h | h)
      · exact .inr h
      · exact .inl (by omega)
    · rintro (h | h)
      · exact .inr (by omega)
      · exact .inl h
theorem mem_setI {n : Nat} (hn : n < 256) {i : Int} : i ∈ setI n ↔ 0 ≤ i ∧ n.testBit i.toNat = true := by
  unfold setI
  rw [List.mem_map]
  constructor
  · rintro ⟨j, hj, rfl⟩
    exact ⟨by omega, by rw [Int.toNat_natCast]; exact (mem_setN hn).mp hj⟩
  · rintro ⟨h0, h⟩
    exact ⟨i.toNat, (mem_setN hn).mpr h, by omega⟩
theorem setI_nodup (n : Nat) : (setI n).Nodup := (setI_up n).imp fun h e => by omega
theorem set_list {L : List Int} (nd : L.Nodup) (h8 : In8 L) : (setI (bitsL L)).Perm L := by
  obtain ⟨lt, tb⟩ := bits_list nd h8
  refine (List.perm_ext_iff_of_nodup (setI_nodup _) nd).mpr fun i => ?_
  rw [mem_setI lt, tb, decide_eq_true_eq]
  constructor
  · rintro ⟨h0, h⟩
    rw [show ((i.toNat : Nat) : Int) = i by omega] at h
    exact h
  · intro h
    have := (h8 i h).1
    exact ⟨this, by rw [show ((i.toNat : Nat) : Int) = i by omega]; exact h⟩
theorem wt_list {hp : Heap'} {L : List Int} (nd : L.Nodup) (h8 : In8 L) : wt hp (bitsL L) = (L.map (rawW hp)).sum := sum_perm (set_list nd h8) _
theorem bits_sub {L M : List Int} (nL : L.Nodup) (nM : M.Nodup) (h8 : In8 M) (h : ∀ i ∈ L, i ∈ M) : sub (bitsL L) (bitsL M) = true := sub_iff.mpr fun i hi => by
  rw [(bits_list nL fun i hi => h8 i (h i hi)).2] at hi
  rw [(bits_list nM h8).2]
  exact decide_eq_true (h _ (of_decide_eq_true hi))
end DL
namespace DL
open PySem PySem.Spec PyProof.Rows L2
theorem things_ne {names : List Str} : ∀ (t : Tree), t.okT names → t.things ≠ []
  | .leaf n, _ => by rw [Tree.things]; simp
  | .node z (t :: ts), h => by
    rw [Tree.okT] at h
    have h3 := h.2.2
    rw [okTs] at h3
    rw [Tree.things, thingsTs]
    intro e
    exact things_ne t h3.1 (List.append_eq_nil_iff.mp e).1
  | .node z [], h => by rw [Tree.okT] at h; exact absurd rfl h.2.1
end DL
namespace DL
open PySem PySem.Spec PyProof.Rows L2
end DL
namespace DL
open PySem PySem.Spec PyProof.Rows L2
end DL
namespace DL
open PySem PySem.Spec PyProof.Rows L2
end DL
namespace DL
open PySem PySem.Spec PyProof.Rows L2
structure Kp (t r : Addr) (h0 h : Hv) : Prop where
  s : ∀ a o, a ≠ t → a ≠ r → h0 a = some o → h a = some o
  b : ∀ a, h a = some .busy → h0 a = some .busy
def mixT (t r : Addr) (h0 h : Hv) : Hv := fun a => if a = t ∨ a = r then h a else h0 a
section
variable {t r p : Addr} {h0 h h' : Hv} {vs ws : List Val}
theorem Kp.less (k : Kp t r h0 h) (T : Town t r h) : Lss h (mixT t r h0 h) := ⟨fun a => by
  unfold mixT
  split
  · exact .inr rfl
  · rename_i n
    cases e : h0 a with
    | none => exact .inl rfl
    | some o => exact .inr (k.s a o (fun z => n (.inl z)) (fun z => n (.inr z)) e).symm, fun a e => by
  unfold mixT
  split
  · exact e
  · exact k.b a e⟩
theorem Kp.no (k : Kp t r h0 h) (T : Town t r h) (e : h p = none) : h0 p = none := by
  obtain ⟨n1, n2⟩ := T.fresh e
  cases e0 : h0 p with
  | none => rfl
  | some o => rw [k.s p o n1 n2 e0] at e; cases e
theorem Kp.wr (k : Kp t r h0 h) (e : h0 p = none) : Kp t r h0 (put h p (.lst vs)) := ⟨fun a o n1 n2 ea => by rw [put_ne (fun z => by rw [z, e] at ea; cases ea)]; exact k.s a o n1 n2 ea, fun a ea => by
  by_cases z : a = p
  · subst z; rw [put_same] at ea; cases ea
  · rw [put_ne z] at ea; exact k.b a ea⟩
theorem Kp.refl (h : Hv) : Kp t r h h := ⟨fun _ _ _ _ e => e, fun _ e => e⟩
end
end DL
namespace DL
open PySem PySem.Spec PyProof.Rows L2
end DL
namespace DL
open PySem PySem.Spec PyProof.Rows L2
theorem x_par2 {i j : Nat} {d1 d2 : ED} {s2 : SD} {ρ : Sl} {h : Hv} {D : AE} {E : PX} (q : d1 ρ h (fun v h1 => d2 ρ h1 (fun w h2 => s2 ((ρ.set i (some v)).set j (some w)) h2 D E) E) E) : sSeq (sPar [i, j] (aCons d1 (aCons d2 aNil))) s2 ρ h D E := q
end DL
namespace DL
open PySem PySem.Spec PyProof.Rows L2
section
variable {ρ : Sl} {h : Hv} {E : PX} {D : AE} {s1 s2 : SD} {da db dl dx : ED} {Q : PV} {v w : Val} {vs : List Val}
theorem m_bin {f : F2} (q : da ρ h (fun v h1 => db ρ h1 (fun w h2 => f v w h2 Q) E) E) : dBin f da db ρ h Q E := q
theorem m_ev (a : EvE ρ h E da v) (q : Q v h) : da ρ h Q E := a _ q
theorem m_tpF {a : Addr} (e : h a = some (.lst vs)) : EvC h fTupleF [.ref a] (.tpo vs) := fun Q q => ⟨.ref a, vs, rfl, by simp [listOf, e], q⟩
end
theorem LS.newO {Ts : List (Addr × Str)} {t r : Addr} {h : Hv} {p : Addr} {kvs : List (List Key × Val)} (s : LS Ts t r h) (e : h p = none) : LS Ts t r (put h p (.dT kvs)) := ⟨s.T.put (s.T.fresh e).1 (s.T.fresh e).2, s.tb.put e (fun _ z => nomatch z)⟩
end DL
namespace DL
open PySem PySem.Spec PyProof.Rows L2
def kdM (v : Val) : PyData := (dat (.tup [.int ((match v with | .tup vs => vs.length | _ => 0 : Nat) : Int), v])).getD .none
theorem kdM_pt (p : List Int) : kdM (encPt p) = .tuple [.int (p.length : Int), .tuple (p.map .int)] := by
  unfold kdM encPt
  dsimp only
  rw [dat, dats, dats, dats, dat, dat, dats_ints, List.length_map]
  rfl
theorem alike_ints : ∀ p q : List Int, PySem.W.alikeAll (p.map .int) (q.map .int) = true
  | [], _ => by rw [List.map_nil, PySem.W.alikeAll]
  | _ :: _, [] => by rw [List.map_nil, List.map_cons, PySem.W.alikeAll]
  | x :: p, y :: q => by rw [List.map_cons, List.map_cons, PySem.W.alikeAll, PySem.W.alike, alike_ints p q]; rfl
theorem alike_pt (p q : List Int) : PySem.W.alike (kdM (encPt p)) (kdM (encPt q)) = true := by
  rw [kdM_pt, kdM_pt, PySem.W.alike, PySem.W.alikeAll, PySem.W.alikeAll, PySem.W.alike, PySem.W.alike, alike_ints]
  rfl
theorem lt_pt {p q : List Int} (h : p.length < q.length) : PySem.W.dataLt (kdM (encPt p)) (kdM (encPt q)) = true := by
  rw [kdM_pt, kdM_pt, PySem.W.dataLt_tuple, PySem.W.dataLt_all_no (by rw [PySem.W.alike]) (by rw [PyData.eqv]; exact decide_eq_false (by omega)), PySem.W.dataLt_int]
  exact decide_eq_true (by omega)
theorem depth_pt (p : List Int) : (kdM (encPt p)).depth ≤ 20 := by
  rw [kdM_pt]
  have : ∀ p : List Int, PyData.depthAll (p.map .int) ≤ 1 := fun p => by
    induction p with
    | nil => rw [List.map_nil, PyData.depthAll]; omega
    | cons x p ih => rw [List.map_cons, PyData.depthAll, PyData.depth]; omega
  have := this p
  rw [PyData.depth, PyData.depthAll, PyData.depthAll, PyData.depthAll, PyData.depth, PyData.depth]
  omega
theorem max_pts {h : Hv} {ps : List (List Int)} : KeysMx h (dTup (aCons (dCB fLen (aCons (dVar 0) aNil)) (aCons (dVar 0) aNil))) (ps.map encPt) (fun v => .tup [.int ((match v with | .tup vs => vs.length | _ => 0 : Nat) : Int), v]) kdM := by
  refine ⟨fun w hw => ?_, fun w hw v hv => ?_, fun w hw => ?_, fun w hw => ?_, fun w hw Q' q => ?_⟩
  · obtain ⟨p, _, rfl⟩ := List.mem_map.mp hw
    rw [kdM_pt]
    unfold encPt
    dsimp only
    rw [dat, dats, dats, dats, dat, dat, dats_ints, List.length_map]
    rfl
  · obtain ⟨p, _, rfl⟩ := List.mem_map.mp hw
    obtain ⟨q, _, rfl⟩ := List.mem_map.mp hv
    exact alike_pt p q
  · obtain ⟨p, _, rfl⟩ := List.mem_map.mp hw
    rw [kdM_pt]
    intro z; cases z
  · obtain ⟨p, _, rfl⟩ := List.mem_map.mp hw
    exact depth_pt p
  · obtain ⟨p, _, rfl⟩ := List.mem_map.mp hw
    exact (ev_tup (eva2 (ev_cb (eva1 (ev_var (v := encPt p))) (c_len (n := (p.map Val.int).length) rfl)) (ev_var (v := encPt p))) (by simp [sizeLine_eq])) Q' q
theorem ss_mx {ρ : Sl} {h : Hv} {E : PX} {D : AE} {s2 : SD} {i : Nat} {de : ED} {Ts : List (Addr × Str)} {P : Addr} {q : Str} {ps : List (List Int)} (tb : Tbs Ts h) (hin : (P, q) ∈ Ts) (he : EvE ρ h E de (.tup (ps.map encPt))) (ne : ps ≠ [])
    (qq : ∀ p ∈ ps, (∀ p' ∈ ps, p'.length ≤ p.length) → s2 (ρ.set i (some (encPt p))) h D E) : sSeq (sSet i (dMaxK Ts P q (aCons de aNil) (dTup (aCons (dCB fLen (aCons (dVar 0) aNil)) (aCons (dVar 0) aNil))))) s2 ρ h D E := by
  show de ρ h _ E
  refine he _ ⟨tb, hin, by simpa using ne, _, _, max_pts, fun w hw hm => ?_⟩
  obtain ⟨p, hp, rfl⟩ := List.mem_map.mp hw
  refine qq p hp fun p' hp' => Nat.le_of_not_lt fun hl => ?_
  have := hm _ (List.mem_map_of_mem hp')
  rw [lt_pt hl] at this
  cases this
theorem ev_rows {ρ : Sl} {h : Hv} {E : PX} {de : ED} {d : Addr} {cs : List Row} (he : EvE ρ h E de (.ref d)) (hd : h d = some (.dT (dtC cs))) (up : RiseI (cs.map (·.1))) (l64 : cs.length < 64) : EvE ρ h E (dSortIt de) (.lst (cs.map encRow)) := fun Q q => he _ (by
  show match h d with | some (.dT kvs) => (∃ ks : List (List Int), kvs.map (·.1) = ks.map intK ∧ RiseI ks ∧ ks.length < 64) ∧ Q (.lst (kvs.map pairT)) h | _ => False
  rw [hd]
  exact ⟨⟨cs.map (·.1), dtC_keys cs, up, by rw [List.length_map]; exact l64⟩, by rw [dtC_pairs]; exact q⟩)
theorem f_eqTn {h : Hv} {vs : List Val} (ok : okN 64 (.tup vs) = true) : EvF h fEq (.tup vs) (.tup []) (.bl vs.isEmpty) := fun Q q => fEq_dat ok rfl (by rw [eqD_nil _ ok]; exact q)
theorem f_ltIm {h : Hv} {i j : Int} : EvF h fLtI (.int i) (.int j) (.bl (decide (i < j))) := fun Q q => q
theorem x_dictTT {ρ : Sl} {h : Hv} {E : PX} {de : ED} {cs : List Row} {Q : PV} (he : EvE ρ h E de (.tpo (cs.map encRow))) (nd : (cs.map (·.1)).Nodup) (q : ∀ d, h d = none → Q (.ref d) (put h d (.dT (dtC cs)))) : dCB fDictTT (aCons de aNil) ρ h Q E := by
  show de ρ h _ E
  exact he _ ⟨dtC cs, by rw [dt_rows], dt_nd nd, fun p np => q p np⟩
theorem bo__law_mended (G : Gx) (N : List Str) (hN : N.length = 9) : ∀ as h Q E, as.length = 4 → S__law_mended G as h Q E → den__law_mended G (startA N as) h (endsR Q) (RX E) := by
  rintro as h0 Q E - ⟨b, hp, t, cs0, rfl, cb, fr, ok0, l64, w40, tb, hin, q⟩
  unfold den__law_mended
  simp only [startA, hN]
  obtain ⟨wf, tk, hh, hs⟩ := id cb
  have nd0 : (cs0.map (·.1)).Nodup := by rw [ok0.ps]; exact paths_nd t
  refine x_par2 (x_dictTT (ev_var (v := .tpo (cs0.map encRow))) nd0 fun d nd => ?_)
  refine m_ev ev_c ?_
  have tb1 : ∀ cs, Tbs G.Ts (put h0 d (.dT (dtC cs))) := fun cs => tb.put nd (fun _ z => nomatch z)
  refine s_seq (while_of (fun n ρ h' => ∃ (cs : List Row) (k : Nat) (x6 x7 x8 : Option Val), ρ = [some (encB b), some (encH hp), some t.enc, some (.tpo (cs0.map encRow)), some (.ref d), some (.int (k : Int)), x6, x7, x8] ∧ h' = put h0 d (.dT (dtC cs)) ∧ ClOk b t cs ∧ n = (wrongA b hp t cs).length ∧ k + (wrongA b hp t cs).length = (wrongA b hp t cs0).length) (n := (wrongA b hp t cs0).length) ⟨cs0, 0, none, none, none, rfl, rfl, ok0, rfl, by simp⟩ ?_)
  rintro n ρ h' ⟨cs, k, x6, x7, x8, rfl, rfl, ok, rfl, ek⟩ Ny hNy
  have lc : cs.length = t.paths.length := by rw [← ok.ps, List.length_map]
  refine evt_test (ev_bin (ev_var (v := .int (k : Int))) ev_c f_ltIm) _ ?_
  rw [if_pos (decide_eq_true (by omega))]
  refine ss_set (v := .tup ((firstA b hp t cs).map encPt)) (ev_call (eva_cons (ev_var (v := encB b)) (eva_cons (ev_var (v := encH hp)) (eva2 (ev_var (v := t.enc)) (ev_cb (u := .tpo (cs.map encRow)) (eva1 (ev_rows (cs := cs) (ev_var (v := .ref d)) put_same (by rw [ok.ps]; exact paths_rise t) (by omega))) fun Q q => ⟨_, _, rfl, rfl, q⟩)))) rfl fun Q q => ⟨b, hp, t, _, rfl, cb, .inr ⟨cs, rfl, ok, q⟩⟩) ?_
  have okf : okN 64 (.tup ((firstA b hp t cs).map encPt)) = true := okN_pts hh (by unfold firstA; rw [List.length_map]; have := List.length_filter_le (fun r : Row => !folA b hp t (clAt cs) r.1) cs; omega) fun p hp' => ((mem_first ok).mp hp').1
  refine ss_if (k := ((firstA b hp t cs).map encPt).isEmpty) (evt_test (ev_bin (ev_var (v := .tup ((firstA b hp t cs).map encPt))) (ev_tup eva_nil (by simp)) (f_eqTn okf))) (fun hk => ?_) (fun hk => ?_)
  · have e1 : firstA b hp t cs = [] := by simpa using hk
    have e2 := (nil_iff ok).mpr e1
    have e3 := (truth_iff ok).mpr e2
    rw [e2, List.length_nil, Nat.add_zero] at ek
    refine s_ret (ev_tup (eva2 (ev_var (v := .ref d)) (ev_var (v := .int (k : Int)))) (by simp [sizeLine_eq])) ?_
    rw [ek, e3]
    exact RT.same (q d nd)
  · have ne : firstA b hp t cs ≠ [] := fun z => by rw [z] at hk; cases hk
    refine m_next ?_
    dsimp only
    refine ss_mx (tb1 cs) (G.mem hin) (ev_var (v := .tup ((firstA b hp t cs).map encPt))) ne fun p hp' hm => ?_
    have hw := deepest_wrong ok hp' hm
    have hpath := ((mem_first ok).mp hp').1
    obtain ⟨u, hu⟩ := paths_at t p hpath
    obtain ⟨uok, uth, -, uht, usz, -⟩ := at_sub p t u hu tk.ok
    have uk : TrOk b hp u := ⟨uok, fun n hn => tk.rg n (uth n hn)⟩
    refine ss_set (v := u.enc) (ev_call (eva2 (ev_var (v := t.enc)) (ev_var (v := encPt p))) rfl fun Q q => ⟨t, u, p, rfl, hu, q⟩) ?_
    have el : landAt b hp t p = u.land b hp := by unfold landAt; rw [hu]; rfl
    refine ss_dput (v := encO (u.land b hp)) (h' := put h0 d (.dT (dtC (mendC b hp t cs p)))) (ev_call (eva_cons (ev_var (v := encB b)) (eva2 (ev_var (v := encH hp)) (ev_var (v := u.enc)))) rfl fun Q q => ⟨b, hp, u, rfl, wf, uk, by omega, by omega, q⟩) (ev_var (v := .ref d)) (ev_var (v := encPt p)) ?_ ?_
    · unfold encPt
      simp only [dputA, put_same, keyL_ints]
      rw [if_pos (by unfold dtC; rw [List.length_map, sizeLine_eq]; omega), put_put, ← el, dtC_mend (by rw [ok.ps]; exact hpath)]
    · have wl := mend_wrong fr tk ok hw
      refine s_set (v := .int ((k + 1 : Nat) : Int)) ((ev_bin (ev_var (v := .int (k : Int))) ev_c (f_add _ _)).cast (by push_cast; rfl)) (hNy _ _ _ (by omega) ⟨mendC b hp t cs p, k + 1, _, _, _, rfl, rfl, mend_ok fr tk ok hpath, rfl, by omega⟩)
end DL
namespace DL
open PySem PySem.Spec PyProof.Rows L2
def costT (c : Str → Int) (t : Tree) : Int := (t.lands.map c).sum
def costTs (c : Str → Int) (ts : List Tree) : Int := ((landsTs ts).map c).sum
def Nn (c : Str → Int) (b : Book) : Prop := ∀ z ∈ b.names, 0 ≤ c z ∧ c z ≤ 9999
structure GT (b : Book) (hp : Heap') (z : Str) (n : Nat) (t : Tree) : Prop where
  ok : t.okT b.names
  th : t.things.Perm (setI n)
  ld : t.land b hp = some z
structure GS (b : Book) (hp : Heap') (z : Str) (n : Nat) (ts : List Tree) : Prop where
  ok : okTs b.names ts
  ne : ts ≠ []
  th : (thingsTs ts).Perm (setI n)
  ld : ∀ t ∈ ts, ∃ y ∈ takesL b z, t.land b hp = some y
theorem rawW_nn {hp : Heap'} (wt1 : ∀ x ∈ hp, 1 ≤ x.1) (n : Int) : 0 ≤ rawW hp n := by
  unfold rawW
  cases e : hp[n.toNat]? with
  | none => simp
  | some x => have := wt1 x (List.mem_of_getElem? e); simp; omega
end DL
namespace DL
open PySem PySem.Spec PyProof.Rows L2
inductive JndC (P : Nat → Int → Prop) : Nat → Int → Prop
  | one {n : Nat} {k : Int} : n ≠ 0 → P n k → JndC P n k
  | more {n p : Nat} {k k' : Int} : sub p n = true → p ≠ 0 → p ≠ n → lowN n &&& p ≠ 0 → P p k → JndC P (n - p) k' → JndC P n (k + k')
theorem JndC.mono {P P' : Nat → Int → Prop} {n : Nat} {k : Int} (j : JndC P n k) (h : ∀ p k, P p k → P' p k) : JndC P' n k := by
  induction j with
  | one n0 hp => exact .one n0 (h _ _ hp)
  | more s p0 pn l hp _ ih => exact .more s p0 pn l (h _ _ hp) ih
theorem JndC.pos {P : Nat → Int → Prop} {n : Nat} {k : Int} (j : JndC P n k) : n ≠ 0 := by
  cases j with
  | one n0 _ => exact n0
  | more s p0 pn _ _ _ => have := sub_le s; omega
def Up (P : Nat → Int → Prop) (n : Nat) (k : Int) : Prop := ∃ k', k' ≤ k ∧ P n k'
theorem JndC.up {P : Nat → Int → Prop} {n : Nat} {k : Int} (j : JndC (Up P) n k) : Up (JndC P) n k := by
  induction j with
  | one n0 hp =>
    obtain ⟨k', h, hp⟩ := hp
    exact ⟨k', h, .one n0 hp⟩
  | more s p0 pn l hp _ ih =>
    obtain ⟨k1, h1, hp⟩ := hp
    obtain ⟨k2, h2, hj⟩ := ih
    exact ⟨k1 + k2, by omega, .more s p0 pn l hp hj⟩
theorem JndC.low {P : Nat → Int → Prop} {Q : Nat → Prop} {n : Nat} {k : Int} (j : JndC P n k) (h : ∀ p k, P p k → Q p) : Jnd Q n := by
  induction j with
  | one n0 hp => exact .one n0 (h _ _ hp)
  | more s p0 pn l hp _ ih => exact .more s p0 pn l (h _ _ hp) ih
def TkC (b : Book) (C : Str → Nat → Int → Prop) (z : Str) (p : Nat) (k : Int) : Prop := ∃ t ∈ takesL b z, C t p k
structure CloC (b : Book) (hp : Heap') (c : Str → Int) (C : Str → Nat → Int → Prop) : Prop where
  raw : ∀ (i : Nat) (w : Int) (z : Str), hp[i]? = some (w, some z) → C z (2 ^ i) 0
  made : ∀ z ∈ b.names, ∀ n, inH hp n → ∀ p, sub p n = true → ∀ k, JndC (TkC b C z) p k → enough b z (wt hp p) (wt hp n) = true → C z n (k + c z)
def Cst (b : Book) (hp : Heap') (c : Str → Int) (z : Str) (n : Nat) (k : Int) : Prop := ∀ C, CloC b hp c C → C z n k
end DL
namespace DL
open PySem PySem.Spec PyProof.Rows L2
abbrev Bst := Str → Nat → Option (Int × Tree)
abbrev Spt := Str → Nat → Option (Int × List Tree)
def OptB (b : Book) (hp : Heap') (c : Str → Int) (z : Str) (n : Nat) (o : Option (Int × Tree)) : Prop :=
  (∀ k t, o = some (k, t) → GT b hp z n t ∧ costT c t = k ∧ t.ht ≤ b.names.length * (setI n).length) ∧ (∀ k', Cst b hp c z n k' → ∃ k t, o = some (k, t) ∧ k ≤ k')
def OptS (b : Book) (hp : Heap') (c : Str → Int) (z : Str) (n : Nat) (o : Option (Int × List Tree)) : Prop :=
  (∀ k ts, o = some (k, ts) → GS b hp z n ts ∧ costTs c ts = k ∧ htTs ts ≤ b.names.length * (setI n).length) ∧ (∀ k', JndC (TkC b (Cst b hp c) z) n k' → ∃ k ts, o = some (k, ts) ∧ k ≤ k')
structure BInv (b : Book) (hp : Heap') (c : Str → Int) (D : Nat → Prop) (B : Bst) (S : Spt) : Prop where
  lo : ∀ z ∈ b.names, ∀ n, D n → OptB b hp c z n (B z n) ∧ OptS b hp c z n (S z n)
  nx : ∀ z ∈ b.names, ∀ n, ¬ D n → B z n = none ∧ S z n = none
def cheap (B : Bst) (m : Nat) (k : Int) (w : Str) : Bool := match B w m with
  | some (k', _) => decide (k' ≤ k)
  | none => false
def cntB (b : Book) (B : Bst) (m : Nat) (k : Int) : Nat := b.names.countP (cheap B m k)
structure BMid (b : Book) (hp : Heap') (c : Str → Int) (D : Nat → Prop) (m : Nat) (B : Bst) (S : Spt) : Prop where
  lo : ∀ z ∈ b.names, ∀ n, D n → OptB b hp c z n (B z n) ∧ OptS b hp c z n (S z n)
  nx : ∀ z ∈ b.names, ∀ n, ¬ D n → n ≠ m → B z n = none ∧ S z n = none
  bm : ∀ z ∈ b.names, ∀ k t, B z m = some (k, t) → GT b hp z m t ∧ costT c t = k ∧ t.ht ≤ b.names.length * ((setI m).length - 1) + cntB b B m k
  sm : ∀ z ∈ b.names, ∀ k ts, S z m = some (k, ts) → GS b hp z m ts ∧ costTs c ts = k ∧ htTs ts ≤ b.names.length * ((setI m).length - 1) + cntB b B m k
theorem BInv.mid {b : Book} {hp : Heap'} {c : Str → Int} {D : Nat → Prop} {B : Bst} {S : Spt} (i : BInv b hp c D B S) {m : Nat} (hm : ¬ D m) : BMid b hp c D m B S :=
  ⟨i.lo, fun z hz n hn _ => i.nx z hz n hn, fun z hz k t h => by rw [(i.nx z hz m hm).1] at h; (cases h), fun z hz k t h => by rw [(i.nx z hz m hm).2] at h; (cases h)⟩
structure Cand (b : Book) (B : Bst) (S : Spt) (z : Str) (m p : Nat) (y : Str) (k1 : Int) (t : Tree) (k2 : Int) (ts : List Tree) : Prop where
  cp : p ∈ partsN m
  cl : lowN m &&& p ≠ 0
  cy : y ∈ takesL b z
  cb : B y p = some (k1, t)
  cs : (m - p = 0 ∧ k2 = 0 ∧ ts = []) ∨ (m - p ≠ 0 ∧ S z (m - p) = some (k2, ts))
structure FBo (b : Book) (hp : Heap') (c : Str → Int) (D : Nat → Prop) (m : Nat) : Prop where
  fo : FillOk b hp D m
  w1 : ∀ x ∈ hp, 1 ≤ x.1
  nn : Nn c b
theorem FBo.m1 {b : Book} {hp : Heap'} {c : Str → Int} {D : Nat → Prop} {m : Nat} (f : FBo b hp c D m) : 1 ≤ (setI m).length := by
  obtain ⟨x, r, e⟩ := setI_ne f.fo.lt f.fo.m0
  rw [e]; simp
theorem FBo.low {b : Book} {hp : Heap'} {c : Str → Int} {D : Nat → Prop} {m : Nat} (f : FBo b hp c D m) {p : Nat} (p0 : p ≠ 0) (pm : p ≠ m) (s : sub p m = true) : D p ∧ b.names.length * (setI p).length ≤ b.names.length * ((setI m).length - 1) :=
  ⟨f.fo.low p p0 pm s, Nat.mul_le_mul_left _ (by have := pop_lt f.fo.lt p0 s pm; omega)⟩
end DL
namespace DL
open PySem PySem.Spec PyProof.Rows L2
def encBo (o : Int × Tree) : Val := .tup [.int o.1, o.2.enc]
def encSo (o : Int × List Tree) : Val := .tup [.int o.1, .tup (o.2.map Tree.enc)]
structure DOf (kvs : List (Key × Val)) (f : Nat → Option Val) : Prop where
  ks : ∃ ks : List Nat, kvs.map (·.1) = ks.map (fun (k : Nat) => (Sum.inl (k : Int) : Key)) ∧ ks.Nodup ∧ ∀ k ∈ ks, k < 256
  val : ∀ n : Nat, valA kvs (.inl (n : Int)) = f n
structure Ab where
  ca : Addr
  bt : Addr
  sp : Addr
  ba : Str → Addr
  sa : Str → Addr
def cosD (b : Book) (c : Str → Int) : List (Key × Val) := b.names.map fun z => (.inr z, .int (c z))
def bestF (b : Book) (hp : Heap') (A : Ab) : List (Str × Val) :=
  [("book", encB b), ("heap", encH hp), ("costs", .ref A.ca), ("names", .lst (b.names.map .str)), ("best", .ref A.bt), ("split", .ref A.sp), ("whole", .int ((2 ^ hp.length : Nat) - 1 : Int)), ("weights", .lst ((List.range (2 ^ hp.length)).map fun n => .int (wt hp n)))]
structure BestAt (G : Gx) (h : Hv) (a : Addr) (b : Book) (hp : Heap') (c : Str → Int) (B : Bst) (S : Spt) (A : Ab) : Prop where
  ins : h a = some (.ins (G.C "Best") (bestF b hp A))
  ca : h A.ca = some (.dK (cosD b c))
  bt : h A.bt = some (.dK (refD b A.ba))
  sp : h A.sp = some (.dK (refD b A.sa))
  ba : ∀ z ∈ b.names, ∃ kvs, h (A.ba z) = some (.dK kvs) ∧ DOf kvs (fun n => (B z n).map encBo)
  sa : ∀ z ∈ b.names, ∃ kvs, h (A.sa z) = some (.dK kvs) ∧ DOf kvs (fun n => (S z n).map encSo)
  nb : ∀ z ∈ b.names, ∀ y ∈ b.names, z ≠ y → A.ba z ≠ A.ba y
  ns : ∀ z ∈ b.names, ∀ y ∈ b.names, z ≠ y → A.sa z ≠ A.sa y
  bs : ∀ z ∈ b.names, ∀ y ∈ b.names, A.ba z ≠ A.sa y
  nbt : ∀ z ∈ b.names, A.ba z ≠ A.ca ∧ A.ba z ≠ A.bt ∧ A.ba z ≠ A.sp
  nst : ∀ z ∈ b.names, A.sa z ≠ A.ca ∧ A.sa z ≠ A.bt ∧ A.sa z ≠ A.sp
def OffB (b : Book) (A : Ab) (h h' : Hv) : Prop := ∀ c, (∀ z ∈ b.names, c ≠ A.ba z ∧ c ≠ A.sa z) → h' c = h c
def SmS (b : Book) (S : Spt) : Prop := ∀ z ∈ b.names, ∀ n k ts, S z n = some (k, ts) → ts.length ≤ 8
structure BPre (G : Gx) (h : Hv) (b : Book) (hp : Heap') : Prop where
  wf : WFB b
  ho : HpOk b hp
  w1 : ∀ x ∈ hp, 1 ≤ x.1
  n1 : 1 ≤ hp.length
  tb : Tbs G.Ts h
  ns : ("Best.__init__" : Str) ∈ G.ns
  nz : ∀ z ∈ b.names, okN 0 (.str z) = true
end DL
namespace DL
open PySem PySem.Spec PyProof.Rows L2
structure Emb (hp hp' : Heap') (f : Int → Int) : Prop where
  rg : ∀ i, 0 ≤ i → i < (hp.length : Int) → 0 ≤ f i ∧ f i < (hp'.length : Int)
  inj : ∀ i j, 0 ≤ i → i < (hp.length : Int) → 0 ≤ j → j < (hp.length : Int) → f i = f j → i = j
  w : ∀ i, 0 ≤ i → i < (hp.length : Int) → rawW hp' (f i) = rawW hp i
  l : ∀ i, 0 ≤ i → i < (hp.length : Int) → rawL hp' (f i) = rawL hp i
def img (f : Int → Int) (n : Nat) : Nat := bitsL ((setI n).map f)
section
variable {hp hp' : Heap'} {f : Int → Int} {n p : Nat}
theorem Emb.nd (e : Emb hp hp' f) (hn : inH hp n) : ((setI n).map f).Nodup := by
  refine List.pairwise_map.mpr (List.Pairwise.imp_of_mem ?_ (setI_nodup n))
  intro x y hx hy ne he
  have h1 := inH_rg hn x hx
  have h2 := inH_rg hn y hy
  exact ne (e.inj x y h1.1 h1.2 h2.1 h2.2 he)
theorem Emb.mem (e : Emb hp hp' f) (hn : inH hp n) : ∀ i ∈ (setI n).map f, 0 ≤ i ∧ i < (hp'.length : Int) := fun i hi => by
  obtain ⟨j, hj, rfl⟩ := List.mem_map.mp hi
  have := inH_rg hn j hj
  exact e.rg j this.1 this.2
theorem Emb.in8 (e : Emb hp hp' f) (h8 : hp'.length ≤ 8) (hn : inH hp n) : In8 ((setI n).map f) := fun i hi => by
  have := e.mem hn i hi
  omega
theorem Emb.wt (e : Emb hp hp' f) (h8 : hp'.length ≤ 8) (hn : inH hp n) : wt hp' (img f n) = wt hp n := by
  unfold img
  rw [wt_list (e.nd hn) (e.in8 h8 hn), List.map_map]
  unfold DL.wt
  congr 1
  refine List.map_congr_left fun i hi => ?_
  have := inH_rg hn i hi
  exact e.w i this.1 this.2
theorem Emb.sub (e : Emb hp hp' f) (h8 : hp.length ≤ 8) (h8' : hp'.length ≤ 8) (hn : inH hp n) (s : sub p n = true) : sub (img f p) (img f n) = true := by
  refine bits_sub (e.nd (inH_sub hn s)) (e.nd hn) (e.in8 h8' hn) fun i hi => ?_
  obtain ⟨j, hj, rfl⟩ := List.mem_map.mp hi
  have hlt := inH_lt h8 hn
  exact List.mem_map_of_mem ((sub_mem hlt (lt_of_sub hlt s)).mp s j hj)
end
end DL
namespace DL
open PySem PySem.Spec PyProof.Rows L2
end DL
namespace DL
open PySem PySem.Spec PyProof.Rows L2
end DL
namespace DL
open PySem PySem.Spec PyProof.Rows L2
end DL
namespace DL
open PySem PySem.Spec PyProof.Rows L2
end DL
namespace DL
open PySem PySem.Spec PyProof.Rows L2
end DL
namespace DL
open PySem PySem.Spec PyProof.Rows L2
theorem DOf.len {kvs : List (Key × Val)} {f : Nat → Option Val} (d : DOf kvs f) : kvs.length ≤ 256 := by
  obtain ⟨ks, e, nd, lt⟩ := d.ks
  have := congrArg List.length e
  rw [List.length_map, List.length_map] at this
  rw [this]
  exact nd_len 256 ks nd lt
theorem val_put {kvs : List (Key × Val)} {k k' : Key} {v : Val} : valA (putA kvs k v) k' = if k' = k then some v else valA kvs k' := by
  unfold putA
  split
  · rename_i ha
    induction kvs with
    | nil => cases ha
    | cons x kvs ih =>
      unfold valA at *
      rw [List.map_cons, List.find?_cons, List.find?_cons]
      rw [List.any_cons, Bool.or_eq_true, decide_eq_true_eq] at ha
      by_cases e : x.1 = k
      · rw [if_pos e]
        by_cases e2 : k' = k
        · rw [if_pos e2]
          simp [e, e2]
        · rw [if_neg e2]
          have h1 : decide (x.1 = k') = false := by rw [e]; exact decide_eq_false fun h => e2 h.symm
          simp only [h1]
          by_cases ha2 : (kvs.any fun kv => decide (kv.1 = k)) = true
          · have := ih ha2
            rw [if_neg e2] at this
            exact this
          · have em : kvs.map (fun kv => if kv.1 = k then (kv.1, v) else kv) = kvs := by
              conv => rhs; rw [← List.map_id kvs]
              refine List.map_congr_left fun y hy => ?_
              have : y.1 ≠ k := fun h => ha2 (List.any_eq_true.mpr ⟨y, hy, decide_eq_true h⟩)
              rw [if_neg this]; rfl
            rw [em]
      · rw [if_neg e]
        have ha2 := ha.resolve_left e
        by_cases e3 : x.1 = k'
        · have : k' ≠ k := fun h => e (e3.trans h)
          rw [if_neg this]
          simp [e3]
        · have h1 : decide (x.1 = k') = false := decide_eq_false e3
          simp only [h1]
          exact ih ha2
  · rename_i ha
    unfold valA
    rw [List.find?_append]
    by_cases e : k' = k
    · subst e
      rw [if_pos rfl]
      have : kvs.find? (fun kv => decide (kv.1 = k')) = none := by
        rw [List.find?_eq_none]
        intro x hx h
        exact ha (List.any_eq_true.mpr ⟨x, hx, h⟩)
      rw [this]
      simp
    · rw [if_neg e]
      cases hf : kvs.find? (fun kv => decide (kv.1 = k')) with
      | some x => simp
      | none =>
        have : decide (k = k') = false := decide_eq_false fun h => e h.symm
        simp [this]
theorem DOf.put {kvs : List (Key × Val)} {f : Nat → Option Val} (d : DOf kvs f) {m : Nat} (hm : m < 256) (v : Val) : DOf (putA kvs (.inl (m : Int)) v) (fun n => if n = m then some v else f n) := by
  refine ⟨?_, fun n => ?_⟩
  · obtain ⟨ks, e, nd, lt⟩ := d.ks
    unfold putA
    split
    · refine ⟨ks, ?_, nd, lt⟩
      rw [List.map_map, ← e]
      refine List.map_congr_left fun kv _ => ?_
      show (if kv.1 = _ then (kv.1, _) else kv).1 = kv.1
      split <;> rfl
    · rename_i hn
      refine ⟨ks ++ [m], by rw [List.map_append, List.map_append, e]; rfl, ?_, ?_⟩
      · rw [List.nodup_append]
        refine ⟨nd, by simp, ?_⟩
        intro a ha b hb hab
        rw [List.mem_singleton] at hb
        subst hb; subst hab
        apply hn
        have : (Sum.inl (a : Int) : Key) ∈ kvs.map (·.1) := by rw [e]; exact List.mem_map.mpr ⟨a, ha, rfl⟩
        obtain ⟨kv, hkv, ek⟩ := List.mem_map.mp this
        exact List.any_eq_true.mpr ⟨kv, hkv, by rw [ek]; simp⟩
      · intro k hk
        rcases List.mem_append.mp hk with h | h
        · exact lt k h
        · rw [List.mem_singleton] at h; omega
  · rw [val_put, d.val n]
    by_cases e : n = m
    · subst e; rw [if_pos rfl, if_pos rfl]
    · rw [if_neg e, if_neg (fun h => e (by have := Sum.inl.inj h; omega))]
theorem DOf.nil : DOf [] (fun _ => none) := ⟨⟨[], rfl, List.nodup_nil, fun _ h => nomatch h⟩, fun _ => rfl⟩
theorem DOf.congr {kvs : List (Key × Val)} {f g : Nat → Option Val} (d : DOf kvs f) (h : ∀ n, f n = g n) : DOf kvs g := ⟨d.ks, fun n => (d.val n).trans (h n)⟩
section
variable {G : Gx} {h : Hv} {a : Addr} {b : Book} {hp : Heap'} {c : Str → Int} {B : Bst} {S : Spt} {A : Ab}
theorem BestAt.ne (t : BestAt G h a b hp c B S A) {z : Str} (hz : z ∈ b.names) : a ≠ A.sa z ∧ a ≠ A.ba z := by
  obtain ⟨k1, e1, _⟩ := t.ba z hz
  obtain ⟨k2, e2, _⟩ := t.sa z hz
  exact ⟨fun e => (by have h1 := t.ins; rw [e, e2] at h1; cases h1), fun e => (by have h1 := t.ins; rw [e, e1] at h1; cases h1)⟩
theorem OffB.refl (h : Hv) : OffB b A h h := fun _ _ => rfl
theorem OffB.trans {h1 h2 : Hv} (x : OffB b A h h1) (y : OffB b A h1 h2) : OffB b A h h2 := fun c hc => (y c hc).trans (x c hc)
variable {E : PX} {Q : PV} {ρ : Sl} {i : Nat}
variable {ds dz dn : ED}
end
end DL
namespace DL
open PySem PySem.Spec PyProof.Rows L2
structure PartX (b : Book) (B : Bst) (S : Spt) (z : Str) (m : Nat) (X : Nat → Str → Prop) (r : Option (Int × List Tree)) : Prop where
  so : ∀ k ts, r = some (k, ts) → ∃ p y k1 t k2 ts2, Cand b B S z m p y k1 t k2 ts2 ∧ k = k1 + k2 ∧ ts = t :: ts2
  co : ∀ p y k1 t k2 ts2, X p y → Cand b B S z m p y k1 t k2 ts2 → ∃ k ts, r = some (k, ts) ∧ k ≤ k1 + k2
theorem Cand.uniq {b : Book} {B : Bst} {S : Spt} {z : Str} {m p : Nat} {y : Str} {k1 k1' : Int} {t t' : Tree} {k2 k2' : Int} {ts ts' : List Tree} (c : Cand b B S z m p y k1 t k2 ts) (c' : Cand b B S z m p y k1' t' k2' ts') : k1 = k1' ∧ k2 = k2' := by
  have h1 := c.cb
  rw [c'.cb] at h1
  cases h1
  refine ⟨rfl, ?_⟩
  rcases c.cs with ⟨r0, rfl, _⟩ | ⟨r0, hs⟩
  · rcases c'.cs with ⟨_, rfl, _⟩ | ⟨r1, _⟩
    · rfl
    · exact absurd r0 r1
  · rcases c'.cs with ⟨r1, _⟩ | ⟨_, hs'⟩
    · exact absurd r1 r0
    · rw [hs] at hs'; cases hs'; rfl
theorem PartX.new {b : Book} {B : Bst} {S : Spt} {z : Str} {m : Nat} {X : Nat → Str → Prop} {r : Option (Int × List Tree)} (x : PartX b B S z m X r) {p : Nat} {y : Str} {k1 : Int} {t : Tree} {k2 : Int} {ts : List Tree} (c : Cand b B S z m p y k1 t k2 ts) (h : ∀ k us, r = some (k, us) → k1 + k2 < k) : PartX b B S z m (fun q w => X q w ∨ (q = p ∧ w = y)) (some (k1 + k2, t :: ts)) := by
  refine ⟨fun k us e => ?_, fun q w k3 t3 k4 ts4 hx c3 => ?_⟩
  · cases e
    exact ⟨p, y, k1, t, k2, ts, c, rfl, rfl⟩
  · refine ⟨_, _, rfl, ?_⟩
    rcases hx with hx | ⟨rfl, rfl⟩
    · obtain ⟨k, us, e, hk⟩ := x.co q w k3 t3 k4 ts4 hx c3
      have := h k us e
      omega
    · obtain ⟨e1, e2⟩ := c.uniq c3
      omega
theorem PartX.old {b : Book} {B : Bst} {S : Spt} {z : Str} {m : Nat} {X : Nat → Str → Prop} {o : Int × List Tree} (x : PartX b B S z m X (some o)) {p : Nat} {y : Str} {k1 : Int} {t : Tree} {k2 : Int} {ts : List Tree} (c : Cand b B S z m p y k1 t k2 ts) (h : ¬ k1 + k2 < o.1) : PartX b B S z m (fun q w => X q w ∨ (q = p ∧ w = y)) (some o) := by
  refine ⟨x.so, fun q w k3 t3 k4 ts4 hx c3 => ?_⟩
  rcases hx with hx | ⟨rfl, rfl⟩
  · exact x.co q w k3 t3 k4 ts4 hx c3
  · obtain ⟨e1, e2⟩ := c.uniq c3
    exact ⟨o.1, o.2, rfl, by omega⟩
end DL
namespace DL
open PySem PySem.Spec PyProof.Rows L2
end DL
namespace DL
open PySem PySem.Spec PyProof.Rows L2
theorem okTs_len {names : List Str} : ∀ ts : List Tree, okTs names ts → ts.length ≤ (thingsTs ts).length
  | [], _ => by simp
  | t :: ts, h => by
    rw [okTs] at h
    have h1 := okTs_len ts h.2
    have h2 := List.length_pos_iff.mpr (things_ne t h.1)
    rw [thingsTs, List.length_append, List.length_cons]
    omega
theorem GS.len {b : Book} {hp : Heap'} {z : Str} {n : Nat} {ts : List Tree} (g : GS b hp z n ts) : ts.length ≤ 8 := by
  have := okTs_len ts g.ok
  rw [g.th.length_eq] at this
  have := setI_len n
  omega
theorem BMid.small {b : Book} {hp : Heap'} {c : Str → Int} {D : Nat → Prop} {m : Nat} {B : Bst} {S : Spt} (i : BMid b hp c D m B S) : SmS b S := by
  intro z hz n k ts h
  by_cases d : D n
  · exact ((i.lo z hz n d).2.1 k ts h).1.len
  · by_cases e : n = m
    · subst e; exact (i.sm z hz k ts h).1.len
    · rw [(i.nx z hz n d e).2] at h; cases h
section
variable {G : Gx} {a : Addr} {b : Book} {hp : Heap'} {c : Str → Int} {D : Nat → Prop} {B : Bst} {S : Spt} {A : Ab} {m : Nat}
end
end DL
namespace DL
open PySem PySem.Spec PyProof.Rows L2
end DL
namespace DL
open PySem PySem.Spec PyProof.Rows L2
section
variable {ρ : Sl} {h : Hv} {E : PX} {Q : PV} {aa : AD} {vs : List Val} {da : ED} {v : Val}
end
theorem BPre.whole {G : Gx} {h : Hv} {b : Book} {hp : Heap'} (p : BPre G h b hp) : 2 ^ hp.length - 1 ≠ 0 ∧ inH hp (2 ^ hp.length - 1) := by
  have : 2 ≤ 2 ^ hp.length := by
    have := Nat.pow_le_pow_right (n := 2) (by decide) p.n1
    simpa using this
  unfold inH
  omega
theorem BPre.new {G : Gx} {h : Hv} {b : Book} {hp : Heap'} (p : BPre G h b hp) {D : Addr} {kvs : List (Key × Val)} (n : h D = none) : BPre G (put h D (.dK kvs)) b hp :=
  ⟨p.wf, p.ho, p.w1, p.n1, p.tb.put n (fun _ z => nomatch z), p.ns, p.nz⟩
end DL
namespace DL
open PySem PySem.Spec PyProof.Rows L2
section
variable {ρ : Sl} {h : Hv} {E : PX} {D : AE} {s1 s2 : SD} {ta tb : TD} {da : ED} {aa : AD} {QT : Bool → Hv → Prop} {Q : PV}
theorem x_for {di : ID} {t : Tg} (q : di ρ h (fun it h1 => forL it.ok t s1 it.items ρ h1 D E) E) : sFor di t s1 ρ h D E := q
end
structure TO (b : Book) (hp : Heap') (z : Str) (r : Option (Int × Tree)) : Prop where
  n : r.isNone = !dec (Can b hp z (2 ^ hp.length - 1))
  s : ∀ k t, r = some (k, t) → GT b hp z (2 ^ hp.length - 1) t ∧ t.ht < 24 ∧ okN 60 t.enc = true ∧ t.things.length ≤ 8
end DL
namespace DL
open PySem PySem.Spec PyProof.Rows L2
end DL
namespace DL
open PySem PySem.Spec PyProof.Rows L2
end DL
namespace DL
open PySem PySem.Spec PyProof.Rows L2
end DL
namespace DL
open PySem PySem.Spec PyProof.Rows L2
end DL
namespace DL
open PySem PySem.Spec PyProof.Rows L2
end DL
namespace DL
open PySem PySem.Spec PyProof.Rows L2
end DL
namespace DL
open PySem PySem.Spec PyProof.Rows L2
end DL
namespace DL
open PySem PySem.Spec PyProof.Rows L2
end DL
namespace DL
open PySem PySem.Spec PyProof.Rows L2
section
variable {b : Book} {hp : Heap'} {z : Str}
end
end DL
namespace DL
open PySem PySem.Spec PyProof.Rows L2
end DL
namespace DL
open PySem PySem.Spec PyProof.Rows L2
structure EmbM (hp hp' : Heap') (M : Nat) (f : Int → Int) : Prop where
  rg : ∀ i ∈ setI M, 0 ≤ f i ∧ f i < (hp'.length : Int)
  inj : ∀ i ∈ setI M, ∀ j ∈ setI M, f i = f j → i = j
  w : ∀ i ∈ setI M, rawW hp' (f i) = rawW hp i
  l : ∀ i ∈ setI M, rawL hp' (f i) = rawL hp i
section
variable {hp hp' : Heap'} {f : Int → Int} {n p M : Nat}
theorem EmbM.nd (e : EmbM hp hp' M f) (hs : ∀ i ∈ setI n, i ∈ setI M) : ((setI n).map f).Nodup := by
  refine List.pairwise_map.mpr (List.Pairwise.imp_of_mem ?_ (setI_nodup n))
  intro x y hx hy ne he
  exact ne (e.inj x (hs x hx) y (hs y hy) he)
theorem EmbM.mem (e : EmbM hp hp' M f) (hs : ∀ i ∈ setI n, i ∈ setI M) : ∀ i ∈ (setI n).map f, 0 ≤ i ∧ i < (hp'.length : Int) := fun i hi => by
  obtain ⟨j, hj, rfl⟩ := List.mem_map.mp hi
  exact e.rg j (hs j hj)
theorem EmbM.in8 (e : EmbM hp hp' M f) (h8 : hp'.length ≤ 8) (hs : ∀ i ∈ setI n, i ∈ setI M) : In8 ((setI n).map f) := fun i hi => by
  have := e.mem hs i hi
  omega
theorem EmbM.wt (e : EmbM hp hp' M f) (h8 : hp'.length ≤ 8) (hs : ∀ i ∈ setI n, i ∈ setI M) : wt hp' (img f n) = wt hp n := by
  unfold img
  rw [wt_list (e.nd hs) (e.in8 h8 hs), List.map_map]
  unfold DL.wt
  congr 1
  exact List.map_congr_left fun i hi => e.w i (hs i hi)
end
section
variable {hp : Heap'} {n : Nat}
end
section
variable {b : Book}
end
end DL
namespace DL
open PySem PySem.Spec PyProof.Rows L2
section
variable {M : Nat} (hM : M < 256)
end
end DL
namespace DL
open PySem PySem.Spec PyProof.Rows L2
end DL
namespace DL
open PySem PySem.Spec PyProof.Rows L2
end DL
namespace DL
open PySem PySem.Spec PyProof.Rows L2
end DL
namespace DL
open PySem PySem.Spec PyProof.Rows L2
end DL
namespace DL
open PySem PySem.Spec PyProof.Rows L2
section
variable {b : Book} {hp : Heap'} {z : Str}
end
end DL
namespace DL
open PySem PySem.Spec PyProof.Rows L2
section
variable {prog : Program} {w : World} {A : Around} {E : Value → Shared → Prop} {s : Shared}
end
end DL
namespace DL
open PySem PySem.Spec PyProof.Rows L2
section
variable {ρ : Sl} {h : Hv} {E : PX} {Q : PV} {da db : ED} {aa : AD} {f : F2}
end
end DL
namespace DL
open PySem PySem.Spec PyProof.Rows L2
end DL
namespace DL
open PySem PySem.Spec PyProof.Rows L2
end DL
namespace DL
open PySem PySem.Spec PyProof.Rows L2
section
variable {ρ : Sl} {h : Hv} {E : PX} {D : AE} {dl dx : ED} {s2 : SD}
end
theorem eqD_lnil2 {vs : List Val} {d : Nat} (h : okN d (.lst vs) = true) : eqD (.lst vs) (.lst []) = vs.isEmpty := by
  obtain ⟨x, e, c, _⟩ := dat_of h
  unfold eqD
  rw [e]
  cases vs with
  | nil => rw [dat, dats] at e; cases e; rfl
  | cons v vs =>
    rw [dat] at e
    obtain ⟨xs, e1, rfl⟩ := Option.map_eq_some_iff.mp e
    rw [dats] at e1
    split at e1
    · cases e1; rfl
    · cases e1
theorem f_eqLn {h : Hv} {vs : List Val} (ok : okN 64 (.lst vs) = true) : EvF h fEq (.lst vs) (.lst []) (.bl vs.isEmpty) := fun Q q => fEq_dat ok (okN_lints (xs := []) (by simp) 63) (by rw [eqD_lnil2 ok]; exact q)
end DL
namespace DL
open PySem PySem.Spec PyProof.Rows L2
theorem whole_nn {hp : Heap'} (wt1 : ∀ x ∈ hp, 1 ≤ x.1) (t : Tree) : 0 ≤ t.whole hp := by
  rw [whole_things]
  generalize t.things = l
  induction l with
  | nil => exact Int.le_refl 0
  | cons x l ih => rw [List.map_cons, List.sum_cons]; have := rawW_nn wt1 x; omega
theorem cntTs_le {b : Book} {hp : Heap'} (wt1 : ∀ x ∈ hp, 1 ≤ x.1) (z : Str) : ∀ ts : List Tree, cntTs b hp z ts ≤ wholeTs hp ts
  | [] => Int.le_refl _
  | t :: ts => by
    rw [cntTs, wholeTs]
    have h1 := cntTs_le (b := b) wt1 z ts
    have h2 := whole_nn wt1 t
    cases t.land b hp with
    | none => dsimp only; omega
    | some l =>
      dsimp only
      split <;> omega
theorem cnt_le_whole {b : Book} {hp : Heap'} (wt1 : ∀ x ∈ hp, 1 ≤ x.1) : ∀ t : Tree, t.cnt b hp ≤ t.whole hp
  | .leaf n => by rw [Tree.cnt, Tree.whole]; exact Int.le_refl _
  | .node z ts => by rw [Tree.cnt, Tree.whole]; exact cntTs_le wt1 z ts
theorem raw_range (hp : Heap') : ((List.range hp.length).map fun (i : Nat) => rawW hp (i : Int)) = hp.map (·.1) := by
  refine List.ext_getElem (by simp) fun i h1 h2 => ?_
  rw [List.length_map] at h2
  simp [rawW, h2]
theorem whole_all {hp : Heap'} {t : Tree} (pm : t.things.Perm ((List.range hp.length).map fun (i : Nat) => (i : Int))) : t.whole hp = (hp.map (·.1)).sum := by
  rw [whole_things, sum_perm pm, List.map_map]
  exact congrArg List.sum (raw_range hp)
theorem eqvAny_pts (ps : List (List Int)) (p : List Int) : ((ps.map ptD).any fun z => PyData.eqv z (ptD p)) = decide (p ∈ ps) := by
  rw [Bool.eq_iff_iff, List.any_map, List.any_eq_true, decide_eq_true_eq]
  constructor
  · rintro ⟨q, hq, e⟩
    have e : PyData.eqv (ptD q) (ptD p) = true := e
    rw [eqv_pt] at e
    rw [← of_decide_eq_true e]; exact hq
  · exact fun h => ⟨p, h, by show PyData.eqv (ptD p) (ptD p) = true; rw [eqv_pt]; exact decide_eq_true rfl⟩
theorem f_notInPt {h : Hv} {p : List Int} {ps : List (List Int)} (o1 : okN 64 (encPt p) = true) (o2 : okN 64 (.tup (ps.map encPt)) = true) : EvF h fNotInT (encPt p) (.tup (ps.map encPt)) (.bl (!decide (p ∈ ps))) := fun Q q => by
  obtain ⟨d, e1, c1, d1⟩ := dat_of o1
  obtain ⟨e, e2, c2, d2⟩ := dat_of o2
  have hd : d = ptD p := by rw [dat_pt] at e1; exact (Option.some.inj e1).symm
  have he : e = .tuple (ps.map ptD) := by rw [dat, dats_pts] at e2; exact (Option.some.inj e2).symm
  subst hd he
  refine ⟨_, _, (datH_of o1).trans e1, (datH_of o2).trans e2, ?_, ?_, by rw [eqvAny_pts]; exact q⟩
  · unfold SeqAt.shaped; rw [c1, decide_eq_true d1]; rfl
  · unfold SeqAt.shaped; rw [c2, decide_eq_true d2]; rfl
theorem eqD_pt (p q : List Int) : eqD (encPt p) (encPt q) = decide (p = q) := eqD_ints p q
theorem f_eqPt {h : Hv} {p q : List Int} (o1 : okN 64 (encPt p) = true) (o2 : okN 64 (encPt q) = true) : EvF h fEq (encPt p) (encPt q) (.bl (decide (p = q))) := fun Q qq => fEq_dat o1 o2 (by rw [eqD_pt]; exact qq)
theorem pt_take (p : List Int) (k : Nat) : cutA (p.map Val.int) none (some (k : Int)) = (p.take k).map Val.int := by
  unfold cutA
  rw [HT.sIx_none, HT.sIx_nat, List.drop_zero, Nat.sub_zero, List.length_map, ← List.map_take]
  congr 1
  rcases Nat.le_total k p.length with h | h
  · rw [Nat.min_eq_left h]
  · rw [Nat.min_eq_right h, List.take_of_length_le (Nat.le_refl _), List.take_of_length_le h]
theorem pt_init (p : List Int) : cutA (p.map Val.int) none (some (-1)) = p.dropLast.map Val.int := by
  unfold cutA
  have e : HT.sIx (p.map Val.int).length (p.map Val.int).length (some (-1)) = p.length - 1 := by
    show (if (-1 : Int) < 0 then ((-1 : Int) + ((p.map Val.int).length : Int)).toNat else min (-1 : Int).toNat (p.map Val.int).length) = _
    rw [if_pos (by decide), List.length_map]
    omega
  rw [e, HT.sIx_none, List.drop_zero, Nat.sub_zero, ← List.map_take, List.dropLast_eq_take]
theorem eqvAll_rows : ∀ rs ss : List Row, PyData.eqvAll ((rs.map encRow).map fun v => (dat v).getD .none) ((ss.map encRow).map fun v => (dat v).getD .none) = decide (rs = ss)
  | [], [] => rfl
  | [], s :: ss => rfl
  | r :: rs, [] => rfl
  | r :: rs, s :: ss => by
    rw [List.map_cons, List.map_cons, List.map_cons, List.map_cons, PyData.eqvAll, eqvAll_rows rs ss]
    have hr : ∀ r : Row, dat (encRow r) = some (.tuple [ptD r.1, match r.2 with | some z => .str z | none => .none]) := fun r => by
      unfold encRow
      have h1 : dat (Val.tup (r.1.map Val.int)) = some (ptD r.1) := dat_pt r.1
      rw [dat, dats, h1]
      cases r.2 with
      | none => rfl
      | some z => rfl
    rw [hr r, hr s]
    show (PyData.eqv (.tuple _) (.tuple _) && _) = _
    rw [PyData.eqv, PyData.eqvAll, PyData.eqvAll, PyData.eqvAll, eqv_pt, Bool.eq_iff_iff]
    obtain ⟨r1, r2⟩ := r
    obtain ⟨s1, s2⟩ := s
    dsimp only
    cases r2 <;> cases s2 <;> simp [PyData.eqv]
theorem dats_rows : ∀ rs : List Row, dats (rs.map encRow) = some ((rs.map encRow).map fun v => (dat v).getD .none)
  | [] => rfl
  | r :: rs => by
    rw [List.map_cons, List.map_cons, dats, dats_rows rs]
    have : ∃ d, dat (encRow r) = some d := by
      unfold encRow
      have h1 : dat (Val.tup (r.1.map Val.int)) = some (ptD r.1) := dat_pt r.1
      rw [dat, dats, h1]
      cases r.2 <;> exact ⟨_, rfl⟩
    obtain ⟨d, e⟩ := this
    rw [e]; rfl
theorem f_eqRows {h : Hv} {rs ss : List Row} (o1 : okN 64 (.tup (rs.map encRow)) = true) (o2 : okN 64 (.tup (ss.map encRow)) = true) : EvF h fEq (.tpo (rs.map encRow)) (.tup (ss.map encRow)) (.bl (decide (rs = ss))) := fun Q q => by
  unfold fEq
  have hs : scA (.tpo (rs.map encRow)) (.tup (ss.map encRow)) = none := rfl
  rw [hs]
  obtain ⟨d, e1, c1, d1⟩ := dat_of o1
  obtain ⟨e, e2, c2, d2⟩ := dat_of o2
  have hd : dat (.tpo (rs.map encRow)) = some d := by rw [← e1]; rw [dat, dat]
  refine ⟨d, e, hd, (datH_of o2).trans e2, ?_, ?_, ?_⟩
  · unfold SeqAt.shaped; rw [c1, decide_eq_true d1]; rfl
  · unfold SeqAt.shaped; rw [c2, decide_eq_true d2]; rfl
  · rw [dat, dats_rows] at e1 e2
    have x1 := Option.some.inj e1
    have x2 := Option.some.inj e2
    rw [← x1, ← x2]
    show Q (.bl (PyData.eqv (.tuple _) (.tuple _))) h
    rw [PyData.eqv, eqvAll_rows]
    exact q
end DL
namespace DL
open PySem PySem.Spec PyProof.Rows L2
def den_law (G : Gx) : SD := (sSeq (sSet 1 (dCall 0 S__law_begun aNil)) (sSeq (sFor (dRange1 (aCons (dC (.int 4)) aNil)) (.nm 2) (sSeq (sSet 3 (dCall 2 S__law_a_book (aCons (dVar 0) (aCons (dVar 1) aNil)))) (sSeq (sSet 4 (dCall 4 S__law_a_heap (aCons (dVar 0) (aCons (dVar 1) (aCons (dVar 3) (aCons (dC (.int 6)) aNil)))))) (sSeq (sSet 5 (dCall 4 S__law_a_tree (aCons (dVar 0) (aCons (dVar 1) (aCons (dVar 3) (aCons (dListRange (dCB fLen (aCons (dVar 4) aNil))) aNil)))))) (sSeq (sPar [6, 7] (aCons (dCall 3 S_all_countsX (aCons (dVar 3) (aCons (dVar 4) (aCons (dVar 5) aNil)))) (aCons (dBin fAdd (dLc (dIt (dBin fIx (dVar 3) (dC (.int 0)))) (.nm 18) tTrue (dBin fIx (dVar 18) (dC (.int 0))) [18]) (dLst (aCons (dC .non) aNil))) aNil))) (sSeq (sSet 8 (dCB fListH (aCons (dVar 6) aNil))) (sSeq (sFor (dRange1 (aCons (dCall 3 S__law_draw (aCons (dVar 0) (aCons (dVar 1) (aCons (dC (.int 4)) aNil)))) aNil)) (.nm 9) (sSeq (sSet 10 (dCall 3 S__law_draw (aCons (dVar 0) (aCons (dVar 1) (aCons (dCB fLen (aCons (dVar 8) aNil)) aNil))))) (sLPut (dVar 8) (dVar 10) (dTup (aCons (dBin fIx (dBin fIx (dVar 8) (dVar 10)) (dC (.int 0))) (aCons (dBin fIx (dVar 7) (dCall 3 S__law_draw (aCons (dVar 0) (aCons (dVar 1) (aCons (dCB fLen (aCons (dVar 7) aNil)) aNil))))) aNil)))))) (sSeq (sSet 8 (dCB fTupleF (aCons (dVar 8) aNil))) (sSeq (sPar [11, 12] (aCons (dCall 4 S_wrong_claims (aCons (dVar 3) (aCons (dVar 4) (aCons (dVar 5) (aCons (dVar 8) aNil))))) (aCons (dCall 4 S_first_wrongs (aCons (dVar 3) (aCons (dVar 4) (aCons (dVar 5) (aCons (dVar 8) aNil))))) aNil))) (sSeq (sIf (dOr (dTest (dBin fNe (dBin fEq (dVar 11) (dTup aNil)) (dBin fEq (dVar 12) (dTup aNil)))) (dTest (dBin fNe (dBin fEq (dVar 8) (dVar 6)) (dBin fEq (dVar 11) (dTup aNil))))) (sRet (dC (.bl false))) sNext) (sSeq (sFor (dIt (dVar 11)) (.nm 13) (sIf (dTest (dBin fEq (dLc (dIt (dVar 12)) (.nm 17) (dTest (dBin fEq (dSl fSl (dVar 17) oNone (oSome (dCB fLen (aCons (dVar 13) aNil)))) (dVar 13))) (dVar 17) [17]) (dLst aNil))) (sRet (dC (.bl false))) sNext)) (sSeq (sFor (dIt (dVar 12)) (.nm 13) (sSeq (sSet 14 (dLc (dIt (dVar 11)) (.nm 17) (dAnd (dTest (dBin fEq (dCB fLen (aCons (dVar 17) aNil)) (dBin fAdd (dCB fLen (aCons (dVar 13) aNil)) (dC (.int 1))))) (dTest (dBin fEq (dSl fSl (dVar 17) oNone (oSome (dUn fNeg (dC (.int 1))))) (dVar 13)))) (dVar 17) [17])) (sIf (dAnd (dTest (dBin fNotInT (dVar 13) (dVar 11))) (dTest (dBin fEq (dVar 14) (dLst aNil)))) (sRet (dC (.bl false))) sNext))) (sSeq (sAsg (.tp [(.nm 15), (.nm 16)]) (dCall 4 (S__law_mended G) (aCons (dVar 3) (aCons (dVar 4) (aCons (dVar 5) (aCons (dVar 8) aNil)))))) (sSeq (sIf (dOr (dTest (dBin fNe (dCB fTuple (aCons (dSortIt (dVar 15)) aNil)) (dVar 6))) (dTest (dBin fGt (dVar 16) (dCB fLen (aCons (dVar 11) aNil))))) (sRet (dC (.bl false))) sNext) (sIf (dTest (dBin fGt (dCall 3 S_counting_worth (aCons (dVar 3) (aCons (dVar 4) (aCons (dVar 5) aNil)))) (dCB fSum (aCons (dLc (dIt (dVar 4)) (.tp [(.nm 19), (.nm 18)]) tTrue (dVar 19) [19, 18]) aNil)))) (sRet (dC (.bl false))) sNext))))))))))))))) (sRet (dC (.bl true)))))
end DL
namespace DL
open PySem PySem.Spec PyProof.Rows L2
theorem x_listHq {ρ : Sl} {h : Hv} {E : PX} {D : AE} {s2 : SD} {i : Nat} {de : ED} {vs : List Val} (he : EvE ρ h E de (.tup vs)) (q : ∀ p, h p = none → s2 (ρ.set i (some (.ref p))) (put h p (.lst vs)) D E) : sSeq (sSet i (dCB fListH (aCons de aNil))) s2 ρ h D E := by
  show de ρ h _ E
  exact he _ q
theorem x_tupEq {ρ : Sl} {h : Hv} {E : PX} {Q : PV} {da : ED} {aa : AD} {v : Val} (ha : EvE ρ h E da v) (q : aa ρ h (fun vs h1 => (v :: vs).length ≤ sizeLine ∧ Q (.tup (v :: vs)) h1) E) : dTup (aCons da aa) ρ h Q E := ha _ q
theorem x_oneEq {ρ : Sl} {h : Hv} {E : PX} {QA : List Val → Hv → Prop} {da : ED} (q : da ρ h (fun v h' => QA [v] h') E) : aCons da aNil ρ h QA E := q
theorem f_neBB {h : Hv} {a b : Bool} (e : a = b) : EvF h fNe (.bl a) (.bl b) (.bl false) := fun Q q => by
  subst e
  have : fNe (.bl a) (.bl a) h Q = Q (.bl (!(a == a))) h := by cases a <;> rfl
  rw [this]
  cases a <;> exact q
theorem x_asgq {ρ : Sl} {h : Hv} {E : PX} {D : AE} {de : ED} {t : Tg} {s2 : SD} (q : de ρ h (fun v h1 => match bT t v ρ with | some ρ' => s2 ρ' h1 D E | none => False) E) : sSeq (sAsg t de) s2 ρ h D E := q
theorem ev_takeP {ρ : Sl} {h : Hv} {E : PX} {d1 d2 : ED} {o p : List Int} (h1 : EvE ρ h E d1 (encPt o)) (h2 : EvE ρ h E d2 (encPt p)) : EvE ρ h E (dSl fSl d1 oNone (oSome (dCB fLen (aCons d2 aNil)))) (encPt (o.take p.length)) := ev_sl h1 evo_none (evo_some (ev_cb (eva1 h2) (c_len (n := p.length) (by unfold encPt; simp [lenA])))) fun Q q => by
  show Q (.tup (cutA (o.map Val.int) none (some (p.length : Int)))) h
  rw [pt_take]; exact q
theorem ev_initP {ρ : Sl} {h : Hv} {E : PX} {d1 : ED} {o : List Int} (h1 : EvE ρ h E d1 (encPt o)) : EvE ρ h E (dSl fSl d1 oNone (oSome (dUn fNeg (dC (.int 1))))) (encPt o.dropLast) := ev_sl (r := some (-1)) h1 evo_none (evo_some (ev_neg ev_c)) fun Q q => by
  show Q (.tup (cutA (o.map Val.int) none (some (-1)))) h
  rw [pt_init]; exact q
theorem ev_lenP {ρ : Sl} {h : Hv} {E : PX} {d1 : ED} {o : List Int} (h1 : EvE ρ h E d1 (encPt o)) : EvE ρ h E (dCB fLen (aCons d1 aNil)) (.int (o.length : Int)) := ev_cb (eva1 h1) (c_len (n := o.length) (by unfold encPt; simp [lenA]))
theorem okN_lpts {t : Tree} (hh : t.ht < 24) {ps : List (List Int)} (hl : ps.length ≤ 1000) (hm : ∀ p ∈ ps, p ∈ t.paths) : okN 64 (.lst (ps.map encPt)) = true := by
  rw [okN_lst]
  refine ⟨fun v hv => ?_, by rw [List.length_map]; exact hl⟩
  obtain ⟨p, hp, rfl⟩ := List.mem_map.mp hv
  exact paths_okN hh (hm p hp) 62
theorem x_lputq {ρ : Sl} {h : Hv} {E : PX} {D : AE} {dd dk dv : ED} (q : dv ρ h (fun v h1 => sLPut dd dk (dC v) ρ h1 D E) E) : sLPut dd dk dv ρ h D E := q
theorem s_lputC {ρ : Sl} {h : Hv} {E : PX} {D : AE} {dd dk : ED} {a : Addr} {us : List Val} {j : Nat} {v : Val} (hd : EvE ρ h E dd (.ref a)) (hk : EvE ρ h E dk (.int (j : Int))) (e : h a = some (.lst us)) (hj : j < us.length) (q : D.nx ρ (put h a (.lst (us.set j v)))) : sLPut dd dk (dC v) ρ h D E := hd _ (hk _ (by
  show match h a with
    | some (.lst us) => (match ixN us.length (j : Int) with
      | some j => D.nx ρ (put h a (.lst (us.set j v)))
      | none => False)
    | _ => False
  rw [e]
  have : ixN us.length (j : Int) = some j := by unfold ixN; simp; omega
  dsimp only
  rw [this]
  exact q))
set_option maxHeartbeats 4000000 in
theorem bo_law (G : Gx) (N : List Str) (hN : N.length = 20) : ∀ as h Q E, as.length = 1 → S_lawN ["_law_mended"] G as h Q E → den_law G (startA N as) h (endsR Q) (RX E) := by
  rintro as h0 Q E - ⟨ns, rfl, nl, gns, tb0, q⟩
  have i3 : ("_law_mended" : Str) ∈ G.ns := by rw [gns]; decide
  unfold den_law
  simp only [startA, hN]
  refine ss_begun tb0 fun t r h1 T1 tb1 => ?_
  refine ss_for (evi_range1 (n := 4) ev_c (by decide)) fun dd hdd => ?_
  refine for_ind (fun vs ρ h => LS G.Ts t r h ∧ ∃ x2 x3 x4 x5 x6 x7 x8 x9 x10 x11 x12 x13 x14 x15 x16 x17 x18 x19 : Option Val, ρ = [some (.scr ns), some (.ref t), x2, x3, x4, x5, x6, x7, x8, x9, x10, x11, x12, x13, x14, x15, x16, x17, x18, x19]) ?_ ?_ _ _ _ ⟨⟨T1, tb1⟩, none, none, none, none, none, none, none, none, none, none, none, none, none, none, none, none, none, none, rfl⟩
  · rintro ρ h ⟨_, x2, x3, x4, x5, x6, x7, x8, x9, x10, x11, x12, x13, x14, x15, x16, x17, x18, x19, rfl⟩
    refine ⟨trivial, ?_⟩
    dsimp only
    exact s_ret ev_c (RT.same (q _))
  · rintro v2 vs ρ h ⟨s1, x2, x3, x4, x5, x6, x7, x8, x9, x10, x11, x12, x13, x14, x15, x16, x17, x18, x19, rfl⟩
    refine ⟨trivial, _, rfl, fun N hN => ?_⟩
    subst hdd
    refine ss_book nl s1.T s1.tb ev_var ev_var fun b h2 db T2 tb2 _ => ?_
    have wf := db.wf
    refine ss_heap (most := 6) (b := b) nl (by decide) (by decide) wf.n4 T2 tb2 ev_var ev_var ev_var ev_c fun hp h3 dh T3 tb3 _ => ?_
    have ho := drawn_hp dh (by decide)
    have h8 := ho.n8
    have h6 : hp.length ≤ 6 := by have := dh.nm; omega
    have k1 := dh.n1
    have wt1 : ∀ x ∈ hp, 1 ≤ x.1 := fun x hx => (dh.wt x hx).1
    have lenH : ∀ {ρ : Sl} {h : Hv} {E : PX} {d : ED}, EvE ρ h E d (encH hp) → EvE ρ h E (dCB fLen (aCons d aNil)) (.int (hp.length : Int)) := fun hd => ev_cb (eva1 hd) (c_len (n := hp.length) (by unfold encH; simp))
    refine x_set (e_call (vs := [.scr ns, .ref t, encB b, .lst (((List.range hp.length).map fun (i : Nat) => (i : Int)).map .int)]) (eva_cons (ev_var (v := .scr ns)) (eva_cons (ev_var (v := .ref t)) (eva2 (ev_var (v := encB b)) ?_))) rfl ⟨ns, t, r, b, (List.range hp.length).map fun (i : Nat) => (i : Int), rfl, nl, wf.n1, wf.n4, db.nz, by simp; omega, by simp; omega, T3, fun tr h4 okt pm ht la okn T4 o4 => ?_⟩)
    · exact fun Q q => lenH (ev_var (v := encH hp)) _ (by
        refine ⟨by omega, by omega, ?_⟩
        rw [Int.toNat_natCast]
        exact q)
    have tb4 := tb3.town T3 T4 o4
    have rgt : ∀ n ∈ tr.things, 0 ≤ n ∧ n < (hp.length : Int) := fun n hn => by
      obtain ⟨i, hi, rfl⟩ := List.mem_map.mp (pm.mem_iff.mp hn)
      have := List.mem_range.mp hi
      omega
    have tk : TrOk b hp tr := ⟨okt, rgt⟩
    have tlen : tr.things.length ≤ 6 := by rw [pm.length_eq]; simp; omega
    have hs18 : tr.size ≤ 18 := by rw [size_eq]; omega
    have hs : tr.size ≤ 900 := by omega
    have hh : tr.ht < 24 := by omega
    have cb : ClB b hp tr := ⟨wf, tk, hh, hs⟩
    have pl : tr.paths.length ≤ 18 := by rw [paths_len]; exact hs18
    have n4 := names_len wf
    obtain ⟨os, eos⟩ : ∃ os : List (Option Str), os = b.names.map some ++ [none] := ⟨_, rfl⟩
    have osl : os.length = b.names.length + 1 := by rw [eos]; simp
    -- truth, names
    refine ss_par2 (v := .tup ((tr.rows b hp []).map encRow)) (w := .lst (os.map encO)) (eva2 (ev_call (eva_cons (ev_var (v := encB b)) (eva2 (ev_var (v := encH hp)) (ev_var (v := tr.enc)))) rfl fun Q q => ⟨b, hp, tr, rfl, wf, tk, hh, hs, .inl q⟩) ((ev_bin (ev_lc (ok := fun _ => True) b.lands encL (fun l => .str l.nm) (evi_it (ev_bin (ev_var (v := encB b)) ev_c (f_ix0 rfl rfl)) rfl) (fun _ _ => trivial) (by rw [sizeLine_eq]; have := wf.n4; omega) fun l hl => ⟨_, rfl, fun h' _ => ev_bin (ev_var (v := encL l)) ev_c (f_ix0 (u := .str l.nm) rfl rfl)⟩) (ev_lst (eva1 ev_c) (by simp [sizeLine_eq])) (f_addL rfl rfl (by have := wf.n4; rw [sizeLine_eq]; simp; omega))).cast (by rw [eos]; unfold Book.names; simp [encO]))) ?_
    refine x_listHq (ev_var (v := .tup ((tr.rows b hp []).map encRow))) fun p np => ?_
    have s5 : LS G.Ts t r (put h4 p (.lst ((tr.rows b hp []).map encRow))) := (LS.mk T4 tb4).new np
    refine s_seq (x_for ?_)
    show dCall 3 S__law_draw _ _ _ _ _
    refine e_draw (m := 4) nl (by decide) (by decide) s5.T s5.tb ev_var ev_var ev_c fun n5 h6' n50 n51 T6 tb6 o6 => ?_
    obtain ⟨n, rfl⟩ := Int.eq_ofNat_of_zero_le n50
    refine ⟨by omega, by omega, ?_⟩
    rw [Int.toNat_natCast]
    have np6 := s5.ne put_same
    have hp6 : h6' p = some (.lst ((tr.rows b hp []).map encRow)) := (o6 p np6.1 np6.2).trans put_same
    refine for_ind (fun vs ρ h' => ∃ (L : List Nat) (cs : List Row) (x9 x10 : Option Val), vs = L.map (fun (i : Nat) => Val.int (0 + (i : Nat))) ∧ ClOk b tr cs ∧ (wrongA b hp tr cs).length + L.length ≤ n ∧ LS G.Ts t r h' ∧ h' p = some (.lst (cs.map encRow)) ∧ ρ = [some (.scr ns), some (.ref t), some v2, some (encB b), some (encH hp), some tr.enc, some (.tup ((tr.rows b hp []).map encRow)), some (.lst (os.map encO)), some (.ref p), x9, x10, x11, x12, x13, x14, x15, x16, x17, x18, x19]) ?_ ?_ _ _ _ ⟨List.range n, tr.rows b hp [], _, _, rfl, rows_ok tk ho.fr, by rw [wrong_rows, List.length_range]; simp, ⟨T6, tb6⟩, hp6, rfl⟩
    rotate_left 1
    · rintro v vs ρ h' ⟨L, cs, x9, x10, elv, ok, wl, s7, hp7, rfl⟩
      cases L with
      | nil => cases elv
      | cons i L' =>
      rw [List.map_cons, List.cons.injEq] at elv
      obtain ⟨rfl, rfl⟩ := elv
      refine ⟨trivial, _, rfl, fun Nx hNx => ?_⟩
      have lc : cs.length = tr.paths.length := by rw [← ok.ps, List.length_map]
      have lc0 : 1 ≤ cs.length := by rw [lc, paths_len]; cases tr <;> rw [Tree.size] <;> omega
      refine x_set (e_draw (m := (cs.length : Int)) nl (by omega) (by omega) s7.T s7.tb ev_var ev_var (ev_cb (eva1 (ev_var (v := .ref p))) (c_len (n := cs.length) (by simp [lenA, hp7]))) fun j h8' j0 j1 T8 tb8 o8 => ?_)
      obtain ⟨k, rfl⟩ := Int.eq_ofNat_of_zero_le j0
      have hk : k < cs.length := by omega
      have np7 := s7.ne hp7
      have hp8 : h8' p = some (.lst (cs.map encRow)) := (o8 p np7.1 np7.2).trans hp7
      refine x_lputq (x_tupEq (v := encPt cs[k].1) (ev_bin (v := encRow cs[k]) (ev_bin (ev_var (v := .ref p)) (ev_var (v := .int (k : Int))) (f_ixL (vs := cs.map encRow) (by simp [seqOf, hp8]) (by rw [List.getElem?_map, List.getElem?_eq_getElem hk]; rfl))) ev_c (f_ix0 rfl rfl)) (x_oneEq ?_))
      refine m_bin (m_ev (ev_var (v := .lst (os.map encO))) (e_draw (m := (os.length : Int)) nl (by omega) (by omega) T8 tb8 ev_var ev_var (ev_cb (eva1 (ev_var (v := .lst (os.map encO)))) (c_len (n := os.length) (by simp))) fun j2 h9 j20 j21 T9 tb9 o9 => ?_))
      obtain ⟨m, rfl⟩ := Int.eq_ofNat_of_zero_le j20
      have hm : m < os.length := by omega
      obtain ⟨o, eo⟩ : ∃ o, o = os[m] := ⟨_, rfl⟩
      refine f_ixL (vs := os.map encO) (u := encO o) rfl (by rw [List.getElem?_map, List.getElem?_eq_getElem hm, eo]; rfl) _ ?_
      have fo : inNm' b o = true := by
        have : o ∈ os := by rw [eo]; exact List.getElem_mem hm
        rw [eos] at this
        rcases List.mem_append.mp this with hm | hm
        · obtain ⟨z, hz, rfl⟩ := List.mem_map.mp hm
          simp [inNm', hz]
        · rw [List.mem_singleton.mp hm]; rfl
      have s9 : LS G.Ts t r h9 := ⟨T9, tb9⟩
      have hp9 : h9 p = some (.lst (cs.map encRow)) := (o9 p np7.1 np7.2).trans hp8
      refine ⟨by simp [sizeLine_eq], ?_⟩
      have eset : (cs.map encRow).set k (.tup [encPt cs[k].1, encO o]) = (chgC cs k o).map encRow := by
        unfold chgC
        rw [List.map_set]
        congr 1
        simp [hk]; rfl
      refine s_lputC (us := cs.map encRow) (j := k) (ev_var (v := .ref p)) (ev_var (v := .int (k : Int))) hp9 (by rw [List.length_map]; exact hk) ?_
      rw [eset]
      exact hNx _ _ ⟨L', chgC cs k o, _, _, rfl, chg_ok ok hk fo, by have := chg_wrong (b := b) (hp := hp) (t := tr) (cs := cs) (k := k) (o := o); rw [List.length_cons] at wl; omega, s9.wr hp9, put_same, rfl⟩
    rintro ρ h' ⟨L, cs, x9, x10, elv, ok, wl, s7, hp7, rfl⟩
    have w3 : (wrongA b hp tr cs).length ≤ 3 := by omega
    refine ⟨trivial, ?_⟩
    dsimp only
    refine ss_set (v := .tpo (cs.map encRow)) (ev_cb (eva1 (ev_var (v := .ref p))) (m_tpF hp7)) ?_
    have lc : cs.length = tr.paths.length := by rw [← ok.ps, List.length_map]
    obtain ⟨W, eW⟩ : ∃ W, W = wrongA b hp tr cs := ⟨_, rfl⟩
    obtain ⟨F, eF⟩ : ∃ F, F = firstA b hp tr cs := ⟨_, rfl⟩
    have mW : ∀ p ∈ W, p ∈ tr.paths := fun p hp => by rw [eW] at hp; exact ((mem_wrong ok).mp hp).1
    have mF : ∀ p ∈ F, p ∈ tr.paths := fun p hp => by rw [eF] at hp; exact ((mem_first ok).mp hp).1
    have lF : F.length ≤ 18 := by
      rw [eF]; unfold firstA; rw [List.length_map]
      have := List.length_filter_le (fun r : Row => !folA b hp tr (clAt cs) r.1) cs
      omega
    have lW : W.length ≤ 3 := by rw [eW]; exact w3
    have okW : okN 64 (.tup (W.map encPt)) = true := okN_pts hh (by omega) mW
    have okF : okN 64 (.tup (F.map encPt)) = true := okN_pts hh (by omega) mF
    have okP : ∀ {p : List Int}, p.length ≤ 1000 → okN 64 (encPt p) = true := fun h => okN_ints h 63
    have lP : ∀ p ∈ tr.paths, p.length ≤ 24 := fun p hp => by
      obtain ⟨u, hu⟩ := paths_at tr p hp
      have := (at_sub p tr u hu okt).2.2.2.1
      omega
    have okR : okN 64 (.tup ((tr.rows b hp []).map encRow)) = true := okN_rows db.nz (by rw [rows_paths, List.length_map]; omega) (fun r' hr => by
      have hk := (rows_ok tk ho.fr).fr r' hr
      refine ⟨?_, fun z hz => ?_⟩
      · rw [rows_paths] at hr
        obtain ⟨p, hp, rfl⟩ := List.mem_map.mp hr
        have := lP p hp
        show p.length ≤ 1000
        omega
      · rw [hz] at hk; simpa [inNm'] using hk) 61
    have okC : okN 64 (.tup (cs.map encRow)) = true := okN_rows db.nz (by omega) (fun r' hr => by
      have hk := ok.fr r' hr
      refine ⟨?_, fun z hz => ?_⟩
      · have := lP r'.1 (by rw [← ok.ps]; exact List.mem_map_of_mem hr)
        omega
      · rw [hz] at hk; simpa [inNm'] using hk) 61
    refine ss_par2 (v := .tup (W.map encPt)) (w := .tup (F.map encPt)) (eva2 (ev_call (eva_cons (ev_var (v := encB b)) (eva_cons (ev_var (v := encH hp)) (eva2 (ev_var (v := tr.enc)) (ev_var (v := .tpo (cs.map encRow)))))) rfl fun Q q => ⟨b, hp, tr, _, rfl, cb, .inr ⟨cs, .inr rfl, ok, by rw [← eW]; exact q⟩⟩) (ev_call (eva_cons (ev_var (v := encB b)) (eva_cons (ev_var (v := encH hp)) (eva2 (ev_var (v := tr.enc)) (ev_var (v := .tpo (cs.map encRow)))))) rfl fun Q q => ⟨b, hp, tr, _, rfl, cb, .inr ⟨cs, rfl, ok, by rw [← eF]; exact q⟩⟩)) ?_
    have eWF : (W.map encPt).isEmpty = (F.map encPt).isEmpty := by
      have := nil_iff (b := b) (hp := hp) ok
      rw [← eW, ← eF] at this
      rw [Bool.eq_iff_iff]
      simpa using this
    have eCW : decide (cs = tr.rows b hp []) = (W.map encPt).isEmpty := by
      have := truth_iff (b := b) (hp := hp) ok
      rw [← eW] at this
      rw [Bool.eq_iff_iff]
      simpa using this
    refine ss_if (k := false) (evt_or (k := false) (l := false) (evt_test (ev_bin (ev_bin (ev_var (v := .tup (W.map encPt))) (ev_tup eva_nil (by simp)) (f_eqTn okW)) (ev_bin (ev_var (v := .tup (F.map encPt))) (ev_tup eva_nil (by simp)) (f_eqTn okF)) (f_neBB eWF))) fun _ => evt_test (ev_bin (ev_bin (ev_var (v := .tpo (cs.map encRow))) (ev_var (v := .tup ((tr.rows b hp []).map encRow))) (f_eqRows okC okR)) (ev_bin (ev_var (v := .tup (W.map encPt))) (ev_tup eva_nil (by simp)) (f_eqTn okW)) (f_neBB eCW))) (fun z => nomatch z) fun _ => ?_
    refine m_next ?_
    dsimp only
    -- a wrong one has one that does not follow at it or below
    refine ss_for (evi_it (ev_var (v := .tup (W.map encPt))) rfl) fun dd hdd => ?_
    refine for_ind (fun vs ρ h2 => ∃ (R : List (List Int)) (x13 x17 : Option Val), vs = R.map encPt ∧ (∀ p ∈ R, p ∈ W) ∧ h2 = h' ∧ ρ = [some (.scr ns), some (.ref t), some v2, some (encB b), some (encH hp), some tr.enc, some (.tup ((tr.rows b hp []).map encRow)), some (.lst (os.map encO)), some (.tpo (cs.map encRow)), x9, x10, some (.tup (W.map encPt)), some (.tup (F.map encPt)), x13, x14, x15, x16, x17, x18, x19]) ?_ ?_ _ _ _ ⟨W, _, _, rfl, fun _ h => h, rfl, rfl⟩
    rotate_left 1
    · rintro v vs ρ h2 ⟨R, x13, x17, elv, hR, rfl, rfl⟩
      cases R with
      | nil => cases elv
      | cons p R' =>
      rw [List.map_cons, List.cons.injEq] at elv
      obtain ⟨rfl, rfl⟩ := elv
      refine ⟨trivial, _, rfl, fun Nx hNx => ?_⟩
      subst hdd
      have hpW := hR p List.mem_cons_self
      obtain ⟨s, hs'⟩ := first_of_wrong ok (by rw [← eW]; exact hpW)
      rw [← eF] at hs'
      have ne : (((F.filter fun o => decide (o.take p.length = p)).map encPt)).isEmpty = false := by
        rw [List.isEmpty_eq_false_iff]
        intro z
        have z := List.map_eq_nil_iff.mp z
        have : p ++ s ∈ F.filter fun o => decide (o.take p.length = p) := List.mem_filter.mpr ⟨hs', by rw [List.take_left]; exact decide_eq_true rfl⟩
        rw [z] at this
        cases this
      refine s_if (k := false) (evt_test ((ev_bin (ev_lcF (ok := fun _ => True) F encPt (fun o => decide (o.take p.length = p)) encPt (evi_it (ev_var (v := .tup (F.map encPt))) rfl) (fun _ _ => trivial) (by rw [sizeLine_eq]; omega) fun o ho' => ⟨_, rfl, fun h3 _ => evt_test (ev_bin (ev_takeP (ev_var (v := encPt o)) (ev_var (v := encPt p))) (ev_var (v := encPt p)) (f_eqPt (okP (by rw [List.length_take]; have := lP o (mF o ho'); omega)) (okP (by have := lP p (mW p hpW); omega)))), fun _ h3 _ => ev_var⟩) (ev_lst eva_nil (by simp)) (f_eqLn (okN_lpts hh (by have := List.length_filter_le (fun o : List Int => decide (o.take p.length = p)) F; omega) fun q hq => mF q (List.mem_filter.mp hq).1))).cast (by rw [ne]))) (fun z => nomatch z) fun _ => ?_
      refine m_next ?_
      exact hNx _ _ ⟨R', _, _, rfl, fun q hq => hR q (List.mem_cons_of_mem _ hq), rfl, rfl⟩
    rintro ρ h2 ⟨R, x13, x17, elv, hR, rfl, rfl⟩
    refine ⟨trivial, ?_⟩
    dsimp only
    -- one that does not follow is wrong, or one of its parts is
    refine ss_for (evi_it (ev_var (v := .tup (F.map encPt))) rfl) fun dd hdd => ?_
    refine for_ind (fun vs ρ h3 => ∃ (R : List (List Int)) (x13 x14 x17 : Option Val), vs = R.map encPt ∧ (∀ p ∈ R, p ∈ F) ∧ h3 = h2 ∧ ρ = [some (.scr ns), some (.ref t), some v2, some (encB b), some (encH hp), some tr.enc, some (.tup ((tr.rows b hp []).map encRow)), some (.lst (os.map encO)), some (.tpo (cs.map encRow)), x9, x10, some (.tup (W.map encPt)), some (.tup (F.map encPt)), x13, x14, x15, x16, x17, x18, x19]) ?_ ?_ _ _ _ ⟨F, _, _, _, rfl, fun _ h => h, rfl, rfl⟩
    rotate_left 1
    · rintro v vs ρ h3 ⟨R, x13, x14, x17, elv, hR, rfl, rfl⟩
      cases R with
      | nil => cases elv
      | cons p R' =>
      rw [List.map_cons, List.cons.injEq] at elv
      obtain ⟨rfl, rfl⟩ := elv
      refine ⟨trivial, _, rfl, fun Nx hNx => ?_⟩
      subst hdd
      have hpF := hR p List.mem_cons_self
      obtain ⟨P, eP⟩ : ∃ P, P = W.filter fun o => decide (o.length = p.length + 1) && decide (o.dropLast = p) := ⟨_, rfl⟩
      refine ss_set (v := .lst (P.map encPt)) ((ev_lcF (ok := fun _ => True) W encPt (fun o => decide (o.length = p.length + 1) && decide (o.dropLast = p)) encPt (evi_it (ev_var (v := .tup (W.map encPt))) rfl) (fun _ _ => trivial) (by rw [sizeLine_eq]; omega) fun o ho' => ⟨_, rfl, fun h3 _ => evt_and (evt_test ((ev_bin (ev_lenP (ev_var (v := encPt o))) (ev_bin (ev_lenP (ev_var (v := encPt p))) ev_c (f_add _ _)) f_eqI).cast (by congr 1; rw [Bool.eq_iff_iff]; simp; omega))) fun _ => evt_test (ev_bin (ev_initP (ev_var (v := encPt o))) (ev_var (v := encPt p)) (f_eqPt (okP (by rw [List.length_dropLast]; have := lP o (mW o ho'); omega)) (okP (by have := lP p (mF p hpF); omega)))), fun _ h3 _ => ev_var⟩).cast (by rw [eP])) ?_
      have nn : ((!decide (p ∈ W)) && (P.map encPt).isEmpty) = false := by
        rcases wrong_of_first ok (by rw [← eF]; exact hpF) with z | ⟨i, z⟩
        · rw [← eW] at z
          rw [decide_eq_true z]; rfl
        · rw [← eW] at z
          have : p ++ [i] ∈ P := by
            rw [eP]
            exact List.mem_filter.mpr ⟨z, by simp⟩
          have : (P.map encPt).isEmpty = false := by
            rw [List.isEmpty_eq_false_iff]
            intro y
            rw [List.map_eq_nil_iff.mp y] at this
            cases this
          rw [this, Bool.and_false]
      refine s_if (k := false) ((evt_and (evt_test (ev_bin (ev_var (v := encPt p)) (ev_var (v := .tup (W.map encPt))) (f_notInPt (okP (by have := lP p (mF p hpF); omega)) okW))) fun _ => evt_test (ev_bin (ev_var (v := .lst (P.map encPt))) (ev_lst eva_nil (by simp)) (f_eqLn (okN_lpts hh (by rw [eP]; have := List.length_filter_le (fun o : List Int => decide (o.length = p.length + 1) && decide (o.dropLast = p)) W; omega) fun q hq => by rw [eP] at hq; exact mW q (List.mem_filter.mp hq).1)))).cast nn) (fun z => nomatch z) fun _ => ?_
      refine m_next ?_
      exact hNx _ _ ⟨R', _, _, _, rfl, fun q hq => hR q (List.mem_cons_of_mem _ hq), rfl, rfl⟩
    rintro ρ h3 ⟨R, x13, x14, x17, elv, hR, rfl, rfl⟩
    refine ⟨trivial, ?_⟩
    dsimp only
    -- mended
    refine x_asgq (e_call (eva_cons (ev_var (v := encB b)) (eva_cons (ev_var (v := encH hp)) (eva2 (ev_var (v := tr.enc)) (ev_var (v := .tpo (cs.map encRow)))))) rfl ⟨b, hp, tr, cs, rfl, cb, ho.fr, ok, by omega, by omega, s7.tb, i3, fun d nd => ?_⟩)
    show sSeq _ _ _ _ _ _
    have s8 : LS G.Ts t r (put h3 d (.dT (dtC (tr.rows b hp [])))) := s7.newO nd
    refine ss_if (k := false) (evt_or (k := false) (l := false) (evt_test (ev_bin (ev_cb (u := .tup ((tr.rows b hp []).map encRow)) (eva1 (ev_rows (cs := tr.rows b hp []) (ev_var (v := .ref d)) put_same (by rw [(rows_ok tk ho.fr).ps]; exact paths_rise tr) (by rw [rows_paths, List.length_map]; omega))) m_tupL) (ev_var (v := .tup ((tr.rows b hp []).map encRow))) (f_neS okR))) fun _ => evt_test ((ev_bin (ev_var (v := .int ((wrongA b hp tr cs).length : Int))) (ev_cb (eva1 (ev_var (v := .tup (W.map encPt)))) (c_len (n := W.length) (by simp [lenA]))) f_gtI).cast (by rw [eW]; simp))) (fun z => nomatch z) fun _ => ?_
    refine m_next ?_
    dsimp only
    have cw : tr.cnt b hp ≤ (hp.map (·.1)).sum := by rw [← whole_all pm]; exact cnt_le_whole wt1 tr
    refine s_if (k := false) (evt_test ((ev_bin (ev_call (eva_cons (ev_var (v := encB b)) (eva2 (ev_var (v := encH hp)) (ev_var (v := tr.enc)))) rfl fun Q q => ⟨b, hp, tr, rfl, wf, tk, hh, hs, q⟩) (ev_sum (ok := fun _ => True) hp encR (·.1) (evi_it (ev_var (v := encH hp)) rfl) (fun _ _ => trivial) (by rw [sizeLine_eq]; omega) fun x hx => ⟨_, rfl, fun h3 _ => ev_var⟩) f_gtI).cast (by congr 1; exact decide_eq_false (by omega)))) (fun z => nomatch z) fun _ => ?_
    refine m_next ?_
    exact hN _ _ ⟨s8, _, _, _, _, _, _, _, _, _, _, _, _, _, _, _, _, _, _, rfl⟩
end DL
namespace DL
open PySem PySem.Spec PyProof.Rows L2
def exX (rs : List Str) (tf : List He.Defn) (K : PySem.W.Frag) : Bool := rs.all (fun x => He.eqO (PySem.W.nsIn K mainGlobals x) (some (some (.ref (He.ga K x)))) && excRB K x) && decide ((tf.map fun p => (He.cT K p).2).Nodup)
theorem exX_ok {rs : List Str} {tf : List He.Defn} {K : PySem.W.Frag} {h : Heap} {mg : Str → Option Value} (X : K.In h) (G : h.Ns mainGlobals mg) (e : exX rs tf K = true) : (∀ x ∈ rs, XcR K mg x) ∧ (tf.map fun p => (He.cT K p).2).Nodup := by
  unfold exX at e
  simp only [Bool.and_eq_true, List.all_eq_true, decide_eq_true_eq] at e
  refine ⟨fun x hx => ?_, e.2⟩
  obtain ⟨e1, r⟩ := e.1 x hx
  unfold excRB at r
  simp only [Bool.and_eq_true, decide_eq_true_eq] at r
  exact ⟨He.ga K x, PySem.W.mg_of X G (He.eqO_ok e1), r.1, r.2.1, r.2.2.1, r.2.2.2⟩
end DL
namespace DL
open PySem PySem.Spec PyProof.Rows L2
def topS (i : Nat) : Stmt := PySem.Challenge.pw_countsfrom_k21_whole_claims.main.body.getD i (.Pass ⟨0, 0, 0, 0⟩)
abbrev s_names_of : Stmt := topS 4
abbrev N_names_of : List Str := ["book", "land"]
theorem sc_names_of : FnScope N_names_of ["book"] (defScope s_names_of) := ⟨rfl, rfl, rfl, by decide +kernel, rfl, by decide +kernel, by decide +kernel⟩
theorem ok_names_of {P : Program} {w : World} {K : PySem.W.Frag} {mg : Str → Option Value} {base : Heap} {f : Addr} {fd : FuncData} (F : Fun K "names_of" "names_of" s_names_of f fd)  :
    FnOk P w K mg base (L2.CX P w) 1 f fd ["book"] (spA K mg 1 S_names_of) := by
  refine fn_mk (den := den_names_of) F sc_names_of (fun cdv A outer s H E B hr tk => ?_) (bo_names_of N_names_of rfl)
  have nd := sc_names_of.nd
  exact (dss_one (ds_ret (de_lc (own := [("land", 1)]) (t := (.nm 1)) rfl nd (di_any (de_ix (de_var 0) de_int)) (blkOk_by (N := N_names_of) (sc := defScope s_names_of) (by decide +kernel)) (by decide) (fun _ _ _ _ _ => (gt_name (i := 1) nd rfl (Or.inl rfl))) (fun _ _ _ _ _ => dts_nil) (fun _ _ _ _ _ => (de_ix (de_var 1) de_int)))))

abbrev s_row_of : Stmt := topS 5
abbrev N_row_of : List Str := ["book", "land", "row"]
theorem sc_row_of : FnScope N_row_of ["book", "land"] (defScope s_row_of) := ⟨rfl, rfl, rfl, by decide +kernel, rfl, by decide +kernel, by decide +kernel⟩
theorem ok_row_of {P : Program} {w : World} {K : PySem.W.Frag} {mg : Str → Option Value} {base : Heap} {f : Addr} {fd : FuncData} (F : Fun K "row_of" "row_of" s_row_of f fd)  :
    FnOk P w K mg base (L2.CX P w) 1 f fd ["book", "land"] (spA K mg 2 S_row_of) := by
  refine fn_mk (den := den_row_of) F sc_row_of (fun cdv A outer s H E B hr tk => ?_) (bo_row_of N_row_of rfl)
  have nd := sc_row_of.nd
  exact (dss_one (ds_ret (de_ix (de_lc (own := [("row", 2)]) (t := (.nm 2)) rfl nd (di_any (de_ix (de_var 0) de_int)) (blkOk_by (N := N_row_of) (sc := defScope s_row_of) (by decide +kernel)) (by decide) (fun _ _ _ _ _ => (gt_name (i := 2) nd rfl (Or.inl rfl))) (fun _ _ _ _ _ => (dts_one (dt_cmp (or_eq hr.units) ol_eq (de_ix (de_var 2) de_int) (de_var 1)))) (fun _ _ _ _ _ => (de_var 2))) de_int)))

abbrev s_takes : Stmt := topS 6
abbrev N_takes : List Str := ["book", "land", "taker", "giver"]
theorem sc_takes : FnScope N_takes ["book", "land"] (defScope s_takes) := ⟨rfl, rfl, rfl, by decide +kernel, rfl, by decide +kernel, by decide +kernel⟩
theorem ok_takes {P : Program} {w : World} {K : PySem.W.Frag} {mg : Str → Option Value} {base : Heap} {f : Addr} {fd : FuncData} (F : Fun K "takes" "takes" s_takes f fd) (m_sorted : mg "sorted" = none) (m_tuple : mg "tuple" = none) :
    FnOk P w K mg base (L2.CX P w) 1 f fd ["book", "land"] (spA K mg 2 S_takes) := by
  refine fn_mk (den := den_takes) F sc_takes (fun cdv A outer s H E B hr tk => ?_) (bo_takes N_takes rfl)
  have nd := sc_takes.nd
  exact (dss_one (ds_ret (de_callTy call_tuple_of cl_tuple rfl m_tuple bt_tuple (da_cons (de_callB cr_sortedAll cl_sorted rfl m_sorted bt_sorted (da_cons (de_op or_add ol_add (de_lst (da_cons (de_var 1) da_nil)) (de_lc (own := [("taker", 2), ("giver", 3)]) (t := (.tp [(.nm 2), (.nm 3)])) rfl nd (di_any (de_ix (de_var 0) de_int)) (blkOk_by (N := N_takes) (sc := defScope s_takes) (by decide +kernel)) (by decide) (fun _ _ _ _ _ => (gt_tup rfl (gts_cons (gt_name (i := 2) nd rfl (Or.inl rfl)) (gts_cons (gt_name (i := 3) nd rfl (Or.inl rfl)) gts_nil)))) (fun _ _ _ _ _ => (dts_one (dt_cmp (or_eq hr.units) ol_eq (de_var 2) (de_var 1)))) (fun _ _ _ _ _ => (de_var 3)))) da_nil)) da_nil))))

abbrev s_tree_at : Stmt := topS 13
abbrev N_tree_at : List Str := ["tree", "path", "place"]
theorem sc_tree_at : FnScope N_tree_at ["tree", "path"] (defScope s_tree_at) := ⟨rfl, rfl, rfl, by decide +kernel, rfl, by decide +kernel, by decide +kernel⟩
theorem ok_tree_at {P : Program} {w : World} {K : PySem.W.Frag} {mg : Str → Option Value} {base : Heap} {f : Addr} {fd : FuncData} (F : Fun K "tree_at" "tree_at" s_tree_at f fd) (m_isinstance : mg "isinstance" = none) (m_len : mg "len" = none) (m_tuple : mg "tuple" = none) :
    FnOk P w K mg base (L2.CX P w) 1 f fd ["tree", "path"] (spA K mg 2 S_tree_at) := by
  refine fn_mk (den := den_tree_at) F sc_tree_at (fun cdv A outer s H E B hr tk => ?_) (bo_tree_at N_tree_at rfl)
  have nd := sc_tree_at.nd
  exact (dss_cons (ds_for (t := (.nm 2)) (passes_of rfl) rfl (di_any (de_var 1)) (gt_name (i := 2) nd rfl (Or.inl rfl)) (dss_cons (ds_if (dt_w (dw_or (dt_not (dt_truth (de_callB call_isi cl_isi rfl m_isinstance bt_isinstance (da_cons (de_var 0) (da_cons (de_ty rfl m_tuple bt_tuple) da_nil))))) (dw_or1 (dt_cmp op_ge ol_B0 (de_var 2) (de_callB call_len cl_len rfl m_len bt_len (da_cons (de_ix (de_var 0) de_int) da_nil)))))) (dss_one (ds_ret de_non)) dss_nil) (dss_one (ds_set (i := 0) nd rfl (Or.inl rfl) (de_ix (de_ix (de_var 0) de_int) (de_var 2)))))) (dss_one (ds_ret (de_var 0))))

abbrev s__law_draw : Stmt := topS 22
abbrev N__law_draw : List Str := ["script", "town", "many", "at", "rest", "number"]
theorem sc__law_draw : FnScope N__law_draw ["script", "town", "many"] (defScope s__law_draw) := ⟨rfl, rfl, rfl, by decide +kernel, rfl, by decide +kernel, by decide +kernel⟩
theorem ok__law_draw {P : Program} {w : World} {K : PySem.W.Frag} {mg : Str → Option Value} {base : Heap} {f : Addr} {fd : FuncData} (F : Fun K "_law_draw" "_law_draw" s__law_draw f fd) (m_len : mg "len" = none) :
    FnOk P w K mg base (L2.CX P w) 1 f fd ["script", "town", "many"] (spA K mg 3 S__law_draw) := by
  refine fn_mk (den := den__law_draw) F sc__law_draw (fun cdv A outer s H E B hr tk => ?_) (bo__law_draw N__law_draw rfl)
  have nd := sc__law_draw.nd
  have hu := hu_of hr
  exact (dss_cons (ds_dput hu (de_var 1) de_str (de_op or_add ol_add (de_dget hu (de_var 1) de_str) de_int)) (dss_cons (ds_set (i := 3) nd rfl (Or.inl rfl) (de_if (dt_truth (de_var 0)) (de_op op_mod ol_I (de_dget hu (de_var 1) de_str) (de_callB call_len cl_len rfl m_len bt_len (da_cons (de_var 0) da_nil))) de_int)) (dss_cons (ds_set (i := 4) nd rfl (Or.inl rfl) (de_dget2 hu (de_dget hu (de_var 1) de_str) (de_var 3) (de_if (dt_truth (de_var 0)) (de_ix (de_var 0) (de_var 3)) de_int) ⟨rfl, rfl, rfl, rfl⟩)) (dss_cons (ds_if (dt_cmp op_ge ol_B0 (de_var 4) (de_op op_pow ol_I de_int de_int)) (dss_cons (ds_dput hu (de_dget hu (de_var 1) de_str) (de_var 3) (de_op op_fdiv ol_I (de_var 4) (de_var 2))) (dss_one (ds_ret (de_op op_mod ol_I (de_var 4) (de_var 2))))) dss_nil) (dss_cons (ds_set (i := 5) nd rfl (Or.inl rfl) (de_op op_mod ol_I (de_op or_add ol_add (de_var 4) (de_op or_mul ol_mul de_int (de_dget hu (de_var 1) de_str))) de_int)) (dss_cons (ds_set (i := 5) nd rfl (Or.inl rfl) (de_op op_mod ol_I (de_op op_pow ol_I (de_var 5) de_int) de_int)) (dss_one (ds_ret (de_op op_mod ol_I (de_op op_fdiv ol_I (de_op op_mod ol_I (de_op or_add ol_add (de_op or_mul ol_mul (de_op op_fdiv ol_I (de_var 5) de_int) de_int) (de_var 5)) de_int) de_int) (de_var 2))))))))))

abbrev s__law_begun : Stmt := topS 23
abbrev N__law_begun : List Str := []
theorem sc__law_begun : FnScope N__law_begun [] (defScope s__law_begun) := ⟨rfl, rfl, rfl, by decide +kernel, rfl, by decide +kernel, by decide +kernel⟩
theorem ok__law_begun {P : Program} {w : World} {K : PySem.W.Frag} {mg : Str → Option Value} {base : Heap} {f : Addr} {fd : FuncData} (F : Fun K "_law_begun" "_law_begun" s__law_begun f fd)  :
    FnOk P w K mg base (L2.CX P w) 1 f fd [] (spA K mg 0 S__law_begun) := by
  refine fn_mk (den := den__law_begun) F sc__law_begun (fun cdv A outer s H E B hr tk => ?_) (bo__law_begun N__law_begun rfl)
  have nd := sc__law_begun.nd
  exact (dss_one (ds_ret (de_disp (ps := [((dC (.str "count")), (dC (.int 0))), ((dC (.str "rests")), dNewK)]) (pps_cons de_str de_int (pps_cons de_str de_dnewK pps_nil)))))

abbrev s__law_at : Stmt := topS 32
abbrev N__law_at : List Str := ["tree", "path", "place"]
theorem sc__law_at : FnScope N__law_at ["tree", "path"] (defScope s__law_at) := ⟨rfl, rfl, rfl, by decide +kernel, rfl, by decide +kernel, by decide +kernel⟩
theorem ok__law_at {P : Program} {w : World} {K : PySem.W.Frag} {mg : Str → Option Value} {base : Heap} {f : Addr} {fd : FuncData} (F : Fun K "_law_at" "_law_at" s__law_at f fd)  :
    FnOk P w K mg base (L2.CX P w) 1 f fd ["tree", "path"] (spA K mg 2 S__law_at) := by
  refine fn_mk (den := den__law_at) F sc__law_at (fun cdv A outer s H E B hr tk => ?_) (bo__law_at N__law_at rfl)
  have nd := sc__law_at.nd
  exact (dss_cons (ds_for (t := (.nm 2)) (passes_of rfl) rfl (di_any (de_var 1)) (gt_name (i := 2) nd rfl (Or.inl rfl)) (dss_one (ds_set (i := 0) nd rfl (Or.inl rfl) (de_ix (de_ix (de_var 0) de_int) (de_var 2))))) (dss_one (ds_ret (de_var 0))))

abbrev s_is_enough : Stmt := topS 7
abbrev N_is_enough : List Str := ["book", "land", "counting", "whole", "name", "part", "parts", "price"]
theorem sc_is_enough : FnScope N_is_enough ["book", "land", "counting", "whole"] (defScope s_is_enough) := ⟨rfl, rfl, rfl, by decide +kernel, rfl, by decide +kernel, by decide +kernel⟩
theorem ok_is_enough {P : Program} {w : World} {K : PySem.W.Frag} {mg : Str → Option Value} {base : Heap} {f : Addr} {fd : FuncData} (F : Fun K "is_enough" "is_enough" s_is_enough f fd) (F_row_of : FnR P w K mg base 1 "row_of" 2 S_row_of) :
    FnOk P w K mg base (L2.CX P w) 2 f fd ["book", "land", "counting", "whole"] (spA K mg 4 S_is_enough) := by
  refine fn_mk (den := den_is_enough) F sc_is_enough (fun cdv A outer s H E B hr tk => ?_) (bo_is_enough N_is_enough rfl)
  have nd := sc_is_enough.nd
  exact (dss_cons (ds_asg (t := (.tp [(.nm 4), (.nm 5), (.nm 6), (.nm 7)])) (de_call (F_row_of.at hr) tk (da_cons (de_var 0) (da_cons (de_var 1) da_nil))) (gt_tup rfl (gts_cons (gt_name (i := 4) nd rfl (Or.inl rfl)) (gts_cons (gt_name (i := 5) nd rfl (Or.inl rfl)) (gts_cons (gt_name (i := 6) nd rfl (Or.inl rfl)) (gts_cons (gt_name (i := 7) nd rfl (Or.inl rfl)) gts_nil)))))) (dss_one (ds_ret (de_cmp op_ge ol_B0 (de_op or_mul ol_mul (de_var 2) (de_var 6)) (de_op or_mul ol_mul (de_var 3) (de_var 5))))))

abbrev s_is_none_or_land : Stmt := topS 15
abbrev N_is_none_or_land : List Str := ["book", "thing"]
theorem sc_is_none_or_land : FnScope N_is_none_or_land ["book", "thing"] (defScope s_is_none_or_land) := ⟨rfl, rfl, rfl, by decide +kernel, rfl, by decide +kernel, by decide +kernel⟩
theorem ok_is_none_or_land {P : Program} {w : World} {K : PySem.W.Frag} {mg : Str → Option Value} {base : Heap} {f : Addr} {fd : FuncData} (F : Fun K "is_none_or_land" "is_none_or_land" s_is_none_or_land f fd) (m_isinstance : mg "isinstance" = none) (m_str : mg "str" = none) (F_names_of : FnR P w K mg base 1 "names_of" 1 S_names_of) :
    FnOk P w K mg base (L2.CX P w) 2 f fd ["book", "thing"] (spA K mg 2 S_is_none_or_landX) := by
  refine fn_mk (den := den_is_none_or_landX) F sc_is_none_or_land (fun cdv A outer s H E B hr tk => ?_) (bo_is_none_or_landX N_is_none_or_land rfl)
  have nd := sc_is_none_or_land.nd
  exact (dss_one (ds_ret (de_or (de_cmp op_isN ol_isN (de_var 1) de_non) (de_one (de_and (de_callB call_isi cl_isi rfl m_isinstance bt_isinstance (da_cons (de_var 1) (da_cons (de_ty rfl m_str bt_str) da_nil))) (de_one (de_cmp op_in_seq ol_in (de_var 1) (de_call (F_names_of.at hr) tk (da_cons (de_var 0) da_nil)))))))))

abbrev s__law_a_book : Stmt := topS 24
abbrev N__law_a_book : List Str := ["script", "town", "names", "lands", "pacts", "name", "parts", "taker", "giver"]
theorem sc__law_a_book : FnScope N__law_a_book ["script", "town"] (defScope s__law_a_book) := ⟨rfl, rfl, rfl, by decide +kernel, rfl, by decide +kernel, by decide +kernel⟩
theorem ok__law_a_book {P : Program} {w : World} {K : PySem.W.Frag} {mg : Str → Option Value} {base : Heap} {f : Addr} {fd : FuncData} (F : Fun K "_law_a_book" "_law_a_book" s__law_a_book f fd) (m_tuple : mg "tuple" = none) (F__law_draw : FnR P w K mg base 1 "_law_draw" 3 S__law_draw) :
    FnOk P w K mg base (L2.CX P w) 2 f fd ["script", "town"] (spA K mg 2 S__law_a_book) := by
  refine fn_mk (den := den__law_a_book) F sc__law_a_book (fun cdv A outer s H E B hr tk => ?_) (bo__law_a_book N__law_a_book rfl)
  have nd := sc__law_a_book.nd
  exact (dss_cons (ds_par3 (i := 2) (j := 3) (l := 4) rfl nd rfl rfl rfl (by decide) (by decide) (by decide) rfl rfl rfl (da_cons (de_slice (de_tup (da_cons de_str (da_cons de_str (da_cons de_str da_nil)))) do_none (do_some (de_op or_add ol_add de_int (de_call (F__law_draw.at hr) tk (da_cons (de_var 0) (da_cons (de_var 1) (da_cons de_int da_nil))))))) (da_cons (de_lstH da_nil) (da_cons (de_lstH da_nil) da_nil)))) (dss_cons (ds_for (t := (.nm 5)) (passes_of rfl) rfl (di_any (de_var 2)) (gt_name (i := 5) nd rfl (Or.inl rfl)) (dss_cons (ds_set (i := 6) nd rfl (Or.inl rfl) (de_op or_add ol_add de_int (de_call (F__law_draw.at hr) tk (da_cons (de_var 0) (da_cons (de_var 1) (da_cons de_int da_nil)))))) (dss_one (ds_expr (de_bm PySem.F.plainAttrs_list PySem.F.slot_list_append PySem.F.type_list_append mt_append ml_append (de_var 3) (da_cons (de_tup (da_cons (de_var 5) (da_cons (de_op or_add ol_add de_int (de_call (F__law_draw.at hr) tk (da_cons (de_var 0) (da_cons (de_var 1) (da_cons (de_var 6) da_nil))))) (da_cons (de_var 6) (da_cons (de_call (F__law_draw.at hr) tk (da_cons (de_var 0) (da_cons (de_var 1) (da_cons de_int da_nil)))) da_nil))))) da_nil)))))) (dss_cons (ds_for (t := (.nm 7)) (passes_of rfl) rfl (di_any (de_var 2)) (gt_name (i := 7) nd rfl (Or.inl rfl)) (dss_one (ds_for (t := (.nm 8)) (passes_of rfl) rfl (di_any (de_var 2)) (gt_name (i := 8) nd rfl (Or.inl rfl)) (dss_one (ds_if (dt_w (dw_and (dt_cmp (or_ne hr.units) ol_ne (de_var 7) (de_var 8)) (dw_and1 (dt_cmp (or_eq hr.units) ol_eq (de_call (F__law_draw.at hr) tk (da_cons (de_var 0) (da_cons (de_var 1) (da_cons de_int da_nil)))) de_int)))) (dss_one (ds_expr (de_bm PySem.F.plainAttrs_list PySem.F.slot_list_append PySem.F.type_list_append mt_append ml_append (de_var 4) (da_cons (de_tup (da_cons (de_var 7) (da_cons (de_var 8) da_nil))) da_nil)))) dss_nil))))) (dss_one (ds_ret (de_tup (da_cons (de_callTy call_tuple_of cl_tuple rfl m_tuple bt_tuple (da_cons (de_var 3) da_nil)) (da_cons (de_callTy call_tuple_of cl_tuple rfl m_tuple bt_tuple (da_cons (de_var 4) da_nil)) da_nil))))))))

abbrev s__law_a_heap : Stmt := topS 25
abbrev N__law_a_heap : List Str := ["script", "town", "book", "most", "found", "names", "k", "worth", "land"]
theorem sc__law_a_heap : FnScope N__law_a_heap ["script", "town", "book", "most"] (defScope s__law_a_heap) := ⟨rfl, rfl, rfl, by decide +kernel, rfl, by decide +kernel, by decide +kernel⟩
theorem ok__law_a_heap {P : Program} {w : World} {K : PySem.W.Frag} {mg : Str → Option Value} {base : Heap} {f : Addr} {fd : FuncData} (F : Fun K "_law_a_heap" "_law_a_heap" s__law_a_heap f fd) (m_len : mg "len" = none) (m_range : mg "range" = none) (m_tuple : mg "tuple" = none) (F__law_draw : FnR P w K mg base 1 "_law_draw" 3 S__law_draw) :
    FnOk P w K mg base (L2.CX P w) 2 f fd ["script", "town", "book", "most"] (spA K mg 4 S__law_a_heap) := by
  refine fn_mk (den := den__law_a_heap) F sc__law_a_heap (fun cdv A outer s H E B hr tk => ?_) (bo__law_a_heap N__law_a_heap rfl)
  have nd := sc__law_a_heap.nd
  exact (dss_cons (ds_par2 (i := 4) (j := 5) rfl nd rfl rfl (by decide) rfl rfl (da_cons (de_lstH da_nil) (da_cons (de_lc (own := [("land", 8)]) (t := (.nm 8)) rfl nd (di_any (de_ix (de_var 2) de_int)) (blkOk_by (N := N__law_a_heap) (sc := defScope s__law_a_heap) (by decide +kernel)) (by decide) (fun _ _ _ _ _ => (gt_name (i := 8) nd rfl (Or.inl rfl))) (fun _ _ _ _ _ => dts_nil) (fun _ _ _ _ _ => (de_ix (de_var 8) de_int))) da_nil))) (dss_cons (ds_for (t := (.nm 6)) (passes_of rfl) rfl (di_range1 rfl m_range (da_cons (de_op or_add ol_add de_int (de_call (F__law_draw.at hr) tk (da_cons (de_var 0) (da_cons (de_var 1) (da_cons (de_var 3) da_nil))))) da_nil)) (gt_name (i := 6) nd rfl (Or.inl rfl)) (dss_cons (ds_set (i := 7) nd rfl (Or.inl rfl) (de_op or_add ol_add de_int (de_call (F__law_draw.at hr) tk (da_cons (de_var 0) (da_cons (de_var 1) (da_cons (de_ix (de_lst (da_cons de_int (da_cons de_int da_nil))) (de_call (F__law_draw.at hr) tk (da_cons (de_var 0) (da_cons (de_var 1) (da_cons de_int da_nil))))) da_nil)))))) (dss_one (ds_expr (de_bm PySem.F.plainAttrs_list PySem.F.slot_list_append PySem.F.type_list_append mt_append ml_append (de_var 4) (da_cons (de_tup (da_cons (de_var 7) (da_cons (de_ix (de_op or_add ol_add (de_op or_add ol_add (de_var 5) (de_var 5)) (de_lst (da_cons de_non da_nil))) (de_call (F__law_draw.at hr) tk (da_cons (de_var 0) (da_cons (de_var 1) (da_cons (de_op or_add ol_add (de_op or_mul ol_mul de_int (de_callB call_len cl_len rfl m_len bt_len (da_cons (de_var 5) da_nil))) de_int) da_nil))))) da_nil))) da_nil)))))) (dss_one (ds_ret (de_callTy call_tuple_of cl_tuple rfl m_tuple bt_tuple (da_cons (de_var 4) da_nil))))))

abbrev s__law_a_tree : Stmt := topS 30
abbrev N__law_a_tree : List Str := ["script", "town", "book", "things", "left", "turns", "many", "some", "k"]
theorem sc__law_a_tree : FnScope N__law_a_tree ["script", "town", "book", "things"] (defScope s__law_a_tree) := ⟨rfl, rfl, rfl, by decide +kernel, rfl, by decide +kernel, by decide +kernel⟩
theorem ok__law_a_tree {P : Program} {w : World} {K : PySem.W.Frag} {mg : Str → Option Value} {base : Heap} {f : Addr} {fd : FuncData} (F : Fun K "_law_a_tree" "_law_a_tree" s__law_a_tree f fd) (m_len : mg "len" = none) (m_list : mg "list" = none) (m_min : mg "min" = none) (m_range : mg "range" = none) (m_tuple : mg "tuple" = none) (F__law_draw : FnR P w K mg base 1 "_law_draw" 3 S__law_draw) :
    FnOk P w K mg base (L2.CX P w) 2 f fd ["script", "town", "book", "things"] (spA K mg 4 S__law_a_tree) := by
  refine fn_mk (den := den__law_a_tree) F sc__law_a_tree (fun cdv A outer s H E B hr tk => ?_) (bo__law_a_tree N__law_a_tree rfl)
  have nd := sc__law_a_tree.nd
  exact (dss_cons (ds_asg (t := (.tp [(.nm 4), (.nm 5)])) (de_tup (da_cons (de_callTy call_list_of cl_listH rfl m_list bt_list (da_cons (de_var 3) da_nil)) (da_cons de_int da_nil))) (gt_tup rfl (gts_cons (gt_name (i := 4) nd rfl (Or.inr rfl)) (gts_cons (gt_name (i := 5) nd rfl (Or.inl rfl)) gts_nil)))) (dss_cons (ds_while (passes_of rfl) (dt_w (dw_or (dt_cmp op_gt ol_B0 (de_callB call_len cl_len rfl m_len bt_len (da_cons (de_var 4) da_nil)) de_int) (dw_or1 (dt_w (dw_and (dt_cmp (or_eq hr.units) ol_eq (de_var 5) de_int) (dw_and1 (dt_cmp (or_eq hr.units) ol_eq (de_call (F__law_draw.at hr) tk (da_cons (de_var 0) (da_cons (de_var 1) (da_cons de_int da_nil)))) de_int))))))) (dss_cons (ds_set (i := 6) nd rfl (Or.inl rfl) (de_callB (call_min2 rfl) cl_min2 rfl m_min bt_min (da_cons (de_callB call_len cl_len rfl m_len bt_len (da_cons (de_var 4) da_nil)) (da_cons (de_op or_add ol_add (de_if (dt_cmp op_lt ol_B0 (de_var 5) de_int) de_int de_int) (de_call (F__law_draw.at hr) tk (da_cons (de_var 0) (da_cons (de_var 1) (da_cons de_int da_nil))))) da_nil)))) (dss_cons (ds_setLc (i := 7) (own := [("k", 8)]) (t := (.nm 8)) false rfl rfl nd rfl rfl (sw_true rfl rfl rfl (by decide +kernel)) (di_range1 rfl m_range (da_cons (de_var 6) da_nil)) (blkOk_by (N := N__law_a_tree) (sc := defScope s__law_a_tree) (by decide +kernel)) (by decide) (fun _ _ _ _ _ => (gt_name (i := 8) nd rfl (Or.inl rfl))) (fun _ _ _ _ _ => dts_nil) (fun _ _ _ _ _ => (de_bm PySem.F.plainAttrs_list PySem.F.slot_list_pop PySem.F.type_list_pop mt_popAt ml_popAt (de_var 4) (da_cons (de_call (F__law_draw.at hr) takesF (da_cons (de_var 0) (da_cons (de_var 1) (da_cons (de_callB call_len cl_len rfl m_len bt_len (da_cons (de_var 4) da_nil)) da_nil)))) da_nil)))) (dss_cons (ds_expr (de_bm PySem.F.plainAttrs_list PySem.F.slot_list_append PySem.F.type_list_append mt_append ml_append (de_var 4) (da_cons (de_tup (da_cons (de_ix (de_ix (de_ix (de_var 2) de_int) (de_call (F__law_draw.at hr) tk (da_cons (de_var 0) (da_cons (de_var 1) (da_cons (de_callB call_len cl_len rfl m_len bt_len (da_cons (de_ix (de_var 2) de_int) da_nil)) da_nil))))) de_int) (da_cons (de_callTy call_tuple_of cl_tuple rfl m_tuple bt_tuple (da_cons (de_var 7) da_nil)) da_nil))) da_nil))) (dss_one (ds_set (i := 5) nd rfl (Or.inl rfl) (de_op or_add ol_add (de_var 5) de_int))))))) (dss_one (ds_ret (de_ix (de_var 4) de_int)))))

abbrev s_is_claim : Stmt := topS 16
abbrev N_is_claim : List Str := ["book", "thing"]
theorem sc_is_claim : FnScope N_is_claim ["book", "thing"] (defScope s_is_claim) := ⟨rfl, rfl, rfl, by decide +kernel, rfl, by decide +kernel, by decide +kernel⟩
theorem ok_is_claim {P : Program} {w : World} {K : PySem.W.Frag} {mg : Str → Option Value} {base : Heap} {f : Addr} {fd : FuncData} (F : Fun K "is_claim" "is_claim" s_is_claim f fd) (m_isinstance : mg "isinstance" = none) (m_len : mg "len" = none) (m_tuple : mg "tuple" = none) (F_is_none_or_land : FnR P w K mg base 2 "is_none_or_land" 2 S_is_none_or_landX) :
    FnOk P w K mg base (L2.CX P w) 3 f fd ["book", "thing"] (spA K mg 2 S_is_claim) := by
  refine fn_mk (den := den_is_claim) F sc_is_claim (fun cdv A outer s H E B hr tk => ?_) (bo_is_claim N_is_claim rfl)
  have nd := sc_is_claim.nd
  exact (dss_one (ds_ret (de_and (de_callB call_isi cl_isi rfl m_isinstance bt_isinstance (da_cons (de_var 1) (da_cons (de_ty rfl m_tuple bt_tuple) da_nil))) (de_and (de_cmp (or_eq hr.units) ol_eq (de_callB call_len cl_len rfl m_len bt_len (da_cons (de_var 1) da_nil)) de_int) (de_one (de_call (F_is_none_or_land.at hr) tk (da_cons (de_var 0) (da_cons (de_ix (de_var 1) de_int) da_nil))))))))

abbrev s_valued : Stmt := topS 9
abbrev N_valued : List Str := ["book", "heap", "tree", "path", "rows", "worth", "land", "at", "whole", "counting", "place", "one", "inner"]
theorem sc_valued : FnScope N_valued ["book", "heap", "tree", "path", "rows"] (defScope s_valued) := ⟨rfl, rfl, rfl, by decide +kernel, rfl, by decide +kernel, by decide +kernel⟩
theorem ok_valued {P : Program} {w : World} {K : PySem.W.Frag} {mg : Str → Option Value} {base : Heap} {f : Addr} {fd : FuncData} (F : Fun K "valued" "valued" s_valued f fd) {R S : SpF} {d : Nat} (bo : ∀ as h Q E, as.length = 5 → S as h Q E → den_valued R (startA N_valued as) h (endsR Q) (RX E)) (F_R : FnR P w K mg base (2 + d) "valued" 5 R) (m_enumerate : mg "enumerate" = none) (m_isinstance : mg "isinstance" = none) (m_len : mg "len" = none) (m_tuple : mg "tuple" = none) (F_is_enough : FnR P w K mg base 2 "is_enough" 4 S_is_enough) (F_takes : FnR P w K mg base 1 "takes" 2 S_takes) :
    FnOk P w K mg base (L2.CX P w) (2 + d + 1) f fd ["book", "heap", "tree", "path", "rows"] (spA K mg 5 S) := by
  refine fn_mk (den := den_valued R) F sc_valued (fun cdv A outer s H E B hr tk => ?_) bo
  have nd := sc_valued.nd
  exact (dss_cons (ds_if (dt_not (dt_truth (de_callB call_isi cl_isi rfl m_isinstance bt_isinstance (da_cons (de_var 2) (da_cons (de_ty rfl m_tuple bt_tuple) da_nil))))) (dss_cons (ds_asg (t := (.tp [(.nm 5), (.nm 6)])) (de_ix (de_var 1) (de_var 2)) (gt_tup rfl (gts_cons (gt_name (i := 5) nd rfl (Or.inl rfl)) (gts_cons (gt_name (i := 6) nd rfl (Or.inl rfl)) gts_nil)))) (dss_cons (ds_expr (de_bm PySem.F.plainAttrs_list PySem.F.slot_list_append PySem.F.type_list_append mt_append ml_append (de_var 4) (da_cons (de_tup (da_cons (de_var 3) (da_cons (de_var 6) da_nil))) da_nil))) (dss_one (ds_ret (de_tup (da_cons (de_var 5) (da_cons (de_var 5) (da_cons (de_var 6) da_nil)))))))) dss_nil) (dss_cons (ds_par3 (i := 7) (j := 8) (l := 9) rfl nd rfl rfl rfl (by decide) (by decide) (by decide) rfl rfl rfl (da_cons (de_callB call_len cl_len rfl m_len bt_len (da_cons (de_var 4) da_nil)) (da_cons de_int (da_cons de_int da_nil)))) (dss_cons (ds_expr (de_bm PySem.F.plainAttrs_list PySem.F.slot_list_append PySem.F.type_list_append mt_append ml_append (de_var 4) (da_cons (de_tup (da_cons (de_var 3) (da_cons de_non da_nil))) da_nil))) (dss_cons (ds_for (t := (.tp [(.nm 10), (.nm 11)])) (passes_of rfl) rfl (di_enum rfl m_enumerate (da_cons (de_ix (de_var 2) de_int) da_nil)) (gt_tup rfl (gts_cons (gt_name (i := 10) nd rfl (Or.inl rfl)) (gts_cons (gt_name (i := 11) nd rfl (Or.inl rfl)) gts_nil))) (dss_cons (ds_asg (t := (.tp [(.nm 5), (.nm 12), (.nm 6)])) (de_call (F_R.at hr (Nat.le_refl _)) tk (da_cons (de_var 0) (da_cons (de_var 1) (da_cons (de_var 11) (da_cons (de_op or_add ol_add (de_var 3) (de_tup (da_cons (de_var 10) da_nil))) (da_cons (de_var 4) da_nil)))))) (gt_tup rfl (gts_cons (gt_name (i := 5) nd rfl (Or.inl rfl)) (gts_cons (gt_name (i := 12) nd rfl (Or.inl rfl)) (gts_cons (gt_name (i := 6) nd rfl (Or.inl rfl)) gts_nil))))) (dss_cons (ds_augI (i := 8) nd rfl (Or.inl rfl) (de_var 5) iop_add ol_I0) (dss_one (ds_augI (i := 9) nd rfl (Or.inl rfl) (de_if (dt_w (dw_and (dt_cmp op_notN ol_notN (de_var 6) de_non) (dw_and1 (dt_cmp op_in_seq ol_in (de_var 6) (de_call (F_takes.at hr (Nat.le_add_right_of_le (by decide))) tk (da_cons (de_var 0) (da_cons (de_ix (de_var 2) de_int) da_nil))))))) (de_var 5) de_int) iop_add ol_I0))))) (dss_cons (ds_set (i := 6) nd rfl (Or.inl rfl) (de_if (dt_truth (de_call (F_is_enough.at hr (Nat.le_add_right_of_le (by decide))) tk (da_cons (de_var 0) (da_cons (de_ix (de_var 2) de_int) (da_cons (de_var 9) (da_cons (de_var 8) da_nil)))))) (de_ix (de_var 2) de_int) de_non)) (dss_cons (ds_lput (de_var 4) (de_var 7) (de_tup (da_cons (de_var 3) (da_cons (de_var 6) da_nil)))) (dss_one (ds_ret (de_tup (da_cons (de_var 8) (da_cons (de_var 9) (da_cons (de_var 6) da_nil))))))))))))

abbrev s_counts_as : Stmt := topS 10
abbrev N_counts_as : List Str := ["book", "heap", "tree"]
theorem sc_counts_as : FnScope N_counts_as ["book", "heap", "tree"] (defScope s_counts_as) := ⟨rfl, rfl, rfl, by decide +kernel, rfl, by decide +kernel, by decide +kernel⟩
theorem ok_counts_as {P : Program} {w : World} {K : PySem.W.Frag} {mg : Str → Option Value} {base : Heap} {f : Addr} {fd : FuncData} (F : Fun K "counts_as" "counts_as" s_counts_as f fd) (F_valued : FnR P w K mg base 26 "valued" 5 S_valued) :
    FnOk P w K mg base (L2.CX P w) 27 f fd ["book", "heap", "tree"] (spA K mg 3 S_counts_as) := by
  refine fn_mk (den := den_counts_as) F sc_counts_as (fun cdv A outer s H E B hr tk => ?_) (bo_counts_as N_counts_as rfl)
  have nd := sc_counts_as.nd
  exact (dss_one (ds_ret (de_ix (de_call (F_valued.at hr) tk (da_cons (de_var 0) (da_cons (de_var 1) (da_cons (de_var 2) (da_cons (de_tup da_nil) (da_cons (de_lstH da_nil) da_nil)))))) de_int)))

abbrev s_counting_worth : Stmt := topS 11
abbrev N_counting_worth : List Str := ["book", "heap", "tree"]
theorem sc_counting_worth : FnScope N_counting_worth ["book", "heap", "tree"] (defScope s_counting_worth) := ⟨rfl, rfl, rfl, by decide +kernel, rfl, by decide +kernel, by decide +kernel⟩
theorem ok_counting_worth {P : Program} {w : World} {K : PySem.W.Frag} {mg : Str → Option Value} {base : Heap} {f : Addr} {fd : FuncData} (F : Fun K "counting_worth" "counting_worth" s_counting_worth f fd) (F_valued : FnR P w K mg base 26 "valued" 5 S_valued) :
    FnOk P w K mg base (L2.CX P w) 27 f fd ["book", "heap", "tree"] (spA K mg 3 S_counting_worth) := by
  refine fn_mk (den := den_counting_worth) F sc_counting_worth (fun cdv A outer s H E B hr tk => ?_) (bo_counting_worth N_counting_worth rfl)
  have nd := sc_counting_worth.nd
  exact (dss_one (ds_ret (de_ix (de_call (F_valued.at hr) tk (da_cons (de_var 0) (da_cons (de_var 1) (da_cons (de_var 2) (da_cons (de_tup da_nil) (da_cons (de_lstH da_nil) da_nil)))))) de_int)))

abbrev s_all_counts : Stmt := topS 12
abbrev N_all_counts : List Str := ["book", "heap", "tree", "rows"]
theorem sc_all_counts : FnScope N_all_counts ["book", "heap", "tree"] (defScope s_all_counts) := ⟨rfl, rfl, rfl, by decide +kernel, rfl, by decide +kernel, by decide +kernel⟩
theorem ok_all_counts {P : Program} {w : World} {K : PySem.W.Frag} {mg : Str → Option Value} {base : Heap} {f : Addr} {fd : FuncData} (F : Fun K "all_counts" "all_counts" s_all_counts f fd) (m_tuple : mg "tuple" = none) (F_valued : FnR P w K mg base 26 "valued" 5 S_valued) :
    FnOk P w K mg base (L2.CX P w) 27 f fd ["book", "heap", "tree"] (spA K mg 3 S_all_countsX) := by
  refine fn_mk (den := den_all_countsX) F sc_all_counts (fun cdv A outer s H E B hr tk => ?_) (bo_all_countsX N_all_counts rfl)
  have nd := sc_all_counts.nd
  exact (dss_cons (ds_set (i := 3) nd rfl (Or.inl rfl) (de_lstH da_nil)) (dss_cons (ds_expr (de_call (F_valued.at hr) tk (da_cons (de_var 0) (da_cons (de_var 1) (da_cons (de_var 2) (da_cons (de_tup da_nil) (da_cons (de_var 3) da_nil))))))) (dss_one (ds_ret (de_callTy call_tupleB cl_tupleB rfl m_tuple bt_tuple (da_cons (de_var 3) da_nil))))))

abbrev s_follows : Stmt := topS 19
abbrev N_follows : List Str := ["book", "heap", "tree", "told", "path", "part", "whole", "counting", "place", "one", "worth", "land"]
theorem sc_follows : FnScope N_follows ["book", "heap", "tree", "told", "path"] (defScope s_follows) := ⟨rfl, rfl, rfl, by decide +kernel, rfl, by decide +kernel, by decide +kernel⟩
theorem ok_follows {P : Program} {w : World} {K : PySem.W.Frag} {mg : Str → Option Value} {base : Heap} {f : Addr} {fd : FuncData} (F : Fun K "follows" "follows" s_follows f fd) (m_enumerate : mg "enumerate" = none) (m_isinstance : mg "isinstance" = none) (m_tuple : mg "tuple" = none) (F_is_enough : FnR P w K mg base 2 "is_enough" 4 S_is_enough) (F_takes : FnR P w K mg base 1 "takes" 2 S_takes) (F_tree_at : FnR P w K mg base 1 "tree_at" 2 S_tree_at) (F_valued : FnR P w K mg base 26 "valued" 5 S_valued) :
    FnOk P w K mg base (L2.CX P w) 27 f fd ["book", "heap", "tree", "told", "path"] (spA K mg 5 S_follows) := by
  refine fn_mk (den := den_follows) F sc_follows (fun cdv A outer s H E B hr tk => ?_) (bo_follows N_follows rfl)
  have nd := sc_follows.nd
  have hu := hu_of hr
  exact (dss_cons (ds_set (i := 5) nd rfl (Or.inl rfl) (de_call (F_tree_at.at hr) tk (da_cons (de_var 2) (da_cons (de_var 4) da_nil)))) (dss_cons (ds_if (dt_not (dt_truth (de_callB call_isi cl_isi rfl m_isinstance bt_isinstance (da_cons (de_var 5) (da_cons (de_ty rfl m_tuple bt_tuple) da_nil))))) (dss_one (ds_ret (de_cmp (or_eq hr.units) ol_eq (de_dget hu (de_var 3) (de_var 4)) (de_ix (de_ix (de_var 1) (de_var 5)) de_int)))) dss_nil) (dss_cons (ds_asg (t := (.tp [(.nm 6), (.nm 7)])) (de_tup (da_cons de_int (da_cons de_int da_nil))) (gt_tup rfl (gts_cons (gt_name (i := 6) nd rfl (Or.inl rfl)) (gts_cons (gt_name (i := 7) nd rfl (Or.inl rfl)) gts_nil)))) (dss_cons (ds_for (t := (.tp [(.nm 8), (.nm 9)])) (passes_of rfl) rfl (di_enum rfl m_enumerate (da_cons (de_ix (de_var 5) de_int) da_nil)) (gt_tup rfl (gts_cons (gt_name (i := 8) nd rfl (Or.inl rfl)) (gts_cons (gt_name (i := 9) nd rfl (Or.inl rfl)) gts_nil))) (dss_cons (ds_set (i := 10) nd rfl (Or.inl rfl) (de_ix (de_call (F_valued.at hr) tk (da_cons (de_var 0) (da_cons (de_var 1) (da_cons (de_var 9) (da_cons (de_tup da_nil) (da_cons (de_lstH da_nil) da_nil)))))) de_int)) (dss_cons (ds_augI (i := 6) nd rfl (Or.inl rfl) (de_var 10) iop_add ol_I0) (dss_cons (ds_set (i := 11) nd rfl (Or.inl rfl) (de_dget hu (de_var 3) (de_op or_add ol_add (de_var 4) (de_tup (da_cons (de_var 8) da_nil))))) (dss_one (ds_augI (i := 7) nd rfl (Or.inl rfl) (de_if (dt_w (dw_and (dt_cmp op_notN ol_notN (de_var 11) de_non) (dw_and1 (dt_cmp op_in_seq ol_in (de_var 11) (de_call (F_takes.at hr) tk (da_cons (de_var 0) (da_cons (de_ix (de_var 5) de_int) da_nil))))))) (de_var 10) de_int) iop_add ol_I0)))))) (dss_one (ds_ret (de_cmp (or_eq hr.units) ol_eq (de_dget hu (de_var 3) (de_var 4)) (de_if (dt_truth (de_call (F_is_enough.at hr) tk (da_cons (de_var 0) (da_cons (de_ix (de_var 5) de_int) (da_cons (de_var 7) (da_cons (de_var 6) da_nil)))))) (de_ix (de_var 5) de_int) de_non))))))))

abbrev s_look_claims : Stmt := topS 17
abbrev N_look_claims : List Str := ["book", "heap", "tree", "claims", "paths", "some", "path", "land", "place", "claim"]
theorem sc_look_claims : FnScope N_look_claims ["book", "heap", "tree", "claims"] (defScope s_look_claims) := ⟨rfl, rfl, rfl, by decide +kernel, rfl, by decide +kernel, by decide +kernel⟩
theorem ok_look_claims {P : Program} {w : World} {K : PySem.W.Frag} {mg : Str → Option Value} {base : Heap} {f : Addr} {fd : FuncData} (F : Fun K "look_claims" "look_claims" s_look_claims f fd) (m_all : mg "all" = none) (m_any : mg "any" = none) (m_bool : mg "bool" = none) (m_isinstance : mg "isinstance" = none) (m_tuple : mg "tuple" = none) (F_all_counts : FnR P w K mg base 27 "all_counts" 3 S_all_countsX) (F_is_claim : FnR P w K mg base 3 "is_claim" 2 S_is_claim) (x_NoClaims : XcR K mg "NoClaims") :
    FnOk P w K mg base (L2.CX P w) 28 f fd ["book", "heap", "tree", "claims"] (spA K mg 4 S_look_claims) := by
  refine fn_mk (den := den_look_claims) F sc_look_claims (fun cdv A outer s H E B hr tk => ?_) (bo_look_claims N_look_claims rfl)
  have nd := sc_look_claims.nd
  exact (dss_cons (ds_if (dt_w (dw_or (dt_not (dt_truth (de_callB call_isi cl_isi rfl m_isinstance bt_isinstance (da_cons (de_var 3) (da_cons (de_ty rfl m_tuple bt_tuple) da_nil))))) (dw_or1 (dt_not (dt_truth (de_callB (cr_all rfl) cl_all rfl m_all bt_all (da_cons (de_lc (own := [("claim", 9)]) (t := (.nm 9)) rfl nd (di_any (de_var 3)) (blkOk_by (N := N_look_claims) (sc := defScope s_look_claims) (by decide +kernel)) (by decide) (fun _ _ _ _ _ => (gt_name (i := 9) nd rfl (Or.inl rfl))) (fun _ _ _ _ _ => dts_nil) (fun _ _ _ _ _ => (de_call (F_is_claim.at hr) takesF (da_cons (de_var 0) (da_cons (de_var 9) da_nil))))) da_nil))))))) (dss_one (ds_raise x_NoClaims tk)) dss_nil) (dss_cons (ds_setLc (i := 4) (own := [("path", 6), ("land", 7)]) (t := (.tp [(.nm 6), (.nm 7)])) false rfl rfl nd rfl rfl (sw_true rfl rfl rfl (by decide +kernel)) (di_any (de_call (F_all_counts.at hr) tk (da_cons (de_var 0) (da_cons (de_var 1) (da_cons (de_var 2) da_nil))))) (blkOk_by (N := N_look_claims) (sc := defScope s_look_claims) (by decide +kernel)) (by decide) (fun _ _ _ _ _ => (gt_tup rfl (gts_cons (gt_name (i := 6) nd rfl (Or.inl rfl)) (gts_cons (gt_name (i := 7) nd rfl (Or.inl rfl)) gts_nil)))) (fun _ _ _ _ _ => dts_nil) (fun _ _ _ _ _ => (de_var 6))) (dss_cons (ds_setLc (i := 5) (own := [("path", 6), ("land", 7)]) (t := (.tp [(.nm 6), (.nm 7)])) false rfl rfl nd rfl rfl (sw_true rfl rfl rfl (by decide +kernel)) (di_any (de_var 3)) (blkOk_by (N := N_look_claims) (sc := defScope s_look_claims) (by decide +kernel)) (by decide) (fun _ _ _ _ _ => (gt_tup rfl (gts_cons (gt_name (i := 6) nd rfl (Or.inl rfl)) (gts_cons (gt_name (i := 7) nd rfl (Or.inl rfl)) gts_nil)))) (fun _ _ _ _ _ => dts_nil) (fun _ _ _ _ _ => (de_var 6))) (dss_cons (ds_if (dt_w (dw_or (dt_cmp (or_ne hr.units) ol_ne (de_var 5) (de_var 4)) (dw_or1 (dt_not (dt_truth (de_callB (cr_all rfl) cl_all rfl m_all bt_all (da_cons (de_lc (own := [("path", 6)]) (t := (.nm 6)) rfl nd (di_any (de_var 5)) (blkOk_by (N := N_look_claims) (sc := defScope s_look_claims) (by decide +kernel)) (by decide) (fun _ _ _ _ _ => (gt_name (i := 6) nd rfl (Or.inl rfl))) (fun _ _ _ _ _ => dts_nil) (fun _ _ _ _ _ => (de_callB call_isi cl_isi rfl m_isinstance bt_isinstance (da_cons (de_var 6) (da_cons (de_ty rfl m_tuple bt_tuple) da_nil))))) da_nil))))))) (dss_one (ds_raise x_NoClaims tk)) dss_nil) (dss_one (ds_if (dt_truth (de_callB (cr_any rfl) cl_any rfl m_any bt_any (da_cons (de_lc2 (own := [("path", 6), ("place", 8)]) (vs1 := [8]) (t := (.nm 6)) (t1 := (.nm 8)) rfl nd (di_any (de_var 5)) (blkOk_by (N := N_look_claims) (sc := defScope s_look_claims) (by decide +kernel)) (by decide) (by decide) (by decide) (fun _ _ _ _ _ => (gt_name (i := 6) nd rfl (Or.inl rfl))) (fun _ _ _ _ _ => dts_nil) (fun _ _ _ _ _ => (di_any (de_var 6))) (fun _ _ _ _ _ => (gt_name (i := 8) nd rfl (Or.inl rfl))) (fun _ _ _ _ _ => dts_nil) (fun _ _ _ _ _ => (de_callB call_isi cl_isi rfl m_isinstance bt_isinstance (da_cons (de_var 8) (da_cons (de_ty rfl m_bool bt_bool) da_nil))))) da_nil))) (dss_one (ds_raise x_NoClaims tk)) dss_nil))))))

abbrev s_wrong_claims : Stmt := topS 18
abbrev N_wrong_claims : List Str := ["book", "heap", "tree", "claims", "told", "path", "land"]
theorem sc_wrong_claims : FnScope N_wrong_claims ["book", "heap", "tree", "claims"] (defScope s_wrong_claims) := ⟨rfl, rfl, rfl, by decide +kernel, rfl, by decide +kernel, by decide +kernel⟩
theorem ok_wrong_claims {P : Program} {w : World} {K : PySem.W.Frag} {mg : Str → Option Value} {base : Heap} {f : Addr} {fd : FuncData} (F : Fun K "wrong_claims" "wrong_claims" s_wrong_claims f fd) (m_dict : mg "dict" = none) (m_tuple : mg "tuple" = none) (F_all_counts : FnR P w K mg base 27 "all_counts" 3 S_all_countsX) (F_look_claims : FnR P w K mg base 28 "look_claims" 4 S_look_claims) :
    FnOk P w K mg base (L2.CX P w) 29 f fd ["book", "heap", "tree", "claims"] (spA K mg 4 S_wrong_claims) := by
  refine fn_mk (den := den_wrong_claims) F sc_wrong_claims (fun cdv A outer s H E B hr tk => ?_) (bo_wrong_claims N_wrong_claims rfl)
  have nd := sc_wrong_claims.nd
  have hu := hu_of hr
  have hu2 := hu2_of hr
  exact (dss_cons (ds_expr (de_call (F_look_claims.at hr) tk (da_cons (de_var 0) (da_cons (de_var 1) (da_cons (de_var 2) (da_cons (de_var 3) da_nil)))))) (dss_cons (ds_set (i := 4) nd rfl (Or.inr rfl) (de_callTy (call_dictTT rfl hu2) cl_dictTT rfl m_dict bt_dict (da_cons (de_call (F_all_counts.at hr) tk (da_cons (de_var 0) (da_cons (de_var 1) (da_cons (de_var 2) da_nil)))) da_nil))) (dss_one (ds_ret (de_callTy call_tuple_of cl_tuple rfl m_tuple bt_tuple (da_cons (de_lc (own := [("path", 5), ("land", 6)]) (t := (.tp [(.nm 5), (.nm 6)])) rfl nd (di_any (de_var 3)) (blkOk_by (N := N_wrong_claims) (sc := defScope s_wrong_claims) (by decide +kernel)) (by decide) (fun _ _ _ _ _ => (gt_tup rfl (gts_cons (gt_name (i := 5) nd rfl (Or.inl rfl)) (gts_cons (gt_name (i := 6) nd rfl (Or.inl rfl)) gts_nil)))) (fun _ _ _ _ _ => (dts_one (dt_cmp (or_ne hr.units) ol_ne (de_var 6) (de_dget hu (de_var 4) (de_var 5))))) (fun _ _ _ _ _ => (de_var 5))) da_nil))))))

abbrev s_first_wrongs : Stmt := topS 20
abbrev N_first_wrongs : List Str := ["book", "heap", "tree", "claims", "told", "path", "land"]
theorem sc_first_wrongs : FnScope N_first_wrongs ["book", "heap", "tree", "claims"] (defScope s_first_wrongs) := ⟨rfl, rfl, rfl, by decide +kernel, rfl, by decide +kernel, by decide +kernel⟩
theorem ok_first_wrongs {P : Program} {w : World} {K : PySem.W.Frag} {mg : Str → Option Value} {base : Heap} {f : Addr} {fd : FuncData} (F : Fun K "first_wrongs" "first_wrongs" s_first_wrongs f fd) (m_dict : mg "dict" = none) (m_tuple : mg "tuple" = none) (F_follows : FnR P w K mg base 27 "follows" 5 S_follows) (F_look_claims : FnR P w K mg base 28 "look_claims" 4 S_look_claims) :
    FnOk P w K mg base (L2.CX P w) 29 f fd ["book", "heap", "tree", "claims"] (spA K mg 4 S_first_wrongs) := by
  refine fn_mk (den := den_first_wrongs) F sc_first_wrongs (fun cdv A outer s H E B hr tk => ?_) (bo_first_wrongs N_first_wrongs rfl)
  have nd := sc_first_wrongs.nd
  have hu2 := hu2_of hr
  exact (dss_cons (ds_expr (de_call (F_look_claims.at hr) tk (da_cons (de_var 0) (da_cons (de_var 1) (da_cons (de_var 2) (da_cons (de_var 3) da_nil)))))) (dss_cons (ds_set (i := 4) nd rfl (Or.inr rfl) (de_callTy (call_dictTT rfl hu2) cl_dictTT rfl m_dict bt_dict (da_cons (de_var 3) da_nil))) (dss_one (ds_ret (de_callTy call_tuple_of cl_tuple rfl m_tuple bt_tuple (da_cons (de_lc (own := [("path", 5), ("land", 6)]) (t := (.tp [(.nm 5), (.nm 6)])) rfl nd (di_any (de_var 3)) (blkOk_by (N := N_first_wrongs) (sc := defScope s_first_wrongs) (by decide +kernel)) (by decide) (fun _ _ _ _ _ => (gt_tup rfl (gts_cons (gt_name (i := 5) nd rfl (Or.inl rfl)) (gts_cons (gt_name (i := 6) nd rfl (Or.inl rfl)) gts_nil)))) (fun _ _ _ _ _ => (dts_one (dt_not (dt_truth (de_call (F_follows.at hr) takesF (da_cons (de_var 0) (da_cons (de_var 1) (da_cons (de_var 2) (da_cons (de_var 4) (da_cons (de_var 5) da_nil)))))))))) (fun _ _ _ _ _ => (de_var 5))) da_nil))))))

abbrev s__law_mended : Stmt := topS 33
abbrev N__law_mended : List Str := ["book", "heap", "tree", "claims", "told", "turns", "some", "path", "part"]
theorem sc__law_mended : FnScope N__law_mended ["book", "heap", "tree", "claims"] (defScope s__law_mended) := ⟨rfl, rfl, rfl, by decide +kernel, rfl, by decide +kernel, by decide +kernel⟩
theorem ok__law_mended {P : Program} {w : World} {K : PySem.W.Frag} {mg : Str → Option Value} {base : Heap} {f : Addr} {fd : FuncData} (F : Fun K "_law_mended" "_law_mended" s__law_mended f fd) {G : Gx} (m_dict : mg "dict" = none) (m_len : mg "len" = none) (m_max : mg "max" = none) (m_sorted : mg "sorted" = none) (m_tuple : mg "tuple" = none) (F__law_at : FnR P w K mg base 1 "_law_at" 2 S__law_at) (F_counts_as : FnR P w K mg base 27 "counts_as" 3 S_counts_as) (F_first_wrongs : FnR P w K mg base 29 "first_wrongs" 4 S_first_wrongs) {c : Addr} (hcode : ∀ cdv, fd.code = cdv → cdv = .ref c) (TB : LamX.TabB base mg c (G.T "_law_mended")) :
    FnOk P w K mg base (L2.CX P w) 30 f fd ["book", "heap", "tree", "claims"] (spA K mg 4 (S__law_mended G)) := by
  refine fn_mkC (den := (den__law_mended G)) F sc__law_mended (fun cdv A outer s H E B hc hr tk => ?_) (bo__law_mended G N__law_mended rfl)
  have nd := sc__law_mended.nd
  have hu := hu_of hr
  have hu2 := hu2_of hr
  exact (dss_cons (ds_par2 (i := 4) (j := 5) rfl nd rfl rfl (by decide) rfl rfl (da_cons (de_callTy (call_dictTT rfl hu2) cl_dictTT rfl m_dict bt_dict (da_cons (de_var 3) da_nil)) (da_cons de_int da_nil))) (dss_cons (ds_while (passes_of rfl) (dt_cmp op_lt ol_B0 (de_var 5) de_int) (dss_cons (ds_set (i := 6) nd rfl (Or.inl rfl) (de_call (F_first_wrongs.at hr) tk (da_cons (de_var 0) (da_cons (de_var 1) (da_cons (de_var 2) (da_cons (de_callTy call_tupleF cl_tupleF rfl m_tuple bt_tuple (da_cons (de_sortIt rfl hr.units m_sorted (de_var 4)) da_nil)) da_nil)))))) (dss_cons (ds_if (dt_cmp (or_eq hr.units) ol_eq (de_var 6) (de_tup da_nil)) (dss_one (ds_ret (de_tup (da_cons (de_var 4) (da_cons (de_var 5) da_nil))))) dss_nil) (dss_cons (ds_set (i := 7) nd rfl (Or.inl rfl) (de_maxK (a := "one") m_max TB (hcode cdv hc) hr (da_cons (de_var 6) da_nil) ⟨rfl, rfl, rfl, by decide +kernel, rfl, by decide +kernel, by decide +kernel⟩ (fun _ => rfl) (fun A outer s H E f c' B' hr tk => (de_tup (da_cons (de_callB call_len cl_len rfl m_len bt_len (da_cons (de_var 0) da_nil)) (da_cons (de_var 0) da_nil)))))) (dss_cons (ds_set (i := 8) nd rfl (Or.inl rfl) (de_call (F__law_at.at hr) tk (da_cons (de_var 2) (da_cons (de_var 7) da_nil)))) (dss_cons (ds_dput hu (de_var 4) (de_var 7) (de_call (F_counts_as.at hr) tk (da_cons (de_var 0) (da_cons (de_var 1) (da_cons (de_var 8) da_nil))))) (dss_one (ds_set (i := 5) nd rfl (Or.inl rfl) (de_op or_add ol_add (de_var 5) de_int))))))))) (dss_one (ds_ret (de_tup (da_cons (de_var 4) (da_cons (de_var 5) da_nil)))))))

abbrev s_law : Stmt := topS 34
abbrev N_law : List Str := ["script", "town", "k", "book", "heap", "tree", "truth", "names", "claims", "j", "place", "wrong", "first", "path", "parts", "told", "turns", "one", "land", "worth"]
theorem sc_law : FnScope N_law ["script"] (defScope s_law) := ⟨rfl, rfl, rfl, by decide +kernel, rfl, by decide +kernel, by decide +kernel⟩
theorem ok_law {P : Program} {w : World} {K : PySem.W.Frag} {mg : Str → Option Value} {base : Heap} {f : Addr} {fd : FuncData} (F : Fun K "law" "law" s_law f fd) {G : Gx} (m_len : mg "len" = none) (m_list : mg "list" = none) (m_range : mg "range" = none) (m_sorted : mg "sorted" = none) (m_sum : mg "sum" = none) (m_tuple : mg "tuple" = none) (F__law_a_book : FnR P w K mg base 2 "_law_a_book" 2 S__law_a_book) (F__law_a_heap : FnR P w K mg base 2 "_law_a_heap" 4 S__law_a_heap) (F__law_a_tree : FnR P w K mg base 2 "_law_a_tree" 4 S__law_a_tree) (F__law_begun : FnR P w K mg base 1 "_law_begun" 0 S__law_begun) (F__law_draw : FnR P w K mg base 1 "_law_draw" 3 S__law_draw) (F__law_mended : FnR P w K mg base 30 "_law_mended" 4 (S__law_mended G)) (F_all_counts : FnR P w K mg base 27 "all_counts" 3 S_all_countsX) (F_counting_worth : FnR P w K mg base 27 "counting_worth" 3 S_counting_worth) (F_first_wrongs : FnR P w K mg base 29 "first_wrongs" 4 S_first_wrongs) (F_wrong_claims : FnR P w K mg base 29 "wrong_claims" 4 S_wrong_claims) :
    FnOk P w K mg base (L2.CX P w) 31 f fd ["script"] (spA K mg 1 (S_lawN ["_law_mended"] G)) := by
  refine fn_mk (den := (den_law G)) F sc_law (fun cdv A outer s H E B hr tk => ?_) (bo_law G N_law rfl)
  have nd := sc_law.nd
  exact (dss_cons (ds_set (i := 1) nd rfl (Or.inl rfl) (de_call0 (F__law_begun.at hr) tk)) (dss_cons (ds_for (t := (.nm 2)) (passes_of rfl) rfl (di_range1 rfl m_range (da_cons de_int da_nil)) (gt_name (i := 2) nd rfl (Or.inl rfl)) (dss_cons (ds_set (i := 3) nd rfl (Or.inl rfl) (de_call (F__law_a_book.at hr) tk (da_cons (de_var 0) (da_cons (de_var 1) da_nil)))) (dss_cons (ds_set (i := 4) nd rfl (Or.inl rfl) (de_call (F__law_a_heap.at hr) tk (da_cons (de_var 0) (da_cons (de_var 1) (da_cons (de_var 3) (da_cons de_int da_nil)))))) (dss_cons (ds_set (i := 5) nd rfl (Or.inl rfl) (de_call (F__law_a_tree.at hr) tk (da_cons (de_var 0) (da_cons (de_var 1) (da_cons (de_var 3) (da_cons (de_listRange rfl m_list rfl m_range (de_callB call_len cl_len rfl m_len bt_len (da_cons (de_var 4) da_nil))) da_nil)))))) (dss_cons (ds_par2 (i := 6) (j := 7) rfl nd rfl rfl (by decide) rfl rfl (da_cons (de_call (F_all_counts.at hr) tk (da_cons (de_var 3) (da_cons (de_var 4) (da_cons (de_var 5) da_nil)))) (da_cons (de_op or_add ol_add (de_lc (own := [("land", 18)]) (t := (.nm 18)) rfl nd (di_any (de_ix (de_var 3) de_int)) (blkOk_by (N := N_law) (sc := defScope s_law) (by decide +kernel)) (by decide) (fun _ _ _ _ _ => (gt_name (i := 18) nd rfl (Or.inl rfl))) (fun _ _ _ _ _ => dts_nil) (fun _ _ _ _ _ => (de_ix (de_var 18) de_int))) (de_lst (da_cons de_non da_nil))) da_nil))) (dss_cons (ds_set (i := 8) nd rfl (Or.inl rfl) (de_callTy call_list_of cl_listH rfl m_list bt_list (da_cons (de_var 6) da_nil))) (dss_cons (ds_for (t := (.nm 9)) (passes_of rfl) rfl (di_range1 rfl m_range (da_cons (de_call (F__law_draw.at hr) tk (da_cons (de_var 0) (da_cons (de_var 1) (da_cons de_int da_nil)))) da_nil)) (gt_name (i := 9) nd rfl (Or.inl rfl)) (dss_cons (ds_set (i := 10) nd rfl (Or.inl rfl) (de_call (F__law_draw.at hr) tk (da_cons (de_var 0) (da_cons (de_var 1) (da_cons (de_callB call_len cl_len rfl m_len bt_len (da_cons (de_var 8) da_nil)) da_nil))))) (dss_one (ds_lput (de_var 8) (de_var 10) (de_tup (da_cons (de_ix (de_ix (de_var 8) (de_var 10)) de_int) (da_cons (de_ix (de_var 7) (de_call (F__law_draw.at hr) tk (da_cons (de_var 0) (da_cons (de_var 1) (da_cons (de_callB call_len cl_len rfl m_len bt_len (da_cons (de_var 7) da_nil)) da_nil))))) da_nil))))))) (dss_cons (ds_set (i := 8) nd rfl (Or.inl rfl) (de_callTy call_tupleF cl_tupleF rfl m_tuple bt_tuple (da_cons (de_var 8) da_nil))) (dss_cons (ds_par2 (i := 11) (j := 12) rfl nd rfl rfl (by decide) rfl rfl (da_cons (de_call (F_wrong_claims.at hr) tk (da_cons (de_var 3) (da_cons (de_var 4) (da_cons (de_var 5) (da_cons (de_var 8) da_nil))))) (da_cons (de_call (F_first_wrongs.at hr) tk (da_cons (de_var 3) (da_cons (de_var 4) (da_cons (de_var 5) (da_cons (de_var 8) da_nil))))) da_nil))) (dss_cons (ds_if (dt_w (dw_or (dt_cmp (or_ne hr.units) ol_ne (de_cmp (or_eq hr.units) ol_eq (de_var 11) (de_tup da_nil)) (de_cmp (or_eq hr.units) ol_eq (de_var 12) (de_tup da_nil))) (dw_or1 (dt_cmp (or_ne hr.units) ol_ne (de_cmp (or_eq hr.units) ol_eq (de_var 8) (de_var 6)) (de_cmp (or_eq hr.units) ol_eq (de_var 11) (de_tup da_nil)))))) (dss_one (ds_ret de_bl)) dss_nil) (dss_cons (ds_for (t := (.nm 13)) (passes_of rfl) rfl (di_any (de_var 11)) (gt_name (i := 13) nd rfl (Or.inr rfl)) (dss_one (ds_if (dt_cmp (or_eq hr.units) ol_eq (de_lc (own := [("one", 17)]) (t := (.nm 17)) rfl nd (di_any (de_var 12)) (blkOk_by (N := N_law) (sc := defScope s_law) (by decide +kernel)) (by decide) (fun _ _ _ _ _ => (gt_name (i := 17) nd rfl (Or.inl rfl))) (fun _ _ _ _ _ => (dts_one (dt_cmp (or_eq hr.units) ol_eq (de_slice (de_var 17) do_none (do_some (de_callB call_len cl_len rfl m_len bt_len (da_cons (de_var 13) da_nil)))) (de_var 13)))) (fun _ _ _ _ _ => (de_var 17))) (de_lst da_nil)) (dss_one (ds_ret de_bl)) dss_nil))) (dss_cons (ds_for (t := (.nm 13)) (passes_of rfl) rfl (di_any (de_var 12)) (gt_name (i := 13) nd rfl (Or.inr rfl)) (dss_cons (ds_setLc (i := 14) (own := [("one", 17)]) (t := (.nm 17)) false rfl rfl nd rfl rfl (sw_true rfl rfl rfl (by decide +kernel)) (di_any (de_var 11)) (blkOk_by (N := N_law) (sc := defScope s_law) (by decide +kernel)) (by decide) (fun _ _ _ _ _ => (gt_name (i := 17) nd rfl (Or.inl rfl))) (fun _ _ _ _ _ => (dts_one (dt_w (dw_and (dt_cmp (or_eq hr.units) ol_eq (de_callB call_len cl_len rfl m_len bt_len (da_cons (de_var 17) da_nil)) (de_op or_add ol_add (de_callB call_len cl_len rfl m_len bt_len (da_cons (de_var 13) da_nil)) de_int)) (dw_and1 (dt_cmp (or_eq hr.units) ol_eq (de_slice (de_var 17) do_none (do_some (de_un un_neg ul_neg de_int))) (de_var 13))))))) (fun _ _ _ _ _ => (de_var 17))) (dss_one (ds_if (dt_w (dw_and (dt_cmp (op_notInT (u65 hr)) ol_notInT (de_var 13) (de_var 11)) (dw_and1 (dt_cmp (or_eq hr.units) ol_eq (de_var 14) (de_lst da_nil))))) (dss_one (ds_ret de_bl)) dss_nil)))) (dss_cons (ds_asg (t := (.tp [(.nm 15), (.nm 16)])) (de_call (F__law_mended.at hr) tk (da_cons (de_var 3) (da_cons (de_var 4) (da_cons (de_var 5) (da_cons (de_var 8) da_nil))))) (gt_tup rfl (gts_cons (gt_name (i := 15) nd rfl (Or.inl rfl)) (gts_cons (gt_name (i := 16) nd rfl (Or.inl rfl)) gts_nil)))) (dss_cons (ds_if (dt_w (dw_or (dt_cmp (or_ne hr.units) ol_ne (de_callTy call_tuple_of cl_tuple rfl m_tuple bt_tuple (da_cons (de_sortIt rfl hr.units m_sorted (de_var 15)) da_nil)) (de_var 6)) (dw_or1 (dt_cmp op_gt ol_B0 (de_var 16) (de_callB call_len cl_len rfl m_len bt_len (da_cons (de_var 11) da_nil)))))) (dss_one (ds_ret de_bl)) dss_nil) (dss_one (ds_if (dt_cmp op_gt ol_B0 (de_call (F_counting_worth.at hr) tk (da_cons (de_var 3) (da_cons (de_var 4) (da_cons (de_var 5) da_nil)))) (de_callB (cr_sum rfl) cl_sum rfl m_sum bt_sum (da_cons (de_lc (own := [("worth", 19), ("land", 18)]) (t := (.tp [(.nm 19), (.nm 18)])) rfl nd (di_any (de_var 4)) (blkOk_by (N := N_law) (sc := defScope s_law) (by decide +kernel)) (by decide) (fun _ _ _ _ _ => (gt_tup rfl (gts_cons (gt_name (i := 19) nd rfl (Or.inl rfl)) (gts_cons (gt_name (i := 18) nd rfl (Or.inl rfl)) gts_nil)))) (fun _ _ _ _ _ => dts_nil) (fun _ _ _ _ _ => (de_var 19))) da_nil))) (dss_one (ds_ret de_bl)) dss_nil)))))))))))))))) (dss_one (ds_ret de_bl))))

abbrev hFa : List He.Fa := [.glo "names_of", .glo "row_of", .glo "takes", .glo "tree_at", .glo "_law_draw", .glo "_law_begun", .glo "_law_at", .glo "is_enough", .glo "is_none_or_land", .glo "_law_a_book", .glo "_law_a_heap", .glo "_law_a_tree", .glo "is_claim", .glo "valued", .glo "counts_as", .glo "counting_worth", .glo "all_counts", .glo "follows", .glo "look_claims", .glo "wrong_claims", .glo "first_wrongs", .glo "_law_mended", .glo "law", .free "all", .free "any", .free "bool", .free "dict", .free "enumerate", .free "isinstance", .free "len", .free "list", .free "max", .free "min", .free "range", .free "sorted", .free "str", .free "sum", .free "tuple"]
abbrev dd_names_of : He.DefD := ⟨("names_of", none), "names_of", "names_of", defArgs s_names_of, defBody s_names_of, defScope s_names_of, [], []⟩
abbrev dd_row_of : He.DefD := ⟨("row_of", none), "row_of", "row_of", defArgs s_row_of, defBody s_row_of, defScope s_row_of, [], []⟩
abbrev dd_takes : He.DefD := ⟨("takes", none), "takes", "takes", defArgs s_takes, defBody s_takes, defScope s_takes, [], []⟩
abbrev dd_tree_at : He.DefD := ⟨("tree_at", none), "tree_at", "tree_at", defArgs s_tree_at, defBody s_tree_at, defScope s_tree_at, [], []⟩
abbrev dd__law_draw : He.DefD := ⟨("_law_draw", none), "_law_draw", "_law_draw", defArgs s__law_draw, defBody s__law_draw, defScope s__law_draw, [], []⟩
abbrev dd__law_begun : He.DefD := ⟨("_law_begun", none), "_law_begun", "_law_begun", defArgs s__law_begun, defBody s__law_begun, defScope s__law_begun, [], []⟩
abbrev dd__law_at : He.DefD := ⟨("_law_at", none), "_law_at", "_law_at", defArgs s__law_at, defBody s__law_at, defScope s__law_at, [], []⟩
abbrev dd_is_enough : He.DefD := ⟨("is_enough", none), "is_enough", "is_enough", defArgs s_is_enough, defBody s_is_enough, defScope s_is_enough, [], []⟩
abbrev dd_is_none_or_land : He.DefD := ⟨("is_none_or_land", none), "is_none_or_land", "is_none_or_land", defArgs s_is_none_or_land, defBody s_is_none_or_land, defScope s_is_none_or_land, [], []⟩
abbrev dd__law_a_book : He.DefD := ⟨("_law_a_book", none), "_law_a_book", "_law_a_book", defArgs s__law_a_book, defBody s__law_a_book, defScope s__law_a_book, [], []⟩
abbrev dd__law_a_heap : He.DefD := ⟨("_law_a_heap", none), "_law_a_heap", "_law_a_heap", defArgs s__law_a_heap, defBody s__law_a_heap, defScope s__law_a_heap, [], []⟩
abbrev dd__law_a_tree : He.DefD := ⟨("_law_a_tree", none), "_law_a_tree", "_law_a_tree", defArgs s__law_a_tree, defBody s__law_a_tree, defScope s__law_a_tree, [], []⟩
abbrev dd_is_claim : He.DefD := ⟨("is_claim", none), "is_claim", "is_claim", defArgs s_is_claim, defBody s_is_claim, defScope s_is_claim, [], []⟩
abbrev dd_valued : He.DefD := ⟨("valued", none), "valued", "valued", defArgs s_valued, defBody s_valued, defScope s_valued, [], []⟩
abbrev dd_counts_as : He.DefD := ⟨("counts_as", none), "counts_as", "counts_as", defArgs s_counts_as, defBody s_counts_as, defScope s_counts_as, [], []⟩
abbrev dd_counting_worth : He.DefD := ⟨("counting_worth", none), "counting_worth", "counting_worth", defArgs s_counting_worth, defBody s_counting_worth, defScope s_counting_worth, [], []⟩
abbrev dd_all_counts : He.DefD := ⟨("all_counts", none), "all_counts", "all_counts", defArgs s_all_counts, defBody s_all_counts, defScope s_all_counts, [], []⟩
abbrev dd_follows : He.DefD := ⟨("follows", none), "follows", "follows", defArgs s_follows, defBody s_follows, defScope s_follows, [], []⟩
abbrev dd_look_claims : He.DefD := ⟨("look_claims", none), "look_claims", "look_claims", defArgs s_look_claims, defBody s_look_claims, defScope s_look_claims, [], []⟩
abbrev dd_wrong_claims : He.DefD := ⟨("wrong_claims", none), "wrong_claims", "wrong_claims", defArgs s_wrong_claims, defBody s_wrong_claims, defScope s_wrong_claims, [], []⟩
abbrev dd_first_wrongs : He.DefD := ⟨("first_wrongs", none), "first_wrongs", "first_wrongs", defArgs s_first_wrongs, defBody s_first_wrongs, defScope s_first_wrongs, [], []⟩
abbrev dd__law_mended : He.DefD := ⟨("_law_mended", none), "_law_mended", "_law_mended", defArgs s__law_mended, defBody s__law_mended, defScope s__law_mended, [], []⟩
abbrev dd_law : He.DefD := ⟨("law", none), "law", "law", defArgs s_law, defBody s_law, defScope s_law, [], []⟩
abbrev hFn : List He.DefD := [dd_names_of, dd_row_of, dd_takes, dd_tree_at, dd__law_draw, dd__law_begun, dd__law_at, dd_is_enough, dd_is_none_or_land, dd__law_a_book, dd__law_a_heap, dd__law_a_tree, dd_is_claim, dd_valued, dd_counts_as, dd_counting_worth, dd_all_counts, dd_follows, dd_look_claims, dd_wrong_claims, dd_first_wrongs, dd__law_mended, dd_law]
abbrev hTf : List He.Defn := [("_law_mended", none)]
abbrev gDn (n : Str) : He.Defn := (n, none)
abbrev gNs : List Str := ["_law_mended"]
abbrev gx (w : World) (K : PySem.W.Frag) : Gx := ⟨gNs, fun n => (He.cT K (gDn n)).2, He.ga K, w⟩
theorem gx_ts (w : World) (K : PySem.W.Frag) : (gx w K).Ts.map (·.1) = hTf.map fun p => (He.cT K p).2 := rfl
theorem all_mk {l : PySem.W.OpenLaw} {w : World} {K : PySem.W.Frag} {h : Heap} {mg : Str → Option Value} {f : Addr} (X : K.In h) (G : h.Ns mainGlobals mg) (hfa : mg "law" = some (.ref f)) (c : He.SaysX hFa hFn [] hTf (exX ["NoClaims"] hTf) w h K) :
    ∃ fd : FuncData, (∀ (s : Shared) (u : Value), BindsTo s fd ⟨[u], []⟩ [("script", u)]) ∧ ∀ base : Heap, K.In base → base.Ns mainGlobals mg → (∀ p ∈ hTf, LamX.TabB base mg (He.cT K p).1 (He.cT K p).2) → FnOk l.prog w K mg base (L2.CX l.prog w) 31 f fd ["script"] (spLawT K (hTf.map fun p => (He.cT K p).2)) := by
  have cd : He.SaysD hFa hFn K := congrArg Prod.fst c.t
  obtain ⟨xc, cnd⟩ := exX_ok X G c.more
  have g_names_of : mg "names_of" = some (.ref (He.fAd K ("names_of", none))) := He.glo_ok X G (cd.fact 0 (f := .glo "names_of") rfl)
  have g_row_of : mg "row_of" = some (.ref (He.fAd K ("row_of", none))) := He.glo_ok X G (cd.fact 1 (f := .glo "row_of") rfl)
  have g_takes : mg "takes" = some (.ref (He.fAd K ("takes", none))) := He.glo_ok X G (cd.fact 2 (f := .glo "takes") rfl)
  have g_tree_at : mg "tree_at" = some (.ref (He.fAd K ("tree_at", none))) := He.glo_ok X G (cd.fact 3 (f := .glo "tree_at") rfl)
  have g__law_draw : mg "_law_draw" = some (.ref (He.fAd K ("_law_draw", none))) := He.glo_ok X G (cd.fact 4 (f := .glo "_law_draw") rfl)
  have g__law_begun : mg "_law_begun" = some (.ref (He.fAd K ("_law_begun", none))) := He.glo_ok X G (cd.fact 5 (f := .glo "_law_begun") rfl)
  have g__law_at : mg "_law_at" = some (.ref (He.fAd K ("_law_at", none))) := He.glo_ok X G (cd.fact 6 (f := .glo "_law_at") rfl)
  have g_is_enough : mg "is_enough" = some (.ref (He.fAd K ("is_enough", none))) := He.glo_ok X G (cd.fact 7 (f := .glo "is_enough") rfl)
  have g_is_none_or_land : mg "is_none_or_land" = some (.ref (He.fAd K ("is_none_or_land", none))) := He.glo_ok X G (cd.fact 8 (f := .glo "is_none_or_land") rfl)
  have g__law_a_book : mg "_law_a_book" = some (.ref (He.fAd K ("_law_a_book", none))) := He.glo_ok X G (cd.fact 9 (f := .glo "_law_a_book") rfl)
  have g__law_a_heap : mg "_law_a_heap" = some (.ref (He.fAd K ("_law_a_heap", none))) := He.glo_ok X G (cd.fact 10 (f := .glo "_law_a_heap") rfl)
  have g__law_a_tree : mg "_law_a_tree" = some (.ref (He.fAd K ("_law_a_tree", none))) := He.glo_ok X G (cd.fact 11 (f := .glo "_law_a_tree") rfl)
  have g_is_claim : mg "is_claim" = some (.ref (He.fAd K ("is_claim", none))) := He.glo_ok X G (cd.fact 12 (f := .glo "is_claim") rfl)
  have g_valued : mg "valued" = some (.ref (He.fAd K ("valued", none))) := He.glo_ok X G (cd.fact 13 (f := .glo "valued") rfl)
  have g_counts_as : mg "counts_as" = some (.ref (He.fAd K ("counts_as", none))) := He.glo_ok X G (cd.fact 14 (f := .glo "counts_as") rfl)
  have g_counting_worth : mg "counting_worth" = some (.ref (He.fAd K ("counting_worth", none))) := He.glo_ok X G (cd.fact 15 (f := .glo "counting_worth") rfl)
  have g_all_counts : mg "all_counts" = some (.ref (He.fAd K ("all_counts", none))) := He.glo_ok X G (cd.fact 16 (f := .glo "all_counts") rfl)
  have g_follows : mg "follows" = some (.ref (He.fAd K ("follows", none))) := He.glo_ok X G (cd.fact 17 (f := .glo "follows") rfl)
  have g_look_claims : mg "look_claims" = some (.ref (He.fAd K ("look_claims", none))) := He.glo_ok X G (cd.fact 18 (f := .glo "look_claims") rfl)
  have g_wrong_claims : mg "wrong_claims" = some (.ref (He.fAd K ("wrong_claims", none))) := He.glo_ok X G (cd.fact 19 (f := .glo "wrong_claims") rfl)
  have g_first_wrongs : mg "first_wrongs" = some (.ref (He.fAd K ("first_wrongs", none))) := He.glo_ok X G (cd.fact 20 (f := .glo "first_wrongs") rfl)
  have g__law_mended : mg "_law_mended" = some (.ref (He.fAd K ("_law_mended", none))) := He.glo_ok X G (cd.fact 21 (f := .glo "_law_mended") rfl)
  have g_law : mg "law" = some (.ref (He.fAd K ("law", none))) := He.glo_ok X G (cd.fact 22 (f := .glo "law") rfl)
  have m_all := He.free_ok X G (cd.fact 23 (f := .free "all") rfl)
  have m_any := He.free_ok X G (cd.fact 24 (f := .free "any") rfl)
  have m_bool := He.free_ok X G (cd.fact 25 (f := .free "bool") rfl)
  have m_dict := He.free_ok X G (cd.fact 26 (f := .free "dict") rfl)
  have m_enumerate := He.free_ok X G (cd.fact 27 (f := .free "enumerate") rfl)
  have m_isinstance := He.free_ok X G (cd.fact 28 (f := .free "isinstance") rfl)
  have m_len := He.free_ok X G (cd.fact 29 (f := .free "len") rfl)
  have m_list := He.free_ok X G (cd.fact 30 (f := .free "list") rfl)
  have m_max := He.free_ok X G (cd.fact 31 (f := .free "max") rfl)
  have m_min := He.free_ok X G (cd.fact 32 (f := .free "min") rfl)
  have m_range := He.free_ok X G (cd.fact 33 (f := .free "range") rfl)
  have m_sorted := He.free_ok X G (cd.fact 34 (f := .free "sorted") rfl)
  have m_str := He.free_ok X G (cd.fact 35 (f := .free "str") rfl)
  have m_sum := He.free_ok X G (cd.fact 36 (f := .free "sum") rfl)
  have m_tuple := He.free_ok X G (cd.fact 37 (f := .free "tuple") rfl)
  have x_NoClaims := xc "NoClaims" (by decide +kernel)
  obtain ⟨fd_names_of, D_names_of⟩ := cd.def_ 0 (d := dd_names_of) rfl
  have G_names_of : Fun K "names_of" "names_of" s_names_of (He.fAd K ("names_of", none)) fd_names_of := fun_of D_names_of
  obtain ⟨fd_row_of, D_row_of⟩ := cd.def_ 1 (d := dd_row_of) rfl
  have G_row_of : Fun K "row_of" "row_of" s_row_of (He.fAd K ("row_of", none)) fd_row_of := fun_of D_row_of
  obtain ⟨fd_takes, D_takes⟩ := cd.def_ 2 (d := dd_takes) rfl
  have G_takes : Fun K "takes" "takes" s_takes (He.fAd K ("takes", none)) fd_takes := fun_of D_takes
  obtain ⟨fd_tree_at, D_tree_at⟩ := cd.def_ 3 (d := dd_tree_at) rfl
  have G_tree_at : Fun K "tree_at" "tree_at" s_tree_at (He.fAd K ("tree_at", none)) fd_tree_at := fun_of D_tree_at
  obtain ⟨fd__law_draw, D__law_draw⟩ := cd.def_ 4 (d := dd__law_draw) rfl
  have G__law_draw : Fun K "_law_draw" "_law_draw" s__law_draw (He.fAd K ("_law_draw", none)) fd__law_draw := fun_of D__law_draw
  obtain ⟨fd__law_begun, D__law_begun⟩ := cd.def_ 5 (d := dd__law_begun) rfl
  have G__law_begun : Fun K "_law_begun" "_law_begun" s__law_begun (He.fAd K ("_law_begun", none)) fd__law_begun := fun_of D__law_begun
  obtain ⟨fd__law_at, D__law_at⟩ := cd.def_ 6 (d := dd__law_at) rfl
  have G__law_at : Fun K "_law_at" "_law_at" s__law_at (He.fAd K ("_law_at", none)) fd__law_at := fun_of D__law_at
  obtain ⟨fd_is_enough, D_is_enough⟩ := cd.def_ 7 (d := dd_is_enough) rfl
  have G_is_enough : Fun K "is_enough" "is_enough" s_is_enough (He.fAd K ("is_enough", none)) fd_is_enough := fun_of D_is_enough
  obtain ⟨fd_is_none_or_land, D_is_none_or_land⟩ := cd.def_ 8 (d := dd_is_none_or_land) rfl
  have G_is_none_or_land : Fun K "is_none_or_land" "is_none_or_land" s_is_none_or_land (He.fAd K ("is_none_or_land", none)) fd_is_none_or_land := fun_of D_is_none_or_land
  obtain ⟨fd__law_a_book, D__law_a_book⟩ := cd.def_ 9 (d := dd__law_a_book) rfl
  have G__law_a_book : Fun K "_law_a_book" "_law_a_book" s__law_a_book (He.fAd K ("_law_a_book", none)) fd__law_a_book := fun_of D__law_a_book
  obtain ⟨fd__law_a_heap, D__law_a_heap⟩ := cd.def_ 10 (d := dd__law_a_heap) rfl
  have G__law_a_heap : Fun K "_law_a_heap" "_law_a_heap" s__law_a_heap (He.fAd K ("_law_a_heap", none)) fd__law_a_heap := fun_of D__law_a_heap
  obtain ⟨fd__law_a_tree, D__law_a_tree⟩ := cd.def_ 11 (d := dd__law_a_tree) rfl
  have G__law_a_tree : Fun K "_law_a_tree" "_law_a_tree" s__law_a_tree (He.fAd K ("_law_a_tree", none)) fd__law_a_tree := fun_of D__law_a_tree
  obtain ⟨fd_is_claim, D_is_claim⟩ := cd.def_ 12 (d := dd_is_claim) rfl
  have G_is_claim : Fun K "is_claim" "is_claim" s_is_claim (He.fAd K ("is_claim", none)) fd_is_claim := fun_of D_is_claim
  obtain ⟨fd_valued, D_valued⟩ := cd.def_ 13 (d := dd_valued) rfl
  have G_valued : Fun K "valued" "valued" s_valued (He.fAd K ("valued", none)) fd_valued := fun_of D_valued
  obtain ⟨fd_counts_as, D_counts_as⟩ := cd.def_ 14 (d := dd_counts_as) rfl
  have G_counts_as : Fun K "counts_as" "counts_as" s_counts_as (He.fAd K ("counts_as", none)) fd_counts_as := fun_of D_counts_as
  obtain ⟨fd_counting_worth, D_counting_worth⟩ := cd.def_ 15 (d := dd_counting_worth) rfl
  have G_counting_worth : Fun K "counting_worth" "counting_worth" s_counting_worth (He.fAd K ("counting_worth", none)) fd_counting_worth := fun_of D_counting_worth
  obtain ⟨fd_all_counts, D_all_counts⟩ := cd.def_ 16 (d := dd_all_counts) rfl
  have G_all_counts : Fun K "all_counts" "all_counts" s_all_counts (He.fAd K ("all_counts", none)) fd_all_counts := fun_of D_all_counts
  obtain ⟨fd_follows, D_follows⟩ := cd.def_ 17 (d := dd_follows) rfl
  have G_follows : Fun K "follows" "follows" s_follows (He.fAd K ("follows", none)) fd_follows := fun_of D_follows
  obtain ⟨fd_look_claims, D_look_claims⟩ := cd.def_ 18 (d := dd_look_claims) rfl
  have G_look_claims : Fun K "look_claims" "look_claims" s_look_claims (He.fAd K ("look_claims", none)) fd_look_claims := fun_of D_look_claims
  obtain ⟨fd_wrong_claims, D_wrong_claims⟩ := cd.def_ 19 (d := dd_wrong_claims) rfl
  have G_wrong_claims : Fun K "wrong_claims" "wrong_claims" s_wrong_claims (He.fAd K ("wrong_claims", none)) fd_wrong_claims := fun_of D_wrong_claims
  obtain ⟨fd_first_wrongs, D_first_wrongs⟩ := cd.def_ 20 (d := dd_first_wrongs) rfl
  have G_first_wrongs : Fun K "first_wrongs" "first_wrongs" s_first_wrongs (He.fAd K ("first_wrongs", none)) fd_first_wrongs := fun_of D_first_wrongs
  obtain ⟨fd__law_mended, D__law_mended⟩ := cd.def_ 21 (d := dd__law_mended) rfl
  have G__law_mended : Fun K "_law_mended" "_law_mended" s__law_mended (He.fAd K ("_law_mended", none)) fd__law_mended := fun_of D__law_mended
  obtain ⟨fd_law, D_law⟩ := cd.def_ 22 (d := dd_law) rfl
  have G_law : Fun K "law" "law" s_law (He.fAd K ("law", none)) fd_law := fun_of D_law
  cases hfa.symm.trans g_law
  have bl := FunD.bindsA (ps := ["script"]) D_law fun _ _ _ _ _ _ us hl => match us, hl with | [_], _ => rfl
  refine ⟨fd_law, fun s v => bl s [v] rfl, fun base _ _ TB => ?_⟩
  have O_names_of : FnOk l.prog w K mg base (L2.CX l.prog w) 1 _ _ ["book"] (spA K mg 1 S_names_of) := ok_names_of G_names_of 
  have F_names_of : FnR l.prog w K mg base 1 "names_of" 1 S_names_of := ⟨_, _, _, O_names_of, g_names_of, G_names_of.kp, G_names_of.binds (ps := ["book"]) fun _ _ _ _ _ _ us hl => match us, hl with | [_], _ => rfl⟩
  have O_row_of : FnOk l.prog w K mg base (L2.CX l.prog w) 1 _ _ ["book", "land"] (spA K mg 2 S_row_of) := ok_row_of G_row_of 
  have F_row_of : FnR l.prog w K mg base 1 "row_of" 2 S_row_of := ⟨_, _, _, O_row_of, g_row_of, G_row_of.kp, G_row_of.binds (ps := ["book", "land"]) fun _ _ _ _ _ _ us hl => match us, hl with | [_, _], _ => rfl⟩
  have O_takes : FnOk l.prog w K mg base (L2.CX l.prog w) 1 _ _ ["book", "land"] (spA K mg 2 S_takes) := ok_takes G_takes m_sorted m_tuple
  have F_takes : FnR l.prog w K mg base 1 "takes" 2 S_takes := ⟨_, _, _, O_takes, g_takes, G_takes.kp, G_takes.binds (ps := ["book", "land"]) fun _ _ _ _ _ _ us hl => match us, hl with | [_, _], _ => rfl⟩
  have O_tree_at : FnOk l.prog w K mg base (L2.CX l.prog w) 1 _ _ ["tree", "path"] (spA K mg 2 S_tree_at) := ok_tree_at G_tree_at m_isinstance m_len m_tuple
  have F_tree_at : FnR l.prog w K mg base 1 "tree_at" 2 S_tree_at := ⟨_, _, _, O_tree_at, g_tree_at, G_tree_at.kp, G_tree_at.binds (ps := ["tree", "path"]) fun _ _ _ _ _ _ us hl => match us, hl with | [_, _], _ => rfl⟩
  have O__law_draw : FnOk l.prog w K mg base (L2.CX l.prog w) 1 _ _ ["script", "town", "many"] (spA K mg 3 S__law_draw) := ok__law_draw G__law_draw m_len
  have F__law_draw : FnR l.prog w K mg base 1 "_law_draw" 3 S__law_draw := ⟨_, _, _, O__law_draw, g__law_draw, G__law_draw.kp, G__law_draw.binds (ps := ["script", "town", "many"]) fun _ _ _ _ _ _ us hl => match us, hl with | [_, _, _], _ => rfl⟩
  have O__law_begun : FnOk l.prog w K mg base (L2.CX l.prog w) 1 _ _ [] (spA K mg 0 S__law_begun) := ok__law_begun G__law_begun 
  have F__law_begun : FnR l.prog w K mg base 1 "_law_begun" 0 S__law_begun := ⟨_, _, _, O__law_begun, g__law_begun, G__law_begun.kp, G__law_begun.binds (ps := []) fun _ _ _ _ _ _ us hl => match us, hl with | [], _ => rfl⟩
  have O__law_at : FnOk l.prog w K mg base (L2.CX l.prog w) 1 _ _ ["tree", "path"] (spA K mg 2 S__law_at) := ok__law_at G__law_at 
  have F__law_at : FnR l.prog w K mg base 1 "_law_at" 2 S__law_at := ⟨_, _, _, O__law_at, g__law_at, G__law_at.kp, G__law_at.binds (ps := ["tree", "path"]) fun _ _ _ _ _ _ us hl => match us, hl with | [_, _], _ => rfl⟩
  have O_is_enough : FnOk l.prog w K mg base (L2.CX l.prog w) 2 _ _ ["book", "land", "counting", "whole"] (spA K mg 4 S_is_enough) := ok_is_enough G_is_enough F_row_of
  have F_is_enough : FnR l.prog w K mg base 2 "is_enough" 4 S_is_enough := ⟨_, _, _, O_is_enough, g_is_enough, G_is_enough.kp, G_is_enough.binds (ps := ["book", "land", "counting", "whole"]) fun _ _ _ _ _ _ us hl => match us, hl with | [_, _, _, _], _ => rfl⟩
  have O_is_none_or_land : FnOk l.prog w K mg base (L2.CX l.prog w) 2 _ _ ["book", "thing"] (spA K mg 2 S_is_none_or_landX) := ok_is_none_or_land G_is_none_or_land m_isinstance m_str F_names_of
  have F_is_none_or_land : FnR l.prog w K mg base 2 "is_none_or_land" 2 S_is_none_or_landX := ⟨_, _, _, O_is_none_or_land, g_is_none_or_land, G_is_none_or_land.kp, G_is_none_or_land.binds (ps := ["book", "thing"]) fun _ _ _ _ _ _ us hl => match us, hl with | [_, _], _ => rfl⟩
  have O__law_a_book : FnOk l.prog w K mg base (L2.CX l.prog w) 2 _ _ ["script", "town"] (spA K mg 2 S__law_a_book) := ok__law_a_book G__law_a_book m_tuple F__law_draw
  have F__law_a_book : FnR l.prog w K mg base 2 "_law_a_book" 2 S__law_a_book := ⟨_, _, _, O__law_a_book, g__law_a_book, G__law_a_book.kp, G__law_a_book.binds (ps := ["script", "town"]) fun _ _ _ _ _ _ us hl => match us, hl with | [_, _], _ => rfl⟩
  have O__law_a_heap : FnOk l.prog w K mg base (L2.CX l.prog w) 2 _ _ ["script", "town", "book", "most"] (spA K mg 4 S__law_a_heap) := ok__law_a_heap G__law_a_heap m_len m_range m_tuple F__law_draw
  have F__law_a_heap : FnR l.prog w K mg base 2 "_law_a_heap" 4 S__law_a_heap := ⟨_, _, _, O__law_a_heap, g__law_a_heap, G__law_a_heap.kp, G__law_a_heap.binds (ps := ["script", "town", "book", "most"]) fun _ _ _ _ _ _ us hl => match us, hl with | [_, _, _, _], _ => rfl⟩
  have O__law_a_tree : FnOk l.prog w K mg base (L2.CX l.prog w) 2 _ _ ["script", "town", "book", "things"] (spA K mg 4 S__law_a_tree) := ok__law_a_tree G__law_a_tree m_len m_list m_min m_range m_tuple F__law_draw
  have F__law_a_tree : FnR l.prog w K mg base 2 "_law_a_tree" 4 S__law_a_tree := ⟨_, _, _, O__law_a_tree, g__law_a_tree, G__law_a_tree.kp, G__law_a_tree.binds (ps := ["script", "town", "book", "things"]) fun _ _ _ _ _ _ us hl => match us, hl with | [_, _, _, _], _ => rfl⟩
  have O_is_claim : FnOk l.prog w K mg base (L2.CX l.prog w) 3 _ _ ["book", "thing"] (spA K mg 2 S_is_claim) := ok_is_claim G_is_claim m_isinstance m_len m_tuple F_is_none_or_land
  have F_is_claim : FnR l.prog w K mg base 3 "is_claim" 2 S_is_claim := ⟨_, _, _, O_is_claim, g_is_claim, G_is_claim.kp, G_is_claim.binds (ps := ["book", "thing"]) fun _ _ _ _ _ _ us hl => match us, hl with | [_, _], _ => rfl⟩
  have R_valued : ∀ d, FnR l.prog w K mg base (2 + d) "valued" 5 (SR_valued d) := fun d => by
    have hb := G_valued.binds (ps := ["book", "heap", "tree", "path", "rows"]) fun _ _ _ _ _ _ us hl => match us, hl with | [_, _, _, _, _], _ => rfl
    induction d with
    | zero => exact ⟨_, _, ["book", "heap", "tree", "path", "rows"], fn_no no_valued, g_valued, G_valued.kp, hb⟩
    | succ d ih => exact ⟨_, _, _, ok_valued G_valued (bo_valued N_valued rfl d) ih m_enumerate m_isinstance m_len m_tuple F_is_enough F_takes, g_valued, G_valued.kp, hb⟩
  have F_valued : FnR l.prog w K mg base 26 "valued" 5 S_valued := R_valued 24
  have O_counts_as : FnOk l.prog w K mg base (L2.CX l.prog w) 27 _ _ ["book", "heap", "tree"] (spA K mg 3 S_counts_as) := ok_counts_as G_counts_as F_valued
  have F_counts_as : FnR l.prog w K mg base 27 "counts_as" 3 S_counts_as := ⟨_, _, _, O_counts_as, g_counts_as, G_counts_as.kp, G_counts_as.binds (ps := ["book", "heap", "tree"]) fun _ _ _ _ _ _ us hl => match us, hl with | [_, _, _], _ => rfl⟩
  have O_counting_worth : FnOk l.prog w K mg base (L2.CX l.prog w) 27 _ _ ["book", "heap", "tree"] (spA K mg 3 S_counting_worth) := ok_counting_worth G_counting_worth F_valued
  have F_counting_worth : FnR l.prog w K mg base 27 "counting_worth" 3 S_counting_worth := ⟨_, _, _, O_counting_worth, g_counting_worth, G_counting_worth.kp, G_counting_worth.binds (ps := ["book", "heap", "tree"]) fun _ _ _ _ _ _ us hl => match us, hl with | [_, _, _], _ => rfl⟩
  have O_all_counts : FnOk l.prog w K mg base (L2.CX l.prog w) 27 _ _ ["book", "heap", "tree"] (spA K mg 3 S_all_countsX) := ok_all_counts G_all_counts m_tuple F_valued
  have F_all_counts : FnR l.prog w K mg base 27 "all_counts" 3 S_all_countsX := ⟨_, _, _, O_all_counts, g_all_counts, G_all_counts.kp, G_all_counts.binds (ps := ["book", "heap", "tree"]) fun _ _ _ _ _ _ us hl => match us, hl with | [_, _, _], _ => rfl⟩
  have O_follows : FnOk l.prog w K mg base (L2.CX l.prog w) 27 _ _ ["book", "heap", "tree", "told", "path"] (spA K mg 5 S_follows) := ok_follows G_follows m_enumerate m_isinstance m_tuple F_is_enough F_takes F_tree_at F_valued
  have F_follows : FnR l.prog w K mg base 27 "follows" 5 S_follows := ⟨_, _, _, O_follows, g_follows, G_follows.kp, G_follows.binds (ps := ["book", "heap", "tree", "told", "path"]) fun _ _ _ _ _ _ us hl => match us, hl with | [_, _, _, _, _], _ => rfl⟩
  have O_look_claims : FnOk l.prog w K mg base (L2.CX l.prog w) 28 _ _ ["book", "heap", "tree", "claims"] (spA K mg 4 S_look_claims) := ok_look_claims G_look_claims m_all m_any m_bool m_isinstance m_tuple F_all_counts F_is_claim x_NoClaims
  have F_look_claims : FnR l.prog w K mg base 28 "look_claims" 4 S_look_claims := ⟨_, _, _, O_look_claims, g_look_claims, G_look_claims.kp, G_look_claims.binds (ps := ["book", "heap", "tree", "claims"]) fun _ _ _ _ _ _ us hl => match us, hl with | [_, _, _, _], _ => rfl⟩
  have O_wrong_claims : FnOk l.prog w K mg base (L2.CX l.prog w) 29 _ _ ["book", "heap", "tree", "claims"] (spA K mg 4 S_wrong_claims) := ok_wrong_claims G_wrong_claims m_dict m_tuple F_all_counts F_look_claims
  have F_wrong_claims : FnR l.prog w K mg base 29 "wrong_claims" 4 S_wrong_claims := ⟨_, _, _, O_wrong_claims, g_wrong_claims, G_wrong_claims.kp, G_wrong_claims.binds (ps := ["book", "heap", "tree", "claims"]) fun _ _ _ _ _ _ us hl => match us, hl with | [_, _, _, _], _ => rfl⟩
  have O_first_wrongs : FnOk l.prog w K mg base (L2.CX l.prog w) 29 _ _ ["book", "heap", "tree", "claims"] (spA K mg 4 S_first_wrongs) := ok_first_wrongs G_first_wrongs m_dict m_tuple F_follows F_look_claims
  have F_first_wrongs : FnR l.prog w K mg base 29 "first_wrongs" 4 S_first_wrongs := ⟨_, _, _, O_first_wrongs, g_first_wrongs, G_first_wrongs.kp, G_first_wrongs.binds (ps := ["book", "heap", "tree", "claims"]) fun _ _ _ _ _ _ us hl => match us, hl with | [_, _, _, _], _ => rfl⟩
  have O__law_mended : FnOk l.prog w K mg base (L2.CX l.prog w) 30 _ _ ["book", "heap", "tree", "claims"] (spA K mg 4 (S__law_mended (gx w K))) := ok__law_mended (G := gx w K) G__law_mended m_dict m_len m_max m_sorted m_tuple F__law_at F_counts_as F_first_wrongs (fun cdv e => code_law G__law_mended e) (TB ("_law_mended", none) (by simp [hTf]))
  have F__law_mended : FnR l.prog w K mg base 30 "_law_mended" 4 (S__law_mended (gx w K)) := ⟨_, _, _, O__law_mended, g__law_mended, G__law_mended.kp, G__law_mended.binds (ps := ["book", "heap", "tree", "claims"]) fun _ _ _ _ _ _ us hl => match us, hl with | [_, _, _, _], _ => rfl⟩
  exact ok_endT (G := gx w K) rfl (by rw [gx_ts]; exact cnd) (ok_law (G := gx w K) G_law m_len m_list m_range m_sorted m_sum m_tuple F__law_a_book F__law_a_heap F__law_a_tree F__law_begun F__law_draw F__law_mended F_all_counts F_counting_worth F_first_wrongs F_wrong_claims)
def loose0 : List PySem.Str := ["CountError", "NoClaims", "names_of", "row_of", "takes", "is_enough", "valued", "counts_as", "counting_worth", "all_counts", "tree_at", "is_none_or_land", "is_claim", "look_claims", "wrong_claims", "follows", "first_wrongs", "_law_draw", "_law_begun", "_law_a_book", "_law_a_heap", "_law_row", "_law_takes", "_law_has_share", "_law_valued", "_law_a_tree", "_law_paths", "_law_at", "_law_mended"]
def loose : List PySem.Str := loose0
abbrev hk : PySem.W.Hook := He.hookX 4 hFa hFn [] hTf (exX ["NoClaims"] hTf)
def ob (s : PySem.W.SharedT) : He.AlX := He.obsX 4 hFa hFn [] hTf (exX ["NoClaims"] hTf) (HandSHeadRun.getT s)
theorem ob_eq (s : PySem.W.SharedT) : ob s = hk.obs s.abs := He.obsX_eq (HandSHeadRun.getT_eq s)
set_option maxHeartbeats 0 in
theorem run (w : World) : HandSHeadRun.RunEq (PySem.W.OpenLaw.row PySem.Challenge.rw_countsfrom_k21_whole_claims) (PySem.W.view (PySem.W.OpenLaw.row PySem.Challenge.rw_countsfrom_k21_whole_claims).prog [34]) hk ob 20000 loose w := by
  intro os
  kernel_rfl
end DL
open PySem PySem.W PySem.Calls PyProof.Rows
set_option maxRecDepth 100000 in
set_option maxHeartbeats 0 in
theorem PySem.Challenge.cw_countsfrom_k21_whole_claims_holds : PySem.Challenge.rw_countsfrom_k21_whole_claims.Holds := by
  w_on; o_law
  refine HandSHeadRun.head_any (r := (PySem.W.OpenLaw.row PySem.Challenge.rw_countsfrom_k21_whole_claims)) (q := view (PySem.W.OpenLaw.row PySem.Challenge.rw_countsfrom_k21_whole_claims).prog [34]) (H := DL.hk) (ob := DL.ob) (M := 20000) (loose := DL.loose) (d := HandSHeadRun.topDef (PySem.W.OpenLaw.row PySem.Challenge.rw_countsfrom_k21_whole_claims).prog 34) (kwd := []) DL.ob_eq
    (by kernel_rfl) (fun s => by kernel_rfl) DL.run (by kernel_rfl) (by kernel_rfl) (by kernel_rfl) (by rfl) (by first | assumption | decide +kernel) (by decide +kernel) ⟨rfl, rfl, rfl, rfl, rfl, by decide +kernel⟩ ?hw ?hc
  case hw => w_witness2
  case hc =>
    refine DL.walkT (l := PySem.Challenge.rw_countsfrom_k21_whole_claims) (k := 31) rfl (by kernel_rfl) (by kernel_rfl) ⟨rfl, by decide, by decide⟩ ?F
    intro w K mg f h KX G hmg c
    exact DL.all_mk KX G hmg c

