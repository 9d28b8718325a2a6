import PyProof.Rows.All
import Wide.All
import OpenK.AllK
import Wide.FinOn
import HandS.Conv
import HandS.Dict
import HandS.Style
import HandS.Lambda
import KE.KDictKeyed
import HandS.ForMost
import HandS.ForExc
import HandS.IsInst
import HandS.TupAny
import HandS.TupMul
import HandS.Zip
import HandS.Deep
import HandS.Flow
import HandS.TupLe
import HandS.SortInts
import KE.GoesEnum
import KE.GoesMore
import HandS.ExcIs
import KE.KExcIs
import PyProof.ExcBaseAll.ValueError
import HandS.SortRule
import HandS.SetFor
import HandS.More
import KE.SortKeyHeap
import HandS.EndTab
import HandS.HeadWalk
import HandS.HeadHook4
import HandS.HeadEnd
import HandS.NestedK
import HandS.DictComp
import KE.BitLaws
import HandS.ExcInit
import HandS.ExcField
import HandS.WordsExc
import KE.KDictPairs
import HandS.Strs
import HandS.DictTup
import KE.KSortTupAny
import KE.KItemsList
import KE.DataMinMax
import KE.KMinKey
import PyProof.Rows.SortKeyStr
import PyProof.DictKinds
import HandS.FStr
import KE.KCallOwn
import HandS.Head0
import HandS.Head1
import HandS.Head2
import PySem.Challenge.RW_countsfrom_k30_yards
set_option Elab.async false
set_option linter.all false
set_option maxRecDepth 100000
set_option maxHeartbeats 4000000
namespace DL
open PySem PySem.Spec PyProof.Rows L2
mutual
def NK (H : Hp) : NestedKey → V → Prop
  | .none, x => x = .non
  | .num i, x => x = .int i
  | .text z, x => x = .str z
  | .tup ks, x => ∃ a xs, x = .ref a ∧ H a = some (.tup xs) ∧ NKs H ks xs
def NKs (H : Hp) : List NestedKey → List V → Prop
  | [], xs => xs = []
  | k :: ks, xs => ∃ y ys, xs = y :: ys ∧ NK H k y ∧ NKs H ks ys
end
mutual
theorem NK.is {P : Program} {w : World} {H : Hp} {hp : Heap} (ok : HOk P w H hp) : ∀ {k : NestedKey} {x : V} {u : Value}, NK H k x → RelV x u → NestedIs hp k u
  | .none, x, u, h, r => by
    rw [NK] at h; subst h
    obtain rfl : u = Value.none := r
    exact .none
  | .num i, x, u, h, r => by
    rw [NK] at h; subst h
    obtain ⟨t, rfl⟩ : ∃ t, u = Value.int i t := r
    exact .int i t
  | .text z, x, u, h, r => by
    rw [NK] at h; subst h
    obtain ⟨t, rfl⟩ : ∃ t, u = Value.str z t := r
    exact .text z t
  | .tup ks, x, u, h, r => by
    rw [NK] at h
    obtain ⟨a, xs, rfl, ha, hk⟩ := h
    obtain rfl : u = Value.ref a := r
    obtain ⟨_, its, rv, o, h1, h2, n, h3⟩ := (show ObjOk P w H hp a (.tup xs) from ok a _ ha)
    exact .tup h1 h2 h3 (by simpa using NKs.is ok hk rv)
theorem NKs.is {P : Program} {w : World} {H : Hp} {hp : Heap} (ok : HOk P w H hp) : ∀ {ks : List NestedKey} {xs : List V} {us : List Value}, NKs H ks xs → Vals xs us → NestedAll hp ks us
  | [], xs, us, h, r => by
    rw [NKs] at h; subst h
    cases r
    exact .nil
  | k :: ks, xs, us, h, r => by
    rw [NKs] at h
    obtain ⟨y, ys, rfl, h1, h2⟩ := h
    cases r with
    | cons r1 r2 => exact .cons (NK.is ok h1 r1) (NKs.is ok h2 r2)
end
abbrev NE := NestedKey × Addr × V
abbrev NEs : List NE → List (NestedKey × Addr × Value) → Prop := Paired fun p q => p.1 = q.1 ∧ p.2.1 = q.2.1 ∧ RelV p.2.2 q.2.2
def entryN (w : World) (x : NestedKey × Addr × Value) : DictEntry := ⟨x.1.hash w, .ref x.2.1, x.2.2⟩
def DNp (w : World) (a : Addr) (xs : List NE) (hp : Heap) : Prop := xs.length ≤ sizeLine ∧ (a == sysModules) = false ∧ ∃ vs, NEs xs vs ∧ ∃ o es ep, hp.get? a = some o ∧ o.ExactDict ∧ o.data = .dict es ep ∧ es.toList = vs.map (entryN w) ∧ (vs.map (·.1)).Nodup
def DNO (w : World) (a : Addr) (xs : List NE) : HO := .ext (DNp w a xs)
def KeyE (H : Hp) (xs : List NE) : Prop := ∀ e ∈ xs, NK H e.1 (.ref e.2.1) ∧ e.1.depth ≤ 8
def valN (xs : List NE) (k : NestedKey) : Option V := (xs.find? fun x => decide (x.1 = k)).map (·.2.2)
def putN (xs : List NE) (k : NestedKey) (b : Addr) (v : V) : List NE := if (valN xs k).isSome then xs.map (fun x => if x.1 = k then (x.1, x.2.1, v) else x) else xs ++ [(k, b, v)]
section
variable {X : Cx} {pins : List (Addr × Obj)} {σ : L2.St} {H : Hp} {s : Shared} {a b : Addr} {v : V} {u r : Value} {A : Around} {E : Value → Shared → Prop} {xs : List NE} {k : NestedKey}
theorem RelO.getD {o : Option V} {o' : Option Value} {x : V} {u : Value} (r : RelO o o') (rx : RelV x u) : RelV (o.getD x) (o'.getD u) := by
  cases o with
  | none => cases o' with
    | none => exact rx
    | some _ => exact r.elim
  | some _ => cases o' with
    | none => exact r.elim
    | some _ => exact r
end
section
variable {X : Cx} {o i e f value : Expr} {pos pos' tpos apos cpos : Pos} {td ty tv tx : TE}
end
end DL
namespace DL
open PySem PySem.Spec PyProof.Rows L2
inductive Val where
  | non | bl (b : Bool) | int (i : Int) | str (x : Str) | tup (vs : List Val) | tpo (vs : List Val) | lst (vs : List Val) | scr (ns : List Int) | ref (a : Addr) | ty (n : String)

inductive Ob where
  | lst (vs : List Val)
  | dK (kvs : List (Key × Val))
  | dT (kvs : List (List Key × Val))
  | ins (C : Addr) (fs : List (Str × Val))
  /-- a dict that is walked, and changed no more -/
  | dF (o : Obj) (xs : List (Key × V)) (kvs : List (Key × Val))
  /-- .. of tuple keys -/
  | dFT (o : Obj) (xs : List (List Key × V)) (kvs : List (List Key × Val))
  /-- an exception that was caught, of the class at C -/
  | exc (C : Addr)
  /-- .. that bears a value, of the class at C -/
  | excd (C : Addr) (v : Val)
  /-- a table of code objects -/
  | tab (q : Str)
  /-- a dict whose keys are tuples, nested -/
  | dN (w : World) (kvs : List (NestedKey × Val))
  /-- a place that is being filled: nothing is known of it here -/
  | busy

abbrev Hv := Addr → Option Ob
def put (h : Hv) (a : Addr) (o : Ob) : Hv := fun b => if b = a then some o else h b
theorem put_same {h : Hv} {a : Addr} {o : Ob} : put h a o a = some o := by unfold put; rw [if_pos rfl]
theorem put_ne {h : Hv} {a b : Addr} {o : Ob} (e : b ≠ a) : put h a o b = h b := by unfold put; rw [if_neg e]
theorem put_put {h : Hv} {a : Addr} {o u : Ob} : put (put h a o) a u = put h a u := by
  funext b; unfold put; split <;> rfl

def KL (K : PySem.W.Frag) (a : Addr) (xs : List V) : Prop :=
  ∃ (o : Obj) (its : Array Value) (n : Nat), K.lookup a = some o ∧ o.cls = .type "list" ∧ o.dict = none ∧ o.data = .seq its n ∧ its.size ≤ sizeLine ∧ Vals xs its.toList

mutual
def RV (K : PySem.W.Frag) (H : Hp) (h : Hv) : Val → V → Prop
  | .non, x => x = .non
  | .bl b, x => x = .bl b
  | .int i, x => x = .int i
  | .str s, x => x = .str s
  | .tup vs, x => ∃ a xs, x = .ref a ∧ h a = none ∧ H a = some (.tup xs) ∧ RVs K H h vs xs
  | .tpo vs, x => ∃ a xs o, x = .ref a ∧ h a = none ∧ H a = some (.frz o (.tup xs)) ∧ o.dict = none ∧ RVs K H h vs xs
  | .lst vs, x => ∃ a xs, x = .ref a ∧ h a = none ∧ H a = some (.lst xs) ∧ RVs K H h vs xs
  | .scr ns, x => ∃ a, x = .ref a ∧ ((h a = none ∧ Rd H a (.lst (ns.map V.int))) ∨ KL K a (ns.map V.int))
  | .ref a, x => x = .ref a
  | .ty n, x => x = .ty n
def RVs (K : PySem.W.Frag) (H : Hp) (h : Hv) : List Val → List V → Prop
  | [], xs => xs = []
  | v :: vs, xs => ∃ y ys, xs = y :: ys ∧ RV K H h v y ∧ RVs K H h vs ys
end
def NT (o : HO) : Prop := ∀ ps, o ≠ .tbl ps
def StepN (h : Hv) (H : Hp) (h' : Hv) (H' : Hp) : Prop := ∀ a o, H a = some o → h a = none → NT o → H' a = some o ∧ h' a = none
structure Step (h : Hv) (H : Hp) (h' : Hv) (H' : Hp) : Prop where
  n : StepN h H h' H'
  b : ∀ a o, H a = some o → h a = some .busy → H' a = some o ∧ h' a = some .busy

theorem Step.refl (h : Hv) (H : Hp) : Step h H h H := ⟨fun _ _ e n _ => ⟨e, n⟩, fun _ _ e n => ⟨e, n⟩⟩
theorem Step.trans {h h1 h2 : Hv} {H H1 H2 : Hp} (x : Step h H h1 H1) (y : Step h1 H1 h2 H2) : Step h H h2 H2 := ⟨fun a o e n t =>
  let ⟨e1, n1⟩ := x.n a o e n t
  y.n a o e1 n1 t, fun a o e n =>
  let ⟨e1, n1⟩ := x.b a o e n
  y.b a o e1 n1⟩

theorem StepN.trans {h h1 h2 : Hv} {H H1 H2 : Hp} (x : StepN h H h1 H1) (y : StepN h1 H1 h2 H2) : StepN h H h2 H2 := fun a o e n t =>
  let ⟨e1, n1⟩ := x a o e n t
  y a o e1 n1 t
theorem nt_tup {xs : List V} : NT (.tup xs) := fun _ z => nomatch z
theorem nt_lst {xs : List V} : NT (.lst xs) := fun _ z => nomatch z
theorem nt_frz {o : Obj} {u : HO} : NT (.frz o u) := fun _ z => nomatch z

section
variable {K : PySem.W.Frag} {H H' : Hp} {h h' : Hv}
mutual
theorem RV.stepN (s : StepN h H h' H') : ∀ {v : Val} {x : V}, RV K H h v x → RV K H' h' v x
  | .non, x, r => by rw [RV] at r ⊢; exact r
  | .bl b, x, r => by rw [RV] at r ⊢; exact r
  | .int i, x, r => by rw [RV] at r ⊢; exact r
  | .str z, x, r => by rw [RV] at r ⊢; exact r
  | .tup vs, x, r => by
    rw [RV] at r ⊢
    obtain ⟨a, xs, e, n, ha, rs⟩ := r
    exact ⟨a, xs, e, (s a _ ha n nt_tup).2, (s a _ ha n nt_tup).1, RVs.stepN s rs⟩
  | .tpo vs, x, r => by
    rw [RV] at r ⊢
    obtain ⟨a, xs, o, e, n, ha, hd, rs⟩ := r
    exact ⟨a, xs, o, e, (s a _ ha n nt_frz).2, (s a _ ha n nt_frz).1, hd, RVs.stepN s rs⟩
  | .lst vs, x, r => by
    rw [RV] at r ⊢
    obtain ⟨a, xs, e, n, ha, rs⟩ := r
    exact ⟨a, xs, e, (s a _ ha n nt_lst).2, (s a _ ha n nt_lst).1, RVs.stepN s rs⟩
  | .scr ns, x, r => by
    rw [RV] at r ⊢
    obtain ⟨a, e, r⟩ := r
    refine ⟨a, e, ?_⟩
    rcases r with ⟨n, q | ⟨o, q⟩⟩ | q
    · exact .inl ⟨(s a _ q n nt_lst).2, .inl (s a _ q n nt_lst).1⟩
    · exact .inl ⟨(s a _ q n nt_frz).2, .inr ⟨o, (s a _ q n nt_frz).1⟩⟩
    · exact .inr q
  | .ref a, x, r => by rw [RV] at r ⊢; exact r
  | .ty n, x, r => by rw [RV] at r ⊢; exact r
theorem RVs.stepN (s : StepN h H h' H') : ∀ {vs : List Val} {xs : List V}, RVs K H h vs xs → RVs K H' h' vs xs
  | [], xs, r => by rw [RVs] at r ⊢; exact r
  | v :: vs, xs, r => by
    rw [RVs] at r ⊢
    obtain ⟨y, ys, e, r1, r2⟩ := r
    exact ⟨y, ys, e, RV.stepN s r1, RVs.stepN s r2⟩
end
theorem RV.step (s : Step h H h' H') {v : Val} {x : V} (r : RV K H h v x) : RV K H' h' v x := r.stepN s.n
theorem RVs.step (s : Step h H h' H') {v : List Val} {x : List V} (r : RVs K H h v x) : RVs K H' h' v x := r.stepN s.n
theorem RVs.len : ∀ {vs : List Val} {xs : List V}, RVs K H h vs xs → vs.length = xs.length
  | [], xs, r => by rw [RVs] at r; rw [r]; rfl
  | v :: vs, xs, r => by
    rw [RVs] at r
    obtain ⟨y, ys, e, _, r2⟩ := r
    rw [e, List.length_cons, List.length_cons, RVs.len r2]
theorem RVs.nil : RVs K H h [] [] := by rw [RVs]
theorem RVs.cons {v : Val} {vs : List Val} {x : V} {xs : List V} (r : RV K H h v x) (rs : RVs K H h vs xs) : RVs K H h (v :: vs) (x :: xs) := by
  rw [RVs]; exact ⟨x, xs, rfl, r, rs⟩
theorem RVs.get : ∀ {vs : List Val} {xs : List V} {i : Nat} {v : Val}, RVs K H h vs xs → vs[i]? = some v → ∃ x, xs[i]? = some x ∧ RV K H h v x
  | [], _, _, _, _, e => by simp at e
  | w :: vs, xs, 0, v, r, e => by
    rw [RVs] at r
    obtain ⟨y, ys, e1, r1, _⟩ := r
    simp at e
    subst e
    exact ⟨y, by rw [e1]; rfl, r1⟩
  | w :: vs, xs, i + 1, v, r, e => by
    rw [RVs] at r
    obtain ⟨y, ys, e1, _, r2⟩ := r
    obtain ⟨x, h1, h2⟩ := RVs.get (i := i) r2 (by simpa using e)
    exact ⟨x, by rw [e1]; simpa using h1, h2⟩
theorem RVs.append : ∀ {vs ws : List Val} {xs ys : List V}, RVs K H h vs xs → RVs K H h ws ys → RVs K H h (vs ++ ws) (xs ++ ys)
  | [], ws, xs, ys, r, q => by rw [RVs] at r; rw [r]; exact q
  | v :: vs, ws, xs, ys, r, q => by
    rw [RVs] at r
    obtain ⟨y, zs, e1, r1, r2⟩ := r
    rw [e1]
    exact RVs.cons r1 (RVs.append r2 q)
theorem RVs.take : ∀ {vs : List Val} {xs : List V} (n : Nat), RVs K H h vs xs → RVs K H h (vs.take n) (xs.take n)
  | _, _, 0, _ => RVs.nil
  | [], xs, n + 1, r => by rw [RVs] at r; rw [r]; exact RVs.nil
  | v :: vs, xs, n + 1, r => by
    rw [RVs] at r
    obtain ⟨y, zs, e1, r1, r2⟩ := r
    rw [e1]
    exact RVs.cons r1 (RVs.take n r2)
theorem RVs.drop : ∀ {vs : List Val} {xs : List V} (n : Nat), RVs K H h vs xs → RVs K H h (vs.drop n) (xs.drop n)
  | _, _, 0, r => r
  | [], xs, n + 1, r => by rw [RVs] at r; rw [r]; exact RVs.nil
  | v :: vs, xs, n + 1, r => by
    rw [RVs] at r
    obtain ⟨y, zs, e1, r1, r2⟩ := r
    rw [e1]
    exact RVs.drop n r2
theorem RVs.reverse : ∀ {vs : List Val} {xs : List V}, RVs K H h vs xs → RVs K H h vs.reverse xs.reverse
  | [], xs, r => by rw [RVs] at r; rw [r]; exact RVs.nil
  | v :: vs, xs, r => by
    rw [RVs] at r
    obtain ⟨y, zs, e1, r1, r2⟩ := r
    rw [e1, List.reverse_cons, List.reverse_cons]
    exact RVs.append (RVs.reverse r2) (RVs.cons r1 RVs.nil)
theorem RVs.set : ∀ {vs : List Val} {xs : List V} (i : Nat) {v : Val} {x : V}, RVs K H h vs xs → RV K H h v x → RVs K H h (vs.set i v) (xs.set i x)
  | [], xs, i, _, _, r, q => by rw [RVs] at r; rw [r]; exact RVs.nil
  | w :: vs, xs, 0, v, x, r, q => by
    rw [RVs] at r
    obtain ⟨y, zs, e1, r1, r2⟩ := r
    rw [e1]
    exact RVs.cons q r2
  | w :: vs, xs, i + 1, v, x, r, q => by
    rw [RVs] at r
    obtain ⟨y, zs, e1, r1, r2⟩ := r
    rw [e1]
    exact RVs.cons r1 (RVs.set i r2 q)
theorem RVs.erase : ∀ {vs : List Val} {xs : List V} (i : Nat), RVs K H h vs xs → RVs K H h (vs.eraseIdx i) (xs.eraseIdx i)
  | [], xs, i, r => by rw [RVs] at r; rw [r]; exact RVs.nil
  | w :: vs, xs, 0, r => by
    rw [RVs] at r
    obtain ⟨y, zs, e1, r1, r2⟩ := r
    rw [e1]
    exact r2
  | w :: vs, xs, i + 1, r => by
    rw [RVs] at r
    obtain ⟨y, zs, e1, r1, r2⟩ := r
    rw [e1]
    exact RVs.cons r1 (RVs.erase i r2)
theorem RVs.ints : ∀ {ns : List Int} {xs : List V}, RVs K H h (ns.map Val.int) xs → xs = ns.map V.int
  | [], xs, r => by rw [List.map_nil, RVs] at r; exact r
  | n :: ns, xs, r => by
    rw [List.map_cons, RVs] at r
    obtain ⟨y, ys, e, r1, r2⟩ := r
    rw [RV] at r1
    rw [e, r1, RVs.ints r2]; rfl
theorem RVs.ofInts : ∀ (ns : List Int), RVs K H h (ns.map Val.int) (ns.map V.int)
  | [] => RVs.nil
  | n :: ns => RVs.cons (by rw [RV]) (RVs.ofInts ns)
theorem RVs.strs : ∀ {ns : List Str} {xs : List V}, RVs K H h (ns.map Val.str) xs → xs = ns.map V.str
  | [], xs, r => by rw [List.map_nil, RVs] at r; exact r
  | n :: ns, xs, r => by
    rw [List.map_cons, RVs] at r
    obtain ⟨y, ys, e, r1, r2⟩ := r
    rw [RV] at r1
    rw [e, r1, RVs.strs r2]; rfl
theorem RVs.ofStrs : ∀ (ns : List Str), RVs K H h (ns.map Val.str) (ns.map V.str)
  | [] => RVs.nil
  | n :: ns => RVs.cons (by rw [RV]) (RVs.ofStrs ns)
theorem RVs.bls : ∀ {ns : List Bool} {xs : List V}, RVs K H h (ns.map Val.bl) xs → xs = ns.map V.bl
  | [], xs, r => by rw [List.map_nil, RVs] at r; exact r
  | n :: ns, xs, r => by
    rw [List.map_cons, RVs] at r
    obtain ⟨y, ys, e, r1, r2⟩ := r
    rw [RV] at r1
    rw [e, r1, RVs.bls r2]; rfl
end
def RKs {κ : Type} (K : PySem.W.Frag) (H : Hp) (h : Hv) : List (κ × Val) → List (κ × V) → Prop
  | [], xs => xs = []
  | (k, v) :: kvs, xs => ∃ y ys, xs = (k, y) :: ys ∧ RV K H h v y ∧ RKs K H h kvs ys
theorem RKs.stepN {κ : Type} {K : PySem.W.Frag} {H H' : Hp} {h h' : Hv} (s : StepN h H h' H') : ∀ {kvs : List (κ × Val)} {xs : List (κ × V)}, RKs K H h kvs xs → RKs K H' h' kvs xs
  | [], xs, r => r
  | (k, v) :: kvs, xs, r => by
    obtain ⟨y, ys, e, r1, r2⟩ := r
    exact ⟨y, ys, e, r1.stepN s, RKs.stepN s r2⟩
theorem RKs.step {κ : Type} {K : PySem.W.Frag} {H H' : Hp} {h h' : Hv} (s : Step h H h' H') {kvs : List (κ × Val)} {xs : List (κ × V)} (r : RKs K H h kvs xs) : RKs K H' h' kvs xs := r.stepN s.n

mutual
def nkV : NestedKey → Val
  | .none => .non
  | .num i => .int i
  | .text z => .str z
  | .tup ks => .tup (nkVs ks)
def nkVs : List NestedKey → List Val
  | [] => []
  | k :: ks => nkV k :: nkVs ks
end
mutual
theorem nk_of {K : PySem.W.Frag} {H : Hp} {h : Hv} : ∀ {k : NestedKey} {x : V}, RV K H h (nkV k) x → NK H k x
  | .none, x, r => by rw [nkV, RV] at r; rw [NK]; exact r
  | .num i, x, r => by rw [nkV, RV] at r; rw [NK]; exact r
  | .text i, x, r => by rw [nkV, RV] at r; rw [NK]; exact r
  | .tup ks, x, r => by
    rw [nkV, RV] at r
    obtain ⟨a, xs, e, _, ha, rs⟩ := r
    rw [NK]
    exact ⟨a, xs, e, ha, nks_of rs⟩
theorem nks_of {K : PySem.W.Frag} {H : Hp} {h : Hv} : ∀ {ks : List NestedKey} {xs : List V}, RVs K H h (nkVs ks) xs → NKs H ks xs
  | [], xs, r => by rw [nkVs, RVs] at r; rw [NKs]; exact r
  | k :: ks, xs, r => by
    rw [nkVs, RVs] at r
    obtain ⟨y, ys, e, r1, r2⟩ := r
    rw [NKs]
    exact ⟨y, ys, e, nk_of r1, nks_of r2⟩
end
def RNs (K : PySem.W.Frag) (H : Hp) (h : Hv) : List (NestedKey × Val) → List NE → Prop
  | [], xs => xs = []
  | (k, v) :: kvs, xs => ∃ p y ys, xs = (k, p, y) :: ys ∧ k.depth ≤ 8 ∧ RV K H h (nkV k) (.ref p) ∧ RV K H h v y ∧ RNs K H h kvs ys
theorem RNs.stepN {K : PySem.W.Frag} {H H' : Hp} {h h' : Hv} (s : StepN h H h' H') : ∀ {kvs : List (NestedKey × Val)} {xs : List NE}, RNs K H h kvs xs → RNs K H' h' kvs xs
  | [], xs, r => r
  | (k, v) :: kvs, xs, r => by
    obtain ⟨p, y, ys, e, hd, r0, r1, r2⟩ := r
    exact ⟨p, y, ys, e, hd, r0.stepN s, r1.stepN s, RNs.stepN s r2⟩
theorem RNs.step {K : PySem.W.Frag} {H H' : Hp} {h h' : Hv} (s : Step h H h' H') {kvs : List (NestedKey × Val)} {xs : List NE} (r : RNs K H h kvs xs) : RNs K H' h' kvs xs := r.stepN s.n

def Fills (o : HO) : Prop := (∃ xs, o = .lst xs) ∨ ∃ kvs, o = .dK kvs
def RO (K : PySem.W.Frag) (H : Hp) (h : Hv) (a : Addr) : Ob → Prop
  | .lst vs => ∃ xs, H a = some (.lst xs) ∧ RVs K H h vs xs
  | .dK kvs => ∃ xs, H a = some (.dK xs) ∧ RKs K H h kvs xs
  | .dT kvs => ∃ xs, H a = some (.dT xs) ∧ RKs K H h kvs xs
  | .ins C fs => ∃ dx xs, H a = some (.ins C dx xs) ∧ H dx = some (.own a) ∧ h dx = none ∧ RKs K H h fs xs
  | .dF o xs kvs => H a = some (.frz o (.dK xs)) ∧ RKs K H h kvs xs
  | .dFT o xs kvs => H a = some (.frz o (.dT xs)) ∧ RKs K H h kvs xs
  | .exc C => ∃ oe φ, H a = some (.frz oe (.ext φ)) ∧ L2.Zc (.ref C) none oe ∧ ∃ vs, oe.data = .fields vs
  | .excd C v => ∃ oe φ dd x, H a = some (.frz oe (.ext φ)) ∧ L2.Zc (.ref C) (some dd) oe ∧ (∃ vs, oe.data = .fields vs) ∧ H dd = some (.xd [("land", x)]) ∧ h dd = none ∧ RV K H h v x
  | .tab q => ∃ ps : Array Value, H a = some (.tbl ps) ∧ TriplesOk ps.toList ∧ ∀ (pos : Pos) (cv : Value), codeAmong pos ps.toList = some cv → ∃ c, cv = .ref c ∧ H c = some (LamX.CodeO c q) ∧ h c = none
  | .dN w kvs => ∃ xs, H a = some (DNO w a xs) ∧ RNs K H h kvs xs
  | .busy => ∃ o, H a = some o ∧ Fills o
def RH (K : PySem.W.Frag) (H : Hp) (h : Hv) : Prop := ∀ a o, h a = some o → RO K H h a o

abbrev Sl := List (Option Val)
def RS (K : PySem.W.Frag) (H : Hp) (h : Hv) (ρ : Sl) (σ : L2.St) : Prop := ρ.length = σ.length ∧ ∀ (i : Nat) (v : Val), ρ[i]? = some (some v) → ∃ x, σ[i]? = some (some x) ∧ RV K H h v x
theorem RS.stepN {K : PySem.W.Frag} {H H' : Hp} {h h' : Hv} {ρ : Sl} {σ : L2.St} (r : RS K H h ρ σ) (s : StepN h H h' H') : RS K H' h' ρ σ :=
  ⟨r.1, fun i v e => let ⟨x, e1, q⟩ := r.2 i v e; ⟨x, e1, q.stepN s⟩⟩
theorem RS.step {K : PySem.W.Frag} {H H' : Hp} {h h' : Hv} {ρ : Sl} {σ : L2.St} (r : RS K H h ρ σ) (s : Step h H h' H') : RS K H' h' ρ σ :=
  ⟨r.1, fun i v e => let ⟨x, e1, q⟩ := r.2 i v e; ⟨x, e1, q.step s⟩⟩
theorem RS.set {K : PySem.W.Frag} {H : Hp} {h : Hv} {ρ : Sl} {σ : L2.St} (r : RS K H h ρ σ) (i : Nat) {v : Val} {x : V} (q : RV K H h v x) : RS K H h (ρ.set i (some v)) (σ.set i (some x)) := by
  refine ⟨by rw [List.length_set, List.length_set]; exact r.1, fun j w e => ?_⟩
  by_cases hj : i = j
  · subst hj
    by_cases hi : i < ρ.length
    · rw [List.getElem?_set_self hi] at e
      cases e
      exact ⟨x, List.getElem?_set_self (by rw [← r.1]; exact hi), q⟩
    · rw [List.getElem?_eq_none (by simpa using hi)] at e
      cases e
  · rw [List.getElem?_set_ne hj] at e ⊢
    exact r.2 j w e
theorem RH.nof {K : PySem.W.Frag} {H : Hp} {h : Hv} (r : RH K H h) {p : Addr} (e : H p = none) : h p = none := by
  cases q : h p with
  | none => rfl
  | some o =>
    have z := r p o q
    cases o with
    | lst vs => obtain ⟨xs, e1, _⟩ := z; rw [e] at e1; cases e1
    | dK vs => obtain ⟨xs, e1, _⟩ := z; rw [e] at e1; cases e1
    | dT vs => obtain ⟨xs, e1, _⟩ := z; rw [e] at e1; cases e1
    | ins C fs => obtain ⟨dx, xs, e1, _⟩ := z; rw [e] at e1; cases e1
    | dF o xs kvs => have e1 := z.1; rw [e] at e1; cases e1
    | dFT o xs kvs => have e1 := z.1; rw [e] at e1; cases e1
    | exc C => obtain ⟨_, _, e1, _⟩ := z; rw [e] at e1; cases e1
    | excd C v => obtain ⟨_, _, _, _, e1, _⟩ := z; rw [e] at e1; cases e1
    | tab q => obtain ⟨_, e1, _⟩ := z; rw [e] at e1; cases e1
    | dN w kvs => obtain ⟨_, e1, _⟩ := z; rw [e] at e1; cases e1
    | busy => obtain ⟨xs, e1, _⟩ := z; rw [e] at e1; cases e1

section
variable {K : PySem.W.Frag} {H : Hp} {h : Hv}
theorem Step.fresh {p : Addr} {o : HO} (e : H p = none) : Step h H h (upd H p o) := ⟨fun a u ha n _ => by
  rw [upd_ne (ne_of_none ha e)]
  exact ⟨ha, n⟩, fun a u ha n => by
  rw [upd_ne (ne_of_none ha e)]
  exact ⟨ha, n⟩⟩
theorem Step.new {p : Addr} {o : HO} {u : Ob} (e : H p = none) : Step h H (put h p u) (upd H p o) := ⟨fun a w ha n _ => by
  rw [upd_ne (ne_of_none ha e), put_ne (ne_of_none ha e)]
  exact ⟨ha, n⟩, fun a w ha n => by
  rw [upd_ne (ne_of_none ha e), put_ne (ne_of_none ha e)]
  exact ⟨ha, n⟩⟩
theorem Step.write {p : Addr} {o : HO} {u w : Ob} (e : h p = some u) (nb : u ≠ .busy) : Step h H (put h p w) (upd H p o) := ⟨fun a z ha n _ => by
  have ne : a ≠ p := fun q => by rw [q, e] at n; cases n
  rw [upd_ne ne, put_ne ne]
  exact ⟨ha, n⟩, fun a z ha n => by
  have ne : a ≠ p := fun q => by rw [q, e] at n; cases n; exact nb rfl
  rw [upd_ne ne, put_ne ne]
  exact ⟨ha, n⟩⟩
theorem RO.stepN {H' : Hp} {h' : Hv} {a : Addr} {o : Ob} (s : StepN h H h' H') (e : ∀ u, H a = some u → H' a = some u) (r : RO K H h a o) : RO K H' h' a o := by
  cases o with
  | lst vs => obtain ⟨xs, e1, q⟩ := r; exact ⟨xs, e _ e1, q.stepN s⟩
  | dK vs => obtain ⟨xs, e1, q⟩ := r; exact ⟨xs, e _ e1, q.stepN s⟩
  | dT vs => obtain ⟨xs, e1, q⟩ := r; exact ⟨xs, e _ e1, q.stepN s⟩
  | ins C fs =>
    obtain ⟨dx, xs, e1, e2, n, q⟩ := r
    have := s dx _ e2 n (fun _ z => nomatch z)
    exact ⟨dx, xs, e _ e1, this.1, this.2, q.stepN s⟩
  | dF o xs kvs => exact ⟨e _ r.1, r.2.stepN s⟩
  | dFT o xs kvs => exact ⟨e _ r.1, r.2.stepN s⟩
  | exc C => obtain ⟨oe, φ, e1, q⟩ := r; exact ⟨oe, φ, e _ e1, q⟩
  | excd C v =>
    obtain ⟨oe, φ, dd, x, e1, z, f, e2, n, rv⟩ := r
    have := s dd _ e2 n (fun _ z => nomatch z)
    exact ⟨oe, φ, dd, x, e _ e1, z, f, this.1, this.2, rv.stepN s⟩
  | tab q =>
    obtain ⟨ps, e1, t, k⟩ := r
    refine ⟨ps, e _ e1, t, fun pos cv hc => ?_⟩
    obtain ⟨c, ec, e2, n⟩ := k pos cv hc
    have := s c _ e2 n (fun _ z => LamX.codeO_ne _ z)
    exact ⟨c, ec, this.1, this.2⟩
  | dN w kvs => obtain ⟨xs, e1, q⟩ := r; exact ⟨xs, e _ e1, q.stepN s⟩
  | busy => obtain ⟨o, e1, n⟩ := r; exact ⟨o, e _ e1, n⟩
theorem RO.step {H' : Hp} {h' : Hv} {a : Addr} {o : Ob} (s : Step h H h' H') (e : ∀ u, H a = some u → H' a = some u) (r : RO K H h a o) : RO K H' h' a o := r.stepN s.n e
theorem RH.fresh {p : Addr} {o : HO} (r : RH K H h) (e : H p = none) : RH K (upd H p o) h := fun a u q =>
  (r a u q).step (Step.fresh e) fun w z => by rw [upd_ne (ne_of_none z e)]; exact z
theorem RH.new {p : Addr} {o : HO} {u : Ob} (r : RH K H h) (e : H p = none) (n : RO K (upd H p o) (put h p u) p u) : RH K (upd H p o) (put h p u) := fun a w q => by
  by_cases ha : a = p
  · subst ha
    rw [put_same] at q
    cases q
    exact n
  · rw [put_ne ha] at q
    exact (r a w q).step (Step.new e) fun w z => by rw [upd_ne ha]; exact z
theorem RH.write {p : Addr} {o : HO} {u w : Ob} (r : RH K H h) (e : h p = some u) (nb : u ≠ .busy) (n : RO K (upd H p o) (put h p w) p w) : RH K (upd H p o) (put h p w) := fun a z q => by
  by_cases ha : a = p
  · subst ha
    rw [put_same] at q
    cases q
    exact n
  · rw [put_ne ha] at q
    exact (r a z q).step (Step.write e nb) fun w z => by rw [upd_ne ha]; exact z
def drop (h : Hv) (p : Addr) : Hv := fun b => if b = p then none else h b
theorem drop_same {p : Addr} : drop h p p = none := by unfold drop; rw [if_pos rfl]
theorem drop_ne {p b : Addr} (e : b ≠ p) : drop h p b = h b := by unfold drop; rw [if_neg e]
def Less (h h' : Hv) : Prop := ∀ a, h' a = none ∨ h' a = h a
theorem Less.refl (h : Hv) : Less h h := fun _ => .inr rfl
theorem Less.stepN {h' : Hv} (l : Less h h') : StepN h H h' H := fun a o e n _ => ⟨e, by rcases l a with z | z; exact z; rw [z]; exact n⟩
theorem RH.less {h' : Hv} (r : RH K H h) (l : Less h h') : RH K H h' := fun a o q => by
  rcases l a with z | z
  · rw [z] at q; cases q
  · rw [z] at q
    exact (r a o q).stepN l.stepN fun _ z => z
theorem less_drop {p : Addr} : Less h (drop h p) := fun a => by
  by_cases e : a = p
  · subst e; exact .inl drop_same
  · exact .inr (drop_ne e)
end
end DL
namespace DL
open PySem PySem.Spec PyProof.Rows L2
abbrev PV := Val → Hv → Prop
abbrev PX := Str → Option Val → Sl → Hv → Prop
abbrev ED := Sl → Hv → PV → PX → Prop
abbrev TD := Sl → Hv → (Bool → Hv → Prop) → PX → Prop
abbrev AD := Sl → Hv → (List Val → Hv → Prop) → PX → Prop
structure AE where
  nx : Sl → Hv → Prop
  rt : PV
  bk : Sl → Hv → Prop := fun _ _ => False
  ct : Sl → Hv → Prop := fun _ _ => False
abbrev SD := Sl → Hv → AE → PX → Prop
structure Bs where
  E : PX
  h0 : Hv
  H0 : Hp
structure ST (K : PySem.W.Frag) (B : Bs) (σ : L2.St) (H : Hp) (ρ : Sl) (h : Hv) : Prop where
  s : RS K H h ρ σ
  r : RH K H h
  b : Step B.h0 B.H0 h H
theorem ST.step {K : PySem.W.Frag} {B : Bs} {σ : L2.St} {H H' : Hp} {ρ : Sl} {h h' : Hv} (x : ST K B σ H ρ h) (s : Step h H h' H') (r : RH K H' h') : ST K B σ H' ρ h' :=
  ⟨x.s.step s, r, x.b.trans s⟩
theorem ST.set {K : PySem.W.Frag} {B : Bs} {σ : L2.St} {H : Hp} {ρ : Sl} {h : Hv} (x : ST K B σ H ρ h) (i : Nat) {v : Val} {y : V} (q : RV K H h v y) : ST K B (σ.set i (some y)) H (ρ.set i (some v)) h :=
  ⟨x.s.set i q, x.r, x.b⟩

def Cont (K : PySem.W.Frag) (h : Hv) (H : Hp) (Q' : PV) (Q : VK) : Prop := ∀ v h' x H', Q' v h' → Step h H h' H' → RV K H' h' v x → RH K H' h' → Q x H'
def ContB (K : PySem.W.Frag) (h : Hv) (H : Hp) (Q' : Bool → Hv → Prop) (Q : Bool → Hp → Prop) : Prop := ∀ b h' H', Q' b h' → Step h H h' H' → RH K H' h' → Q b H'
def ContA (K : PySem.W.Frag) (h : Hv) (H : Hp) (Q' : List Val → Hv → Prop) (Q : List V → Hp → Prop) : Prop := ∀ vs h' xs H', Q' vs h' → Step h H h' H' → RVs K H' h' vs xs → RH K H' h' → Q xs H'
def rdE (K : PySem.W.Frag) (B : Bs) (d : ED) : TE := fun σ H Q => ∃ ρ h Q', ST K B σ H ρ h ∧ d ρ h Q' B.E ∧ Cont K h H Q' Q
def rdT (K : PySem.W.Frag) (B : Bs) (d : TD) : TT := fun σ H Q => ∃ ρ h Q', ST K B σ H ρ h ∧ d ρ h Q' B.E ∧ ContB K h H Q' Q
def rdA (K : PySem.W.Frag) (B : Bs) (d : AD) : TA := fun σ H Q => ∃ ρ h Q', ST K B σ H ρ h ∧ d ρ h Q' B.E ∧ ContA K h H Q' Q
structure ContS (K : PySem.W.Frag) (B : Bs) (h : Hv) (H : Hp) (D' : AE) (D : Ends) : Prop where
  nx : ∀ ρ h' σ H', D'.nx ρ h' → Step h H h' H' → ST K B σ H' ρ h' → D.nx σ H'
  rt : ∀ v h' x H', D'.rt v h' → Step h H h' H' → RV K H' h' v x → RH K H' h' → D.rt x H'
  bk : ∀ ρ h' σ H', D'.bk ρ h' → Step h H h' H' → ST K B σ H' ρ h' → D.bk σ H'
  ct : ∀ ρ h' σ H', D'.ct ρ h' → Step h H h' H' → ST K B σ H' ρ h' → D.ct σ H'
def rdS (K : PySem.W.Frag) (B : Bs) (d : SD) : TS := fun D σ H => ∃ ρ h D', ST K B σ H ρ h ∧ d ρ h D' B.E ∧ ContS K B h H D' D

theorem Cont.trans {K : PySem.W.Frag} {h h1 : Hv} {H H1 : Hp} {Q' : PV} {Q : VK} (c : Cont K h H Q' Q) (s : Step h H h1 H1) : Cont K h1 H1 Q' Q := fun v h' x H' q s' => c v h' x H' q (s.trans s')
theorem ContB.trans {K : PySem.W.Frag} {h h1 : Hv} {H H1 : Hp} {Q' : Bool → Hv → Prop} {Q : Bool → Hp → Prop} (c : ContB K h H Q' Q) (s : Step h H h1 H1) : ContB K h1 H1 Q' Q := fun v h' H' q s' => c v h' H' q (s.trans s')
theorem ContA.trans {K : PySem.W.Frag} {h h1 : Hv} {H H1 : Hp} {Q' : List Val → Hv → Prop} {Q : List V → Hp → Prop} (c : ContA K h H Q' Q) (s : Step h H h1 H1) : ContA K h1 H1 Q' Q := fun v h' x H' q s' => c v h' x H' q (s.trans s')
theorem ContS.trans {K : PySem.W.Frag} {B : Bs} {h h1 : Hv} {H H1 : Hp} {D' : AE} {D : Ends} (c : ContS K B h H D' D) (s : Step h H h1 H1) : ContS K B h1 H1 D' D :=
  ⟨fun ρ h' σ H' q s' => c.nx ρ h' σ H' q (s.trans s'), fun v h' x H' q s' => c.rt v h' x H' q (s.trans s'), fun ρ h' σ H' q s' => c.bk ρ h' σ H' q (s.trans s'), fun ρ h' σ H' q s' => c.ct ρ h' σ H' q (s.trans s')⟩

abbrev DE (X : Cx) (B : Bs) (e : Expr) (d : ED) : Prop := PE X e (rdE X.K B d)
abbrev DT (X : Cx) (B : Bs) (e : Expr) (d : TD) : Prop := PT X e (rdT X.K B d)
abbrev DW (X : Cx) (B : Bs) (e : Expr) (d : TD) : Prop := PW X e (rdT X.K B d)
abbrev DA (X : Cx) (B : Bs) (es : List Expr) (d : AD) : Prop := PA X es (rdA X.K B d)
abbrev DS (X : Cx) (B : Bs) (st : Stmt) (d : SD) : Prop := PS X st (rdS X.K B d)
abbrev DSs (X : Cx) (B : Bs) (sts : List Stmt) (d : SD) : Prop := PSs X sts (rdS X.K B d)

theorem PEi {X : Cx} {e : Expr} {t t' : TE} (p : PE X e t) (i : ∀ σ H Q, t' σ H Q → t σ H Q) : PE X e t' := ⟨fun pins s σ H Q I q => p.run pins s σ H Q I (i σ H Q q)⟩
theorem PTi {X : Cx} {e : Expr} {t t' : TT} (p : PT X e t) (i : ∀ σ H Q, t' σ H Q → t σ H Q) : PT X e t' := ⟨fun pins s σ H Q I q => p.run pins s σ H Q I (i σ H Q q)⟩
theorem PWi {X : Cx} {e : Expr} {t t' : TT} (p : PW X e t) (i : ∀ σ H Q, t' σ H Q → t σ H Q) : PW X e t' := ⟨fun w pins s σ H Q I q => p.run w pins s σ H Q I (i σ H Q q)⟩
theorem PAi {X : Cx} {e : List Expr} {t t' : TA} (p : PA X e t) (i : ∀ σ H Q, t' σ H Q → t σ H Q) : PA X e t' := ⟨fun w pins s σ H Q I q => p.run w pins s σ H Q I (i σ H Q q)⟩
theorem PSi {X : Cx} {e : Stmt} {t t' : TS} (p : PS X e t) (i : ∀ D σ H, t' D σ H → t D σ H) : PS X e t' := ⟨fun pins s σ H D I q => p.run pins s σ H D I (i D σ H q)⟩
theorem PSsi {X : Cx} {e : List Stmt} {t t' : TS} (p : PSs X e t) (i : ∀ D σ H, t' D σ H → t D σ H) : PSs X e t' := ⟨fun pins s σ H D I q => p.run pins s σ H D I (i D σ H q)⟩

section
variable {K : PySem.W.Frag} {h : Hv} {H : Hp} {Q' : PV} {Q : VK}
theorem Cont.val (c : Cont K h H Q' Q) (r : RH K H h) {v : Val} {x : V} (rv : RV K H h v x) (q : Q' v h) : Q x H := c v h x H q (Step.refl _ _) rv r
theorem Cont.tup (c : Cont K h H Q' Q) (r : RH K H h) {vs : List Val} {xs : List V} {p : Addr} (rs : RVs K H h vs xs) (e : H p = none) (q : Q' (.tup vs) h) : Q (.ref p) (upd H p (.tup xs)) :=
  c _ _ _ _ q (Step.fresh e) (by rw [RV]; exact ⟨p, xs, rfl, r.nof e, upd_same, rs.step (Step.fresh e)⟩) (r.fresh e)
theorem Cont.lst (c : Cont K h H Q' Q) (r : RH K H h) {vs : List Val} {xs : List V} {p : Addr} (rs : RVs K H h vs xs) (e : H p = none) (q : Q' (.lst vs) h) : Q (.ref p) (upd H p (.lst xs)) :=
  c _ _ _ _ q (Step.fresh e) (by rw [RV]; exact ⟨p, xs, rfl, r.nof e, upd_same, rs.step (Step.fresh e)⟩) (r.fresh e)
theorem Cont.lstH (c : Cont K h H Q' Q) (r : RH K H h) {vs : List Val} {xs : List V} {p : Addr} (rs : RVs K H h vs xs) (e : H p = none) (q : Q' (.ref p) (put h p (.lst vs))) : Q (.ref p) (upd H p (.lst xs)) :=
  c _ _ _ _ q (Step.new e) (by rw [RV]) (r.new e ⟨xs, upd_same, rs.step (Step.new e)⟩)
end
section
variable {X : Cx} {B : Bs} {a b c e : Expr} {da db dc d : ED} {pos : Pos}
@[simp] def dVar (i : Nat) : ED := fun ρ h Q _ => match ρ[i]? with
  | some (some v) => Q v h
  | _ => False
@[simp] def dC (v : Val) : ED := fun _ h Q _ => Q v h
theorem de_var (i : Nat) {x : Str} {pos : Pos} (hN : X.N[i]? = some x := by rfl) (hv : Vis X.env.scope x := by first | exact Or.inl rfl | exact Or.inr (Or.inl rfl) | exact Or.inr (Or.inr rfl)) (hd : (x == ("__debug__" : Str)) = false := by decide)
    (hcd : (x == ("__classdict__" : Str)) = false := by decide) : DE X B (.Name x pos) (dVar i) := PEi (pe_var hN hv hd hcd) fun σ H Q ⟨ρ, h, Q', S, q, C⟩ => by
  unfold dVar at q
  split at q
  · rename_i v e
    obtain ⟨x, e1, r⟩ := S.s.2 i v e
    exact ⟨x, e1, C.val S.r r q⟩
  · exact q.elim
theorem de_int {i : Int} {j} : DE X B (.Constant (.int i) j pos) (dC (.int i)) := PEi pe_int fun σ H Q ⟨ρ, h, Q', S, q, C⟩ => C.val S.r (by rw [RV]) q
theorem de_bl {i : Bool} {j} : DE X B (.Constant (.bool i) j pos) (dC (.bl i)) := PEi pe_bl fun σ H Q ⟨ρ, h, Q', S, q, C⟩ => C.val S.r (by rw [RV]) q
theorem de_str {i : Str} {j} : DE X B (.Constant (.str i) j pos) (dC (.str i)) := PEi pe_str fun σ H Q ⟨ρ, h, Q', S, q, C⟩ => C.val S.r (by rw [RV]) q
theorem de_non {j} : DE X B (.Constant .none j pos) (dC .non) := PEi pe_non fun σ H Q ⟨ρ, h, Q', S, q, C⟩ => C.val S.r (by rw [RV]) q
theorem de_gstr {x : Str} {i : Str} {t : Tok} (hg : Gl X x) (hm : X.mg x = some (.str i t)) (hd : (x == ("__debug__" : Str)) = false := by decide) : DE X B (.Name x pos) (dC (.str i)) :=
  PEi (pe_glob (v := .str i) hg hm ⟨_, rfl⟩ hd) fun σ H Q ⟨ρ, h, Q', S, q, C⟩ => C.val S.r (by rw [RV]) q
theorem de_ty {x : Str} {n : String} (hg : Gl X x) (hm : X.mg x = none) (hv : bootBuiltins x = some (.type n)) (hn : x ≠ "__name__" := by decide) (hd : (x == ("__debug__" : Str)) = false := by decide) : DE X B (.Name x pos) (dC (.ty n)) :=
  PEi (pe_bltn (v := .ty n) hg hm hv rfl hn hd) fun σ H Q ⟨ρ, h, Q', S, q, C⟩ => C.val S.r (by rw [RV]) q

abbrev F2 := Val → Val → Hv → PV → Prop
abbrev F1 := Val → Hv → PV → Prop
def OpL (K : PySem.W.Frag) (f : F2) (r : R2) : Prop := ∀ v w x y h H Q' Q, RH K H h → RV K H h v x → RV K H h w y → f v w h Q' → Cont K h H Q' Q → r x y H Q
def UnL (K : PySem.W.Frag) (f : F1) (r : V → Hp → VK → Prop) : Prop := ∀ v x h H Q' Q, RH K H h → RV K H h v x → f v h Q' → Cont K h H Q' Q → r x H Q
@[simp] def dBin (f : F2) (da db : ED) : ED := fun ρ h Q E => da ρ h (fun v h1 => db ρ h1 (fun w h2 => f v w h2 Q) E) E
@[simp] def dUn (f : F1) (da : ED) : ED := fun ρ h Q E => da ρ h (fun v h1 => f v h1 Q) E
theorem rd_bin {f : F2} {r : R2} {K : PySem.W.Frag} (hl : OpL K f r) : ∀ σ H Q, rdE K B (dBin f da db) σ H Q → tOp r (rdE K B da) (rdE K B db) σ H Q := by
  rintro σ H Q ⟨ρ, h, Q', S, q, C⟩
  refine ⟨ρ, h, _, S, q, fun v h1 x H1 q1 s1 rv1 r1 => ?_⟩
  refine ⟨ρ, h1, _, S.step s1 r1, q1, fun w h2 y H2 q2 s2 rv2 r2 => ?_⟩
  exact hl v w x y h2 H2 Q' Q r2 (rv1.step s2) rv2 q2 (C.trans (s1.trans s2))
theorem de_op {op : Operator} {f : F2} {r : R2} (ho : OpR X (binaryOp op) r) (hl : OpL X.K f r) (ha : DE X B a da) (hb : DE X B b db) : DE X B (.BinOp a op b pos) (dBin f da db) :=
  PEi (pe_op ho ha hb) (rd_bin hl)
theorem de_un {op : UnaryOp} {f : F1} {r : V → Hp → VK → Prop} (ho : UnR X (unaryOp op) r) (hl : UnL X.K f r) (ha : DE X B a da) : DE X B (.UnaryOp op a pos) (dUn f da) :=
  PEi (pe_un ho ha) fun σ H Q ⟨ρ, h, Q', S, q, C⟩ => ⟨ρ, h, _, S, q, fun v h1 x H1 q1 s1 rv1 r1 => hl v x h1 H1 Q' Q r1 rv1 q1 (C.trans s1)⟩
theorem de_cmp {op : CmpOp} {f : F2} {r : R2} (ho : OpR X (compareOp op) r) (hl : OpL X.K f r) (ha : DE X B a da) (hb : DE X B b db) (hm : behindInMarks op b = false := by first | exact nomark _ | rfl) : DE X B (.Compare a [op] [b] pos) (dBin f da db) :=
  PEi (pe_cmpR ho ha hb hm) (rd_bin hl)
@[simp] def dTest (d : ED) : TD := fun ρ h Q E => d ρ h (fun v h1 => match v with
  | .bl k => Q k h1
  | _ => False) E
theorem rd_test {t : TE} {K : PySem.W.Frag} (hi : ∀ σ H Q, rdE K B d σ H Q → t σ H Q) : ∀ σ H Q, rdT K B (dTest d) σ H Q → tTest t σ H Q := by
  rintro σ H Q ⟨ρ, h, Q', S, q, C⟩
  refine hi _ _ _ ⟨ρ, h, _, S, q, fun v h1 x H1 q1 s1 rv1 r1 => ?_⟩
  cases v with
  | bl k =>
    rw [RV] at rv1
    exact ⟨k, rv1, C _ _ _ q1 s1 r1⟩
  | _ => exact q1.elim
theorem dt_cmp {op : CmpOp} {f : F2} {r : R2} (ho : OpR X (compareOp op) r) (hl : OpL X.K f r) (ha : DE X B a da) (hb : DE X B b db) (hm : behindInMarks op b = false := by first | exact nomark _ | rfl) : DT X B (.Compare a [op] [b] pos) (dTest (dBin f da db)) :=
  PTi (pt_cmpR ho ha hb hm) (rd_test (rd_bin hl))
@[simp] def dChain (f f' : F2) (da db dc : ED) : ED := fun ρ h Q E => da ρ h (fun v h1 => db ρ h1 (fun w h2 => f v w h2 (fun z h3 => match z with
  | .bl k => if k = true then dc ρ h3 (fun u h4 => f' w u h4 Q) E else Q (.bl false) h3
  | _ => False)) E) E
theorem rd_chain {f f' : F2} {r r' : R2} {K : PySem.W.Frag} (hl : OpL K f r) (hl' : OpL K f' r') : ∀ σ H Q, rdE K B (dChain f f' da db dc) σ H Q → tChain r r' (rdE K B da) (rdE K B db) (rdE K B dc) σ H Q := by
  rintro σ H Q ⟨ρ, h, Q', S, q, C⟩
  refine ⟨ρ, h, _, S, q, fun v h1 x H1 q1 s1 rv1 r1 => ?_⟩
  refine ⟨ρ, h1, _, S.step s1 r1, q1, fun w h2 y H2 q2 s2 rv2 r2 => ?_⟩
  refine hl v w x y h2 H2 _ _ r2 (rv1.step s2) rv2 q2 fun z h3 zx H3 q3 s3 rv3 r3 => ?_
  cases z with
  | bl k =>
    rw [RV] at rv3
    refine ⟨k, rv3, ?_⟩
    have s13 := s1.trans (s2.trans s3)
    cases k with
    | true =>
      dsimp only at q3; rw [if_pos rfl] at q3 ⊢
      exact ⟨ρ, h3, _, S.step s13 r3, q3, fun u h4 ux H4 q4 s4 rv4 r4 => hl' w u y ux h4 H4 Q' Q r4 (rv2.step (s3.trans s4)) rv4 q4 (C.trans (s13.trans s4))⟩
    | false =>
      dsimp only at q3; rw [if_neg Bool.false_ne_true] at q3 ⊢
      exact (C.trans s13).val r3 (by rw [RV]) q3
  | _ => exact q3.elim
theorem de_chain {op op' : CmpOp} {f f' : F2} {r r' : R2} (ho : OpR X (compareOp op) r) (ho' : OpR X (compareOp op') r') (hl : OpL X.K f r) (hl' : OpL X.K f' r') (ha : DE X B a da) (hb : DE X B b db) (hc : DE X B c dc)
    (hm : lastMarks [op, op'] [b, c] = false := by with_unfolding_all rfl) : DE X B (.Compare a [op, op'] [b, c] pos) (dChain f f' da db dc) := PEi (pe_chain ho ho' ha hb hc hm) (rd_chain hl hl')
theorem dt_chain {op op' : CmpOp} {f f' : F2} {r r' : R2} (ho : OpR X (compareOp op) r) (ho' : OpR X (compareOp op') r') (hl : OpL X.K f r) (hl' : OpL X.K f' r') (ha : DE X B a da) (hb : DE X B b db) (hc : DE X B c dc)
    (hm : lastMarks [op, op'] [b, c] = false := by with_unfolding_all rfl) : DT X B (.Compare a [op, op'] [b, c] pos) (dTest (dChain f f' da db dc)) := PTi (pt_chain ho ho' ha hb hc hm) (rd_test (rd_chain hl hl'))

@[simp] def truA (v : Val) (h : Hv) : Option Bool := match v with
  | .non => some false
  | .bl b => some b
  | .int i => some (i != 0)
  | .str y => if y.length ≤ sizeLine then some ((y.length : Int) != 0) else none
  | .tup vs => some (!vs.isEmpty)
  | .tpo vs => some (!vs.isEmpty)
  | .lst vs => some (!vs.isEmpty)
  | .scr ns => some (!ns.isEmpty)
  | .ref a => match h a with
    | some (.lst vs) => some (!vs.isEmpty)
    | some (.dK kvs) => some (!kvs.isEmpty)
    | _ => none
  | .ty _ => none
theorem RVs.empty {K : PySem.W.Frag} {H : Hp} {h : Hv} {vs : List Val} {xs : List V} (r : RVs K H h vs xs) : vs.isEmpty = xs.isEmpty := by
  cases vs with
  | nil => rw [RVs] at r; rw [r]; rfl
  | cons v vs => rw [RVs] at r; obtain ⟨y, ys, e, _⟩ := r; rw [e]; rfl
theorem RKs.empty {κ : Type} {K : PySem.W.Frag} {H : Hp} {h : Hv} {vs : List (κ × Val)} {xs : List (κ × V)} (r : RKs K H h vs xs) : vs.isEmpty = xs.isEmpty := by
  cases vs with
  | nil => rw [show xs = [] from r]; rfl
  | cons v vs => obtain ⟨y, ys, e, _⟩ := r; rw [e]; rfl
theorem scr_sql {K : PySem.W.Frag} {H : Hp} {h : Hv} {ns : List Int} {x : V} (r : RV K H h (.scr ns) x) : ∃ a, x = .ref a ∧ SqL K H a (ns.map V.int) := by
  rw [RV] at r
  obtain ⟨a, e, r⟩ := r
  refine ⟨a, e, ?_⟩
  rcases r with ⟨_, q⟩ | q
  · exact .inl q
  · exact .inr q
theorem tpo_sqt {K : PySem.W.Frag} {H : Hp} {h : Hv} {vs : List Val} {x : V} (r : RV K H h (.tpo vs) x) : ∃ a xs, x = .ref a ∧ SqT K H a xs ∧ RVs K H h vs xs := by
  rw [RV] at r
  obtain ⟨a, xs, o, e, _, ha, _, rs⟩ := r
  exact ⟨a, xs, e, .inl (.inr ⟨o, ha⟩), rs⟩
theorem tru_rel {K : PySem.W.Frag} {H : Hp} {h : Hv} {v : Val} {x : V} {k : Bool} (r : RH K H h) (rv : RV K H h v x) (e : truA v h = some k) : TruV K x H k := by
  cases v with
  | non => rw [RV] at rv; subst rv; exact (Option.some.inj e).symm
  | bl b => rw [RV] at rv; subst rv; exact (Option.some.inj e).symm
  | int b => rw [RV] at rv; subst rv; exact (Option.some.inj e).symm
  | str b =>
    rw [RV] at rv; subst rv
    unfold truA at e
    dsimp only at e
    split at e
    · rename_i hl; exact ⟨hl, (Option.some.inj e).symm⟩
    · cases e
  | tup vs =>
    rw [RV] at rv
    obtain ⟨a, xs, e1, _, ha, rs⟩ := rv
    subst e1
    refine .inr (.inl ⟨xs, .of ha, ?_⟩)
    rw [← rs.empty]; exact (Option.some.inj e).symm
  | tpo vs =>
    obtain ⟨a, xs, e1, ha, rs⟩ := tpo_sqt rv
    subst e1
    refine .inr (.inl ⟨xs, ha, ?_⟩)
    rw [← rs.empty]; exact (Option.some.inj e).symm
  | lst vs =>
    rw [RV] at rv
    obtain ⟨a, xs, e1, _, ha, rs⟩ := rv
    subst e1
    refine .inl ⟨xs, .of ha, ?_⟩
    rw [← rs.empty]; exact (Option.some.inj e).symm
  | scr ns =>
    obtain ⟨a, e1, hq⟩ := scr_sql rv
    subst e1
    refine .inl ⟨_, hq, ?_⟩
    rw [← (Option.some.inj e)]
    cases ns <;> rfl
  | ref a =>
    rw [RV] at rv; subst rv
    unfold truA at e
    dsimp only at e
    split at e
    · rename_i vs hv
      obtain ⟨xs, e1, rs⟩ := r a _ hv
      refine .inl ⟨xs, .of e1, ?_⟩
      rw [← rs.empty]; exact (Option.some.inj e).symm
    · rename_i vs hv
      obtain ⟨xs, e1, rs⟩ := r a _ hv
      refine .inr (.inr ⟨xs, e1, ?_⟩)
      rw [← rs.empty]; exact (Option.some.inj e).symm
    · cases e
  | ty n => cases e
@[simp] def dTruth (d : ED) : TD := fun ρ h Q E => d ρ h (fun v h1 => match truA v h1 with
  | some k => Q k h1
  | none => False) E
theorem dt_truth (ha : DE X B a da) (he : ∀ whole, isTrue a X.env whole = (do let v ← whole; standAt a.pos; holding [v] (truthy v)) := by intro _; rfl) : DT X B a (dTruth da) :=
  PTi (pt_truth ha he) fun σ H Q ⟨ρ, h, Q', S, q, C⟩ => ⟨ρ, h, _, S, q, fun v h1 x H1 q1 s1 rv1 r1 => by
    split at q1
    · rename_i k e
      exact ⟨k, tru_rel r1 rv1 e, C _ _ _ q1 s1 r1⟩
    · exact q1.elim⟩
variable {ta tb : TD} {rest : List Expr}
@[simp] def dAnd (ta tb : TD) : TD := fun ρ h Q E => ta ρ h (fun k h1 => if k = true then tb ρ h1 Q E else Q false h1) E
@[simp] def dOr (ta tb : TD) : TD := fun ρ h Q E => ta ρ h (fun k h1 => if k = true then Q true h1 else tb ρ h1 Q E) E
@[simp] def dNot (ta : TD) : TD := fun ρ h Q E => ta ρ h (fun k h1 => Q (!k) h1) E
theorem dw_and1 (ha : DT X B a ta) : DW X B (.BoolOp .And [a] pos) ta := pw_and1 ha
theorem dw_or1 (ha : DT X B a ta) : DW X B (.BoolOp .Or [a] pos) ta := pw_or1 ha
theorem dw_and (ha : DT X B a ta) (hb : DW X B (.BoolOp .And (b :: rest) pos) tb) : DW X B (.BoolOp .And (a :: b :: rest) pos) (dAnd ta tb) :=
  PWi (pw_and ha hb) fun σ H Q ⟨ρ, h, Q', S, q, C⟩ => ⟨ρ, h, _, S, q, fun k h1 H1 q1 s1 r1 => by
    cases k with
    | true =>
      rw [if_pos rfl] at q1 ⊢
      exact ⟨ρ, h1, _, S.step s1 r1, q1, C.trans s1⟩
    | false =>
      rw [if_neg Bool.false_ne_true] at q1 ⊢
      exact C _ _ _ q1 s1 r1⟩
theorem dw_or (ha : DT X B a ta) (hb : DW X B (.BoolOp .Or (b :: rest) pos) tb) : DW X B (.BoolOp .Or (a :: b :: rest) pos) (dOr ta tb) :=
  PWi (pw_or ha hb) fun σ H Q ⟨ρ, h, Q', S, q, C⟩ => ⟨ρ, h, _, S, q, fun k h1 H1 q1 s1 r1 => by
    cases k with
    | false =>
      rw [if_neg Bool.false_ne_true] at q1 ⊢
      exact ⟨ρ, h1, _, S.step s1 r1, q1, C.trans s1⟩
    | true =>
      rw [if_pos rfl] at q1 ⊢
      exact C _ _ _ q1 s1 r1⟩
theorem dt_w (ha : DW X B a ta) : DT X B a ta := ha.pt
theorem dt_not (ha : DT X B a ta) : DT X B (.UnaryOp .Not a pos) (dNot ta) :=
  PTi (pt_not ha) fun σ H Q ⟨ρ, h, Q', S, q, C⟩ => ⟨ρ, h, _, S, q, fun k h1 H1 q1 s1 r1 => C _ _ _ q1 s1 r1⟩
@[simp] def vAnd (da db : ED) : ED := fun ρ h Q E => da ρ h (fun v h1 => match truA v h1 with
  | some k => if k = true then db ρ h1 Q E else Q v h1
  | none => False) E
@[simp] def vOr (da db : ED) : ED := fun ρ h Q E => da ρ h (fun v h1 => match truA v h1 with
  | some k => if k = true then Q v h1 else db ρ h1 Q E
  | none => False) E
@[simp] def vNot (da : ED) : ED := fun ρ h Q E => da ρ h (fun v h1 => match truA v h1 with
  | some k => Q (.bl (!k)) h1
  | none => False) E
theorem de_one {op} (ha : DE X B a da) : DE X B (.BoolOp op [a] pos) da := pe_one ha
theorem de_and (ha : DE X B a da) (hb : DE X B (.BoolOp .And (b :: rest) pos) db) : DE X B (.BoolOp .And (a :: b :: rest) pos) (vAnd da db) :=
  PEi (pe_andT ha hb) fun σ H Q ⟨ρ, h, Q', S, q, C⟩ => ⟨ρ, h, _, S, q, fun v h1 x H1 q1 s1 rv1 r1 => by
    split at q1
    · rename_i k e
      refine ⟨k, tru_rel r1 rv1 e, ?_⟩
      cases k with
      | true =>
        rw [if_pos rfl] at q1 ⊢
        exact ⟨ρ, h1, _, S.step s1 r1, q1, C.trans s1⟩
      | false =>
        rw [if_neg Bool.false_ne_true] at q1 ⊢
        exact C _ _ _ _ q1 s1 rv1 r1
    · exact q1.elim⟩
theorem de_or (ha : DE X B a da) (hb : DE X B (.BoolOp .Or (b :: rest) pos) db) : DE X B (.BoolOp .Or (a :: b :: rest) pos) (vOr da db) :=
  PEi (pe_orT ha hb) fun σ H Q ⟨ρ, h, Q', S, q, C⟩ => ⟨ρ, h, _, S, q, fun v h1 x H1 q1 s1 rv1 r1 => by
    split at q1
    · rename_i k e
      refine ⟨k, tru_rel r1 rv1 e, ?_⟩
      cases k with
      | false =>
        rw [if_neg Bool.false_ne_true] at q1 ⊢
        exact ⟨ρ, h1, _, S.step s1 r1, q1, C.trans s1⟩
      | true =>
        rw [if_pos rfl] at q1 ⊢
        exact C _ _ _ _ q1 s1 rv1 r1
    · exact q1.elim⟩
theorem de_not (ha : DE X B a da) : DE X B (.UnaryOp .Not a pos) (vNot da) :=
  PEi (pe_notT ha) fun σ H Q ⟨ρ, h, Q', S, q, C⟩ => ⟨ρ, h, _, S, q, fun v h1 x H1 q1 s1 rv1 r1 => by
    split at q1
    · rename_i k e
      exact ⟨k, tru_rel r1 rv1 e, C _ _ _ _ q1 s1 (by rw [RV]) r1⟩
    · exact q1.elim⟩
@[simp] def dIfE (t : TD) (da db : ED) : ED := fun ρ h Q E => t ρ h (fun k h1 => if k = true then da ρ h1 Q E else db ρ h1 Q E) E
theorem de_if (hc : DT X B c ta) (ha : DE X B a da) (hb : DE X B b db) : DE X B (.IfExp c a b pos) (dIfE ta da db) :=
  PEi (pe_ifExp hc ha hb) fun σ H Q ⟨ρ, h, Q', S, q, C⟩ => ⟨ρ, h, _, S, q, fun k h1 H1 q1 s1 r1 => by
    cases k with
    | true =>
      rw [if_pos rfl] at q1 ⊢
      exact ⟨ρ, h1, _, S.step s1 r1, q1, C.trans s1⟩
    | false =>
      rw [if_neg Bool.false_ne_true] at q1 ⊢
      exact ⟨ρ, h1, _, S.step s1 r1, q1, C.trans s1⟩⟩

variable {es : List Expr} {aa : AD}
@[simp] def aNil : AD := fun _ h Q _ => Q [] h
@[simp] def aCons (da : ED) (dr : AD) : AD := fun ρ h Q E => da ρ h (fun v h1 => dr ρ h1 (fun vs h2 => Q (v :: vs) h2) E) E
theorem da_nil : DA X B [] aNil := PAi pa_nil fun σ H Q ⟨ρ, h, Q', S, q, C⟩ => C _ _ _ _ q (Step.refl _ _) RVs.nil S.r
theorem da_cons (ha : DE X B e d) (hr : DA X B es aa) (hs : starEach (e :: es) X.env = (false, eval e X.env) :: starEach es X.env := by rfl) : DA X B (e :: es) (aCons d aa) :=
  PAi (pa_cons ha hr hs) fun σ H Q ⟨ρ, h, Q', S, q, C⟩ => ⟨ρ, h, _, S, q, fun v h1 x H1 q1 s1 rv1 r1 =>
    ⟨ρ, h1, _, S.step s1 r1, q1, fun vs h2 xs H2 q2 s2 rv2 r2 => C _ _ _ _ q2 (s1.trans s2) (RVs.cons (rv1.step s2) rv2) r2⟩⟩
@[simp] def dTup (aa : AD) : ED := fun ρ h Q E => aa ρ h (fun vs h1 => vs.length ≤ sizeLine ∧ Q (.tup vs) h1) E
@[simp] def dLst (aa : AD) : ED := fun ρ h Q E => aa ρ h (fun vs h1 => vs.length ≤ sizeLine ∧ Q (.lst vs) h1) E
@[simp] def dLstH (aa : AD) : ED := fun ρ h Q E => aa ρ h (fun vs h1 => vs.length ≤ sizeLine ∧ ∀ p, h1 p = none → Q (.ref p) (put h1 p (.lst vs))) E
theorem de_tup {k} (ha : DA X B es aa) : DE X B (.Tuple es k pos) (dTup aa) :=
  PEi (pe_tup ha) fun σ H Q ⟨ρ, h, Q', S, q, C⟩ => ⟨ρ, h, _, S, q, fun vs h1 xs H1 q1 s1 rv1 r1 => ⟨by rw [← rv1.len]; exact q1.1, fun p e => (C.trans s1).tup r1 rv1 e q1.2⟩⟩
theorem de_lst (ha : DA X B es aa) : DE X B (.List es pos) (dLst aa) :=
  PEi (pe_lst ha) fun σ H Q ⟨ρ, h, Q', S, q, C⟩ => ⟨ρ, h, _, S, q, fun vs h1 xs H1 q1 s1 rv1 r1 => ⟨by rw [← rv1.len]; exact q1.1, fun p e => (C.trans s1).lst r1 rv1 e q1.2⟩⟩
theorem de_lstH (ha : DA X B es aa) : DE X B (.List es pos) (dLstH aa) :=
  PEi (pe_lst ha) fun σ H Q ⟨ρ, h, Q', S, q, C⟩ => ⟨ρ, h, _, S, q, fun vs h1 xs H1 q1 s1 rv1 r1 => ⟨by rw [← rv1.len]; exact q1.1, fun p e => (C.trans s1).lstH r1 rv1 e (q1.2 p (r1.nof e))⟩⟩

abbrev FA := List Val → Hv → PV → Prop
def CaL (K : PySem.W.Frag) (f : FA) (r : List V → Hp → VK → Prop) : Prop := ∀ vs xs h H Q' Q, RH K H h → RVs K H h vs xs → f vs h Q' → Cont K h H Q' Q → r xs H Q
@[simp] def dCB (f : FA) (aa : AD) : ED := fun ρ h Q E => aa ρ h (fun vs h1 => f vs h1 Q) E
theorem rd_cb {f : FA} {r : List V → Hp → VK → Prop} {K : PySem.W.Frag} (hl : CaL K f r) : ∀ σ H Q, rdE K B (dCB f aa) σ H Q → tCB r (rdA K B aa) σ H Q := fun σ H Q ⟨ρ, h, Q', S, q, C⟩ =>
  ⟨ρ, h, _, S, q, fun vs h1 xs H1 q1 s1 rv1 r1 => hl vs xs h1 H1 Q' Q r1 rv1 q1 (C.trans s1)⟩
theorem de_callB {x : Str} {id : String} {p : Pos} {f : FA} {r : List V → Hp → VK → Prop} (hc : CallR X (.builtin id) r) (hl : CaL X.K f r) (hg : Gl X x) (hm : X.mg x = none) (hv : bootBuiltins x = some (.builtin id)) (ha : DA X B (e :: es) aa) (hn : x ≠ "__name__" := by decide) (hdb : (x == ("__debug__" : Str)) = false := by decide)
    (he : starEach (e :: es) X.env = (false, eval e X.env) :: starEach es X.env := by rfl) (hpl : (backTo pos (starEach es X.env)).any (·.1) = false := by rfl) : DE X B (.Call (.Name x p) (e :: es) [] pos) (dCB f aa) :=
  PEi (pe_callB hc hg hm hv ha hn hdb he hpl) (rd_cb hl)
theorem de_callTy {x : Str} {T : String} {p : Pos} {f : FA} {r : List V → Hp → VK → Prop} (hc : CallR X (.type T) r) (hl : CaL X.K f r) (hg : Gl X x) (hm : X.mg x = none) (hv : bootBuiltins x = some (.type T)) (ha : DA X B (e :: es) aa) (hn : x ≠ "__name__" := by decide) (hdb : (x == ("__debug__" : Str)) = false := by decide)
    (he : starEach (e :: es) X.env = (false, eval e X.env) :: starEach es X.env := by rfl) (hpl : (backTo pos (starEach es X.env)).any (·.1) = false := by rfl) : DE X B (.Call (.Name x p) (e :: es) [] pos) (dCB f aa) :=
  PEi (pe_callTy hc hg hm hv ha hn hdb he hpl) (rd_cb hl)
end
end DL
namespace DL
open PySem PySem.Spec PyProof.Rows L2
@[simp] def fI (C : Int → Int → Prop) (g : Int → Int → Val) : F2 := fun v w h Q => match v, w with
  | .int i, .int j => C i j ∧ Q (g i j) h
  | _, _ => False
@[simp] def fI0 (g : Int → Int → Val) : F2 := fun v w h Q => match v, w with
  | .int i, .int j => Q (g i j) h
  | _, _ => False
section
variable {K : PySem.W.Frag}
theorem rv_bl {H : Hp} {h : Hv} {b : Bool} : RV K H h (.bl b) (.bl b) := by rw [RV]
theorem rv_int {H : Hp} {h : Hv} {b : Int} : RV K H h (.int b) (.int b) := by rw [RV]
theorem rv_str {H : Hp} {h : Hv} {b : Str} : RV K H h (.str b) (.str b) := by rw [RV]
theorem rv_non {H : Hp} {h : Hv} : RV K H h .non .non := by rw [RV]
theorem ol_I {C : Int → Int → Prop} {g : Int → Int → Int} : OpL K (fI C fun i j => .int (g i j)) (rI C fun i j => .int (g i j)) := fun v w x y h H Q' Q r rv rw' q c => by
  cases v <;> cases w <;> first | exact q.elim | (rw [RV] at rv rw'; exact ⟨_, _, rv, rw', q.1, c.val r (by rw [RV]) q.2⟩)
theorem ol_I0 {g : Int → Int → Int} : OpL K (fI0 fun i j => .int (g i j)) (rI0 fun i j => .int (g i j)) := fun v w x y h H Q' Q r rv rw' q c => by
  cases v <;> cases w <;> first | exact q.elim | (rw [RV] at rv rw'; exact ⟨_, _, rv, rw', c.val r (by rw [RV]) q⟩)
theorem ol_B0 {g : Int → Int → Bool} : OpL K (fI0 fun i j => .bl (g i j)) (rI0 fun i j => .bl (g i j)) := fun v w x y h H Q' Q r rv rw' q c => by
  cases v <;> cases w <;> first | exact q.elim | (rw [RV] at rv rw'; exact ⟨_, _, rv, rw', c.val r (by rw [RV]) q⟩)
@[simp] def fNeg : F1 := fun v h Q => match v with
  | .int i => Q (.int (-i)) h
  | _ => False
theorem ul_neg : UnL K fNeg (rU fun i => .int (-i)) := fun v x h H Q' Q r rv q c => by
  cases v <;> first | exact q.elim | (rw [RV] at rv; exact ⟨_, rv, c.val r (by rw [RV]) q⟩)
abbrev fSub : F2 := fI0 fun i j => .int (i - j)
abbrev fDiv : F2 := fI CDiv fun i j => .int (i / j)
abbrev fMod : F2 := fI (fun _ j => 0 < j) fun i j => .int (i % j)
abbrev fPow : F2 := fI CPow fun i j => .int (i ^ j.toNat)
abbrev fLe : F2 := fI0 fun i j => .bl (decide (i ≤ j))
abbrev fGt : F2 := fI0 fun i j => .bl (decide (j < i))
abbrev fGe : F2 := fI0 fun i j => .bl (decide (j ≤ i))

@[simp] def listOf (v : Val) (h : Hv) : Option (List Val) := match v with
  | .lst vs => some vs
  | .ref a => match h a with
    | some (.lst vs) => some vs
    | _ => none
  | _ => none
theorem listOf_rel {H : Hp} {h : Hv} {v : Val} {x : V} {vs : List Val} (r : RH K H h) (rv : RV K H h v x) (e : listOf v h = some vs) : ∃ a xs, x = .ref a ∧ H a = some (.lst xs) ∧ RVs K H h vs xs := by
  cases v with
  | lst ws =>
    rw [RV] at rv
    obtain ⟨a, xs, e1, _, ha, rs⟩ := rv
    cases e
    exact ⟨a, xs, e1, ha, rs⟩
  | ref a =>
    rw [RV] at rv
    unfold listOf at e
    dsimp only at e
    split at e
    · rename_i ws hw
      cases e
      obtain ⟨xs, e1, rs⟩ := r a _ hw
      exact ⟨a, xs, rv, e1, rs⟩
    · cases e
  | _ => cases e
@[simp] def fAdd : F2 := fun v w h Q => match v, w with
  | .int i, .int j => Q (.int (i + j)) h
  | .str a, .str b => a.length + b.length ≤ sizeLine ∧ Q (.str (a ++ b)) h
  | .tup xs, .tup ys => xs.length + ys.length ≤ sizeLine ∧ Q (.tup (xs ++ ys)) h
  | .tpo xs, .tpo ys => xs ≠ [] ∧ ys ≠ [] ∧ xs.length + ys.length ≤ sizeLine ∧ Q (.tup (xs ++ ys)) h
  | .tpo xs, .tup ys => xs ≠ [] ∧ ys ≠ [] ∧ xs.length + ys.length ≤ sizeLine ∧ Q (.tup (xs ++ ys)) h
  | _, _ => match listOf v h, listOf w h with
    | some xs, some ys => xs.length + ys.length ≤ sizeLine ∧ Q (.lst (xs ++ ys)) h
    | _, _ => False
@[simp] def fAddH : F2 := fun v w h Q => match listOf v h, listOf w h with
    | some xs, some ys => xs.length + ys.length ≤ sizeLine ∧ ∀ p, h p = none → Q (.ref p) (put h p (.lst (xs ++ ys)))
    | _, _ => False
def rAddA (K : PySem.W.Frag) : R2 := fun x y H Q => rI0 (fun i j => .int (i + j)) x y H Q ∨ (∃ i j, x = .str i ∧ y = .str j ∧ i.length + j.length ≤ sizeLine ∧ Q (.str (i ++ j)) H) ∨ rCatA K x y H Q ∨ rCat x y H Q
theorem or_add {X : Cx} : OpR X (binaryOp .Add) (rAddA X.K) := op_add.or (op_add_str.or (op_catA.or op_cat))
theorem fAdd_lists {v w : Val} {x y : V} {h : Hv} {H : Hp} {Q' : PV} {Q : VK} (r : RH K H h) (rv : RV K H h v x) (rw' : RV K H h w y)
    (q : match listOf v h, listOf w h with
    | some xs, some ys => xs.length + ys.length ≤ sizeLine ∧ Q' (.lst (xs ++ ys)) h
    | _, _ => False) (c : Cont K h H Q' Q) : rCat x y H Q := by
  split at q
  · rename_i xs ys e1 e2
    obtain ⟨a, us, ea, ha, ra⟩ := listOf_rel r rv e1
    obtain ⟨b, ws, eb, hb, rb⟩ := listOf_rel r rw' e2
    exact ⟨a, b, us, ws, ea, eb, ha, hb, by rw [← ra.len, ← rb.len]; exact q.1, fun p e => c.lst r (ra.append rb) e q.2⟩
  · exact q.elim
theorem ol_add : OpL K fAdd (rAddA K) := fun v w x y h H Q' Q r rv rw' q c => by
  unfold fAdd at q
  split at q
  · rw [RV] at rv rw'; exact .inl ⟨_, _, rv, rw', c.val r (by rw [RV]) q⟩
  · rw [RV] at rv rw'; exact .inr (.inl ⟨_, _, rv, rw', q.1, c.val r (by rw [RV]) q.2⟩)
  · rename_i xs ys
    have rv0 := rv
    have rw0 := rw'
    rw [RV] at rv rw'
    obtain ⟨a, us, ea, na, ha, ra⟩ := rv
    obtain ⟨b, ws, eb, nb, hb, rb⟩ := rw'
    refine .inr (.inr (.inl ⟨a, b, us, ws, ea, eb, .of ha, .of hb, by rw [← ra.len, ← rb.len]; exact q.1, fun e => ?_, fun e1 e2 => ?_, fun _ _ p e => c.tup r (ra.append rb) e q.2⟩))
    · have : xs = [] := List.eq_nil_of_length_eq_zero (by rw [ra.len, e]; rfl)
      subst this
      rw [← eb]
      exact c.val r rw0 q.2
    · have : ys = [] := List.eq_nil_of_length_eq_zero (by rw [rb.len, e2]; rfl)
      subst this
      rw [← ea]
      have q2 := q.2
      rw [List.append_nil] at q2
      exact c.val r rv0 q2
  · rename_i xs ys
    obtain ⟨n1, n2, ql, q⟩ := q
    obtain ⟨a, us, ea, ha, ra⟩ := tpo_sqt rv
    obtain ⟨b, ws, eb, hb, rb⟩ := tpo_sqt rw'
    refine .inr (.inr (.inl ⟨a, b, us, ws, ea, eb, ha, hb, by rw [← ra.len, ← rb.len]; exact ql, fun e => ?_, fun e1 e2 => ?_, fun _ _ p e => c.tup r (ra.append rb) e q⟩))
    · exact absurd (List.eq_nil_of_length_eq_zero (by rw [ra.len, e]; rfl)) n1
    · exact absurd (List.eq_nil_of_length_eq_zero (by rw [rb.len, e2]; rfl)) n2
  · rename_i xs ys
    obtain ⟨n1, n2, ql, q⟩ := q
    obtain ⟨a, us, ea, ha, ra⟩ := tpo_sqt rv
    rw [RV] at rw'
    obtain ⟨b, ws, eb, nb, hb, rb⟩ := rw'
    refine .inr (.inr (.inl ⟨a, b, us, ws, ea, eb, ha, .of hb, by rw [← ra.len, ← rb.len]; exact ql, fun e => ?_, fun e1 e2 => ?_, fun _ _ p e => c.tup r (ra.append rb) e q⟩))
    · exact absurd (List.eq_nil_of_length_eq_zero (by rw [ra.len, e]; rfl)) n1
    · exact absurd (List.eq_nil_of_length_eq_zero (by rw [rb.len, e2]; rfl)) n2
  · exact .inr (.inr (.inr (fAdd_lists r rv rw' q c)))
mutual
def dat : Val → Option PyData
  | .non => some .none
  | .bl b => some (.bool b)
  | .int i => some (.int i)
  | .str x => some (.str x)
  | .tup vs => (dats vs).map .tuple
  | .tpo vs => (dats vs).map .tuple
  | .lst vs => (dats vs).map .list
  | .scr ns => some (.list (ns.map .int))
  | .ref _ => none
  | .ty _ => none
def dats : List Val → Option (List PyData)
  | [] => some []
  | v :: vs => match dat v, dats vs with
    | some d, some ds => some (d :: ds)
    | _, _ => none
end
theorem dpAll_ints {H : Hp} : ∀ ns : List Int, DpAll K H (ns.map V.int) (ns.map PyData.int)
  | [] => .nil
  | n :: ns => .cons (.int n) (dpAll_ints ns)
mutual
theorem dat_rel {H : Hp} {h : Hv} : ∀ {v : Val} {x : V} {d : PyData}, RV K H h v x → dat v = some d → Dp K H x d
  | .non, x, d, r, e => by rw [RV] at r; rw [dat] at e; cases e; subst r; exact .non
  | .bl b, x, d, r, e => by rw [RV] at r; rw [dat] at e; cases e; subst r; exact .bl b
  | .int b, x, d, r, e => by rw [RV] at r; rw [dat] at e; cases e; subst r; exact .int b
  | .str b, x, d, r, e => by rw [RV] at r; rw [dat] at e; cases e; subst r; exact .str b
  | .tup vs, x, d, r, e => by
    rw [RV] at r; rw [dat] at e
    obtain ⟨a, xs, e1, n, ha, rs⟩ := r
    obtain ⟨ds, e2, e3⟩ := Option.map_eq_some_iff.mp e
    subst e1 e3
    exact .tup (.of ha) (dats_rel rs e2)
  | .tpo vs, x, d, r, e => by
    rw [dat] at e
    obtain ⟨a, xs, e1, ha, rs⟩ := tpo_sqt r
    obtain ⟨ds, e2, e3⟩ := Option.map_eq_some_iff.mp e
    subst e1 e3
    exact .tup ha (dats_rel rs e2)
  | .lst vs, x, d, r, e => by
    rw [RV] at r; rw [dat] at e
    obtain ⟨a, xs, e1, n, ha, rs⟩ := r
    obtain ⟨ds, e2, e3⟩ := Option.map_eq_some_iff.mp e
    subst e1 e3
    exact .lst (.of ha) (dats_rel rs e2)
  | .scr ns, x, d, r, e => by
    obtain ⟨a, e1, q⟩ := scr_sql r
    rw [dat] at e; cases e
    subst e1
    exact .lst q (dpAll_ints ns)
  | .ref a, x, d, r, e => by rw [dat] at e; cases e
  | .ty a, x, d, r, e => by rw [dat] at e; cases e
theorem dats_rel {H : Hp} {h : Hv} : ∀ {vs : List Val} {xs : List V} {ds : List PyData}, RVs K H h vs xs → dats vs = some ds → DpAll K H xs ds
  | [], xs, ds, r, e => by rw [RVs] at r; rw [dats] at e; cases e; subst r; exact .nil
  | v :: vs, xs, ds, r, e => by
    rw [RVs] at r; rw [dats] at e
    obtain ⟨y, ys, e1, r1, r2⟩ := r
    split at e
    · rename_i d ds' h1 h2
      cases e
      subst e1
      exact .cons (dat_rel r1 h1) (dats_rel r2 h2)
    · cases e
end
def datH (v : Val) (h : Hv) : Option PyData := match v with
  | .ref a => match h a with
    | some (.lst vs) => (dats vs).map .list
    | _ => none
  | v => dat v
theorem datH_rel {H : Hp} {h : Hv} {v : Val} {x : V} {d : PyData} (r : RH K H h) (rv : RV K H h v x) (e : datH v h = some d) : Dp K H x d := by
  unfold datH at e
  split at e
  · rename_i a
    split at e
    · rename_i vs hv
      rw [RV] at rv
      obtain ⟨xs, e1, rs⟩ := r a _ hv
      obtain ⟨ds, e2, e3⟩ := Option.map_eq_some_iff.mp e
      subst rv e3
      exact .lst (.of e1) (dats_rel rs e2)
    · cases e
  · exact dat_rel rv e
@[simp] def scA : Val → Val → Option Bool
  | .non, .non => some true
  | .non, .int _ => some false
  | .int _, .non => some false
  | .non, .bl _ => some false
  | .bl _, .non => some false
  | .non, .str _ => some false
  | .str _, .non => some false
  | .int i, .int j => some (i == j)
  | .bl i, .bl j => some (i == j)
  | .str i, .str j => some (i == j)
  | .int _, .str _ => some false
  | .str _, .int _ => some false
  | .bl _, .str _ => some false
  | .str _, .bl _ => some false
  | _, _ => none
theorem scA_rel {H : Hp} {h : Hv} {v w : Val} {x y : V} {b : Bool} (rv : RV K H h v x) (rw' : RV K H h w y) (e : scA v w = some b) : scal x y = true ∧ decide (x = y) = b := by
  cases v <;> cases w <;> first | (cases e; done) | skip
  all_goals
    rw [RV] at rv
    rw [RV] at rw'
    subst rv
    subst rw'
    cases e
    refine ⟨rfl, ?_⟩
    first
      | exact dec_int
      | exact dec_bl
      | exact dec_str
      | simp
def datEq (v w : Val) (h : Hv) (Q : Bool → Prop) : Prop := ∃ d e, datH v h = some d ∧ datH w h = some e ∧ SeqAt.shaped d = true ∧ SeqAt.shaped e = true ∧ Q (PyData.eqv d e)
@[simp] def fEq : F2 := fun v w h Q => match scA v w with
  | some b => Q (.bl b) h
  | none => datEq v w h fun b => Q (.bl b) h
@[simp] def fNe : F2 := fun v w h Q => match scA v w with
  | some b => Q (.bl (!b)) h
  | none => datEq v w h fun b => Q (.bl (!b)) h
theorem or_eq {X : Cx} (hu : X.A.units + 64 < cLine) : OpR X (compareOp .Eq) (fun x y H Q => rEq x y H Q ∨ rEqD X.K x y H Q) := op_eq.or (op_eqD hu)
theorem or_ne {X : Cx} (hu : X.A.units + 64 < cLine) : OpR X (compareOp .NotEq) (fun x y H Q => rNe x y H Q ∨ rNeD X.K x y H Q) := op_ne.or (op_neD hu)
theorem ol_eq : OpL K fEq (fun x y H Q => rEq x y H Q ∨ rEqD K x y H Q) := fun v w x y h H Q' Q r rv rw' q c => by
  unfold fEq at q
  split at q
  · rename_i b e
    obtain ⟨s, d⟩ := scA_rel rv rw' e
    exact .inl ⟨s, by rw [d]; exact c.val r rv_bl q⟩
  · obtain ⟨d, e, h1, h2, s1, s2, q⟩ := q
    exact .inr ⟨d, e, datH_rel r rv h1, datH_rel r rw' h2, s1, s2, c.val r rv_bl q⟩
theorem ol_ne : OpL K fNe (fun x y H Q => rNe x y H Q ∨ rNeD K x y H Q) := fun v w x y h H Q' Q r rv rw' q c => by
  unfold fNe at q
  split at q
  · rename_i b e
    obtain ⟨s, d⟩ := scA_rel rv rw' e
    exact .inl ⟨s, by rw [d]; exact c.val r rv_bl q⟩
  · obtain ⟨d, e, h1, h2, s1, s2, q⟩ := q
    exact .inr ⟨d, e, datH_rel r rv h1, datH_rel r rw' h2, s1, s2, c.val r rv_bl q⟩

@[simp] def fIsN : F2 := fun v w h Q => match w with
  | .non => match v with
    | .non => Q (.bl true) h
    | _ => Q (.bl false) h
  | _ => False
@[simp] def fNotN : F2 := fun v w h Q => match w with
  | .non => match v with
    | .non => Q (.bl false) h
    | _ => Q (.bl true) h
  | _ => False
theorem RV.non_iff {H : Hp} {h : Hv} {v : Val} {x : V} (r : RV K H h v x) : x = .non ↔ v = .non := by
  cases v with
  | non => rw [RV] at r; exact ⟨fun _ => rfl, fun _ => r⟩
  | bl b => rw [RV] at r; subst r; exact ⟨fun z => (nomatch z), fun z => (nomatch z)⟩
  | int b => rw [RV] at r; subst r; exact ⟨fun z => (nomatch z), fun z => (nomatch z)⟩
  | str b => rw [RV] at r; subst r; exact ⟨fun z => (nomatch z), fun z => (nomatch z)⟩
  | tup b => rw [RV] at r; obtain ⟨a, xs, e, _⟩ := r; subst e; exact ⟨fun z => (nomatch z), fun z => (nomatch z)⟩
  | tpo b => rw [RV] at r; obtain ⟨a, xs, o, e, _⟩ := r; subst e; exact ⟨fun z => (nomatch z), fun z => (nomatch z)⟩
  | lst b => rw [RV] at r; obtain ⟨a, xs, e, _⟩ := r; subst e; exact ⟨fun z => (nomatch z), fun z => (nomatch z)⟩
  | scr b => rw [RV] at r; obtain ⟨a, e, _⟩ := r; subst e; exact ⟨fun z => (nomatch z), fun z => (nomatch z)⟩
  | ref b => rw [RV] at r; subst r; exact ⟨fun z => (nomatch z), fun z => (nomatch z)⟩
  | ty b => rw [RV] at r; subst r; exact ⟨fun z => (nomatch z), fun z => (nomatch z)⟩
theorem ol_isN : OpL K fIsN (fun x y H Q => y = .non ∧ Q (.bl (decide (x = .non))) H) := fun v w x y h H Q' Q r rv rw' q c => by
  cases w with
  | non =>
    refine ⟨by rw [RV] at rw'; exact rw', ?_⟩
    by_cases e : v = .non
    · subst e
      rw [decide_eq_true (rv.non_iff.mpr rfl)]
      exact c.val r (by rw [RV]) q
    · rw [decide_eq_false (fun z => e (rv.non_iff.mp z))]
      cases v <;> first | exact absurd rfl e | exact c.val r (by rw [RV]) q
  | _ => exact q.elim
theorem ol_notN : OpL K fNotN (fun x y H Q => y = .non ∧ Q (.bl (!decide (x = .non))) H) := fun v w x y h H Q' Q r rv rw' q c => by
  cases w with
  | non =>
    refine ⟨by rw [RV] at rw'; exact rw', ?_⟩
    by_cases e : v = .non
    · subst e
      rw [decide_eq_true (rv.non_iff.mpr rfl)]
      exact c.val r rv_bl q
    · rw [decide_eq_false (fun z => e (rv.non_iff.mp z))]
      cases v <;> first | exact absurd rfl e | exact c.val r rv_bl q
  | _ => exact q.elim

@[simp] def seqOf (v : Val) (h : Hv) : Option (List Val) := match v with
  | .lst vs => some vs
  | .tup vs => some vs
  | .tpo vs => some vs
  | .scr ns => some (ns.map .int)
  | .ref a => match h a with
    | some (.lst vs) => some vs
    | _ => none
  | _ => none
theorem seqOf_rel {H : Hp} {h : Hv} {v : Val} {x : V} {vs : List Val} (r : RH K H h) (rv : RV K H h v x) (e : seqOf v h = some vs) : ∃ a xs, x = .ref a ∧ (SqL K H a xs ∨ SqT K H a xs) ∧ RVs K H h vs xs := by
  cases v with
  | lst ws =>
    rw [RV] at rv
    obtain ⟨a, xs, e1, _, ha, rs⟩ := rv
    cases e
    exact ⟨a, xs, e1, .inl (.of ha), rs⟩
  | tup ws =>
    rw [RV] at rv
    obtain ⟨a, xs, e1, _, ha, rs⟩ := rv
    cases e
    exact ⟨a, xs, e1, .inr (.of ha), rs⟩
  | tpo ws =>
    obtain ⟨a, xs, e1, ha, rs⟩ := tpo_sqt rv
    cases e
    exact ⟨a, xs, e1, .inr ha, rs⟩
  | scr ns =>
    obtain ⟨a, e1, q⟩ := scr_sql rv
    cases e
    exact ⟨a, _, e1, .inl q, RVs.ofInts ns⟩
  | ref a =>
    rw [RV] at rv
    unfold seqOf at e
    dsimp only at e
    split at e
    · rename_i ws hw
      cases e
      obtain ⟨xs, e1, rs⟩ := r a _ hw
      exact ⟨a, xs, rv, .inl (.of e1), rs⟩
    · cases e
  | _ => cases e
@[simp] def flatA : Val → Bool
  | .non => true
  | .bl _ => true
  | .int _ => true
  | .str _ => true
  | _ => false
def eqA : Val → Val → Bool
  | .non, .non => true
  | .bl a, .bl b => a == b
  | .bl a, .int b => (if a then 1 else 0) == b
  | .int a, .bl b => a == (if b then 1 else 0)
  | .int a, .int b => a == b
  | .str a, .str b => a == b
  | _, _ => false
theorem flat_rel {H : Hp} {h : Hv} {v : Val} {x : V} (r : RV K H h v x) (f : flatA v = true) : flatV x = true := by
  cases v <;> first | (cases f; done) | (rw [RV] at r; subst r; rfl)
theorem eqA_rel {H : Hp} {h : Hv} {v w : Val} {x y : V} (r : RV K H h v x) (r' : RV K H h w y) (f : flatA v = true) (f' : flatA w = true) : eqV x y = eqA v w := by
  cases v <;> cases w <;> first | (cases f; done) | (cases f'; done) | (rw [RV] at r; rw [RV] at r'; subst r; subst r'; rfl)
theorem flats_rel {H : Hp} {h : Hv} : ∀ {vs : List Val} {xs : List V}, RVs K H h vs xs → vs.all flatA = true → xs.all flatV = true
  | [], xs, r, _ => by rw [RVs] at r; rw [r]; rfl
  | v :: vs, xs, r, f => by
    rw [RVs] at r
    obtain ⟨y, ys, e, r1, r2⟩ := r
    rw [List.all_cons, Bool.and_eq_true] at f
    rw [e, List.all_cons, flat_rel r1 f.1, flats_rel r2 f.2]; rfl
theorem any_eqA {H : Hp} {h : Hv} {w : Val} {y : V} (rw' : RV K H h w y) (fw : flatA w = true) : ∀ {vs : List Val} {xs : List V}, RVs K H h vs xs → vs.all flatA = true → xs.any (fun z => eqV z y) = vs.any (fun z => eqA z w)
  | [], xs, r, _ => by rw [RVs] at r; rw [r]; rfl
  | v :: vs, xs, r, f => by
    rw [RVs] at r
    obtain ⟨z, ys, e, r1, r2⟩ := r
    rw [List.all_cons, Bool.and_eq_true] at f
    rw [e, List.any_cons, List.any_cons, eqA_rel r1 rw' f.1 fw, any_eqA rw' fw r2 f.2]
def inA (v : Val) (vs : List Val) : Bool := vs.any fun z => eqA z v
@[simp] def fIn : F2 := fun v w h Q => match seqOf w h with
  | some vs => flatA v = true ∧ vs.all flatA = true ∧ Q (.bl (inA v vs)) h
  | none => False
@[simp] def fNotIn : F2 := fun v w h Q => match seqOf w h with
  | some vs => flatA v = true ∧ vs.all flatA = true ∧ Q (.bl (!inA v vs)) h
  | none => False
theorem ol_in : OpL K fIn (rIn K false) := fun v w x y h H Q' Q r rv rw' q c => by
  unfold fIn at q
  split at q
  · rename_i vs e
    obtain ⟨a, xs, e1, s, rs⟩ := seqOf_rel r rw' e
    refine ⟨a, xs, e1, s, flat_rel rv q.1, flats_rel rs q.2.1, ?_⟩
    rw [if_neg Bool.false_ne_true]
    unfold inV
    rw [any_eqA rv q.1 rs q.2.1]
    exact c.val r rv_bl q.2.2
  · exact q.elim
theorem ol_notIn : OpL K fNotIn (rIn K true) := fun v w x y h H Q' Q r rv rw' q c => by
  unfold fNotIn at q
  split at q
  · rename_i vs e
    obtain ⟨a, xs, e1, s, rs⟩ := seqOf_rel r rw' e
    refine ⟨a, xs, e1, s, flat_rel rv q.1, flats_rel rs q.2.1, ?_⟩
    rw [if_pos rfl]
    unfold inV
    rw [any_eqA rv q.1 rs q.2.1]
    exact c.val r rv_bl q.2.2
  · exact q.elim
end
end DL
namespace DL
open PySem PySem.Spec PyProof.Rows L2
section
variable {K : PySem.W.Frag} {H : Hp} {h : Hv}
theorem atI_rel {vs : List Val} {xs : List V} {i : Int} {v : Val} (r : RVs K H h vs xs) (e : atI vs i = some v) : ∃ x, atI xs i = some x ∧ RV K H h v x := by
  unfold atI at e ⊢
  rw [r.len] at e
  cases q : ixN xs.length i with
  | none => rw [q] at e; cases e
  | some j =>
    rw [q] at e
    exact r.get e
@[simp] def fIx : F2 := fun v w h Q => match w with
  | .int i => match v with
    | .str z => z.length ≤ sizeLine ∧ (match atI z.cps.toList i with
      | some c => Q (.str ⟨#[c]⟩) h
      | none => False)
    | _ => match seqOf v h with
      | some vs => (match atI vs i with
        | some u => Q u h
        | none => False)
      | none => False
  | _ => False
theorem ol_ix : OpL K fIx (rIx K) := fun v w x y h H Q' Q r rv rw' q c => by
  cases w with
  | int i =>
    rw [RV] at rw'
    have go : (match seqOf v h with
      | some vs => (match atI vs i with
        | some u => Q' u h
        | none => False)
      | none => False) → rIx K x y H Q := fun q => by
      split at q
      · rename_i vs e
        obtain ⟨a, xs, e1, s, rs⟩ := seqOf_rel r rv e
        split at q
        · rename_i u eu
          obtain ⟨z, ez, rz⟩ := atI_rel rs eu
          rcases s with s | s
          · exact .inl ⟨a, xs, i, z, e1, rw', s, ez, c.val r rz q⟩
          · exact .inr (.inl ⟨a, xs, i, z, e1, rw', s, ez, c.val r rz q⟩)
        · exact q.elim
      · exact q.elim
    cases v with
    | str z =>
      rw [RV] at rv
      obtain ⟨hz, q⟩ := q
      split at q
      · rename_i cc ec
        exact .inr (.inr ⟨z, i, cc, rv, rw', hz, ec, c.val r rv_str q⟩)
      · exact q.elim
    | non => exact go q
    | bl b => exact go q
    | int b => exact go q
    | tup b => exact go q
    | tpo b => exact go q
    | lst b => exact go q
    | scr b => exact go q
    | ref b => exact go q
    | ty b => exact go q
  | _ => exact q.elim
theorem de_ix {X : Cx} {B : Bs} {a b : Expr} {da db : ED} {pos : Pos} (ha : DE X B a da) (hb : DE X B b db) (hs : PlainIx b := by exact fun _ _ => rfl) : DE X B (.Subscript a b pos) (dBin fIx da db) :=
  PEi (pe_ix ix_seq ha hb hs) (rd_bin ol_ix)

def cutA (xs : List Val) (lo hi : Option Int) : List Val := (xs.drop (HT.sIx xs.length 0 lo)).take (HT.sIx xs.length xs.length hi - HT.sIx xs.length 0 lo)
theorem cut_rel {vs : List Val} {xs : List V} (lo hi : Option Int) (r : RVs K H h vs xs) : RVs K H h (cutA vs lo hi) (cutV xs lo hi) := by
  unfold cutA cutV
  rw [r.len]
  exact (r.drop _).take _
theorem cut_whole {xs : List Val} {lo hi : Option Int} (e : HT.sIx xs.length 0 lo = 0 ∧ HT.sIx xs.length xs.length hi = xs.length) : cutA xs lo hi = xs := by
  unfold cutA
  rw [e.1, e.2]
  simp
abbrev OD := Sl → Hv → (Option Int → Hv → Prop) → PX → Prop
def rdO (K : PySem.W.Frag) (B : Bs) (d : OD) : TO := fun σ H Q => ∃ ρ h Q', ST K B σ H ρ h ∧ d ρ h Q' B.E ∧ ∀ i h' H', Q' i h' → Step h H h' H' → RH K H' h' → Q i H'
@[simp] def oNone : OD := fun _ h Q _ => Q none h
@[simp] def oSome (d : ED) : OD := fun ρ h Q E => d ρ h (fun v h1 => match v with
  | .int i => Q (some i) h1
  | _ => False) E
theorem do_none {X : Cx} {B : Bs} : PO X none (rdO X.K B oNone) := ⟨fun pins s σ H Q I ⟨ρ, h, Q', S, q, C⟩ => po_none.run pins s σ H Q I (C _ _ _ q (Step.refl _ _) S.r)⟩
theorem do_some {X : Cx} {B : Bs} {e : Expr} {d : ED} (he : DE X B e d) : PO X (some e) (rdO X.K B (oSome d)) := ⟨fun pins s σ H Q I ⟨ρ, h, Q', S, q, C⟩ => (po_some he).run pins s σ H Q I ⟨ρ, h, _, S, q, fun v h1 x H1 q1 s1 rv1 r1 => by
    cases v with
    | int i => rw [RV] at rv1; exact ⟨i, rv1, C _ _ _ q1 s1 r1⟩
    | _ => exact q1.elim⟩⟩
abbrev F3 := Val → Option Int → Option Int → Hv → PV → Prop
@[simp] def dSl (f : F3) (d : ED) (lo hi : OD) : ED := fun ρ h Q E => d ρ h (fun v h1 => lo ρ h1 (fun l h2 => hi ρ h2 (fun u h3 => f v l u h3 Q) E) E) E
@[simp] def fSl : F3 := fun v lo hi h Q => match v with
  | .tup vs => Q (.tup (cutA vs lo hi)) h
  | .tpo vs => if HT.sIx vs.length 0 lo = 0 ∧ HT.sIx vs.length vs.length hi = vs.length then Q (.tpo vs) h else Q (.tup (cutA vs lo hi)) h
  | .lst vs => Q (.lst (cutA vs lo hi)) h
  | .str z => z.length ≤ sizeLine ∧ Q (.str (cutS z lo hi)) h
  | .ref a => match h a with
    | some (.lst vs) => Q (.lst (cutA vs lo hi)) h
    | _ => False
  | _ => False
def rSlAll (K : PySem.W.Frag) : V → Option Int → Option Int → Hp → VK → Prop := fun x lo hi H Q => rSlL K x lo hi H Q ∨ rSlA K x lo hi H Q ∨ rSlS x lo hi H Q
theorem de_slice {X : Cx} {B : Bs} {a : Expr} {da : ED} {lo hi : Option Expr} {dl dh : OD} {pos p2 : Pos} (ha : DE X B a da) (hl : PO X lo (rdO X.K B dl)) (hu : PO X hi (rdO X.K B dh)) : DE X B (.Subscript a (.Slice lo hi none p2) pos) (dSl fSl da dl dh) := by
  refine PEi (pe_slice (r := rSlAll X.K) (sl_list.or (sl_tupA.or sl_str)) ha hl hu) fun σ H Q ⟨ρ, h, Q', S, q, C⟩ => ?_
  refine ⟨ρ, h, _, S, q, fun v h1 x H1 q1 s1 rv1 r1 => ⟨ρ, h1, _, S.step s1 r1, q1, fun l h2 H2 q2 s2 r2 => ⟨ρ, h2, _, S.step (s1.trans s2) r2, q2, fun u h3 H3 q3 s3 r3 => ?_⟩⟩⟩
  have C3 := C.trans (s1.trans (s2.trans s3))
  have rv := rv1.step (s2.trans s3)
  cases v with
  | tup vs =>
    have rv0 := rv
    rw [RV] at rv
    obtain ⟨a, xs, e1, n, ha, rs⟩ := rv
    refine .inr (.inl ⟨a, xs, e1, .of ha, fun e => ?_, fun _ p e => C3.tup r3 (cut_rel l u rs) e q3⟩)
    rw [← rs.len] at e
    have q3' : Q' (.tup (cutA vs l u)) h3 := q3
    rw [cut_whole e] at q3'
    rw [← e1]
    exact C3.val r3 rv0 q3'
  | tpo vs =>
    obtain ⟨a, xs, e1, ha, rs⟩ := tpo_sqt rv
    have q3' : if HT.sIx vs.length 0 l = 0 ∧ HT.sIx vs.length vs.length u = vs.length then Q' (.tpo vs) h3 else Q' (.tup (cutA vs l u)) h3 := q3
    refine .inr (.inl ⟨a, xs, e1, ha, fun e => ?_, fun ne p e => ?_⟩)
    · rw [← rs.len] at e
      rw [if_pos e] at q3'
      rw [← e1]
      exact C3.val r3 rv q3'
    · rw [← rs.len] at ne
      rw [if_neg ne] at q3'
      exact C3.tup r3 (cut_rel l u rs) e q3'
  | lst vs =>
    rw [RV] at rv
    obtain ⟨a, xs, e1, n, ha, rs⟩ := rv
    exact .inl ⟨a, xs, e1, .of ha, fun p e => C3.lst r3 (cut_rel l u rs) e q3⟩
  | str z =>
    rw [RV] at rv
    exact .inr (.inr ⟨z, rv, q3.1, C3.val r3 rv_str q3.2⟩)
  | ref a =>
    rw [RV] at rv
    have q3' : (match h3 a with
      | some (.lst vs) => Q' (.lst (cutA vs l u)) h3
      | _ => False) := q3
    split at q3'
    · rename_i vs hv
      obtain ⟨xs, e1, rs⟩ := r3 a _ hv
      exact .inl ⟨a, xs, rv, .of e1, fun p e => C3.lst r3 (cut_rel l u rs) e q3'⟩
    · exact q3'.elim
  | _ => exact q3.elim

def ltF : Val → Val → Option Bool
  | .int i, .int j => some (decide (i < j))
  | .str a, .str b => some (decide (a.cps.toList < b.cps.toList))
  | _, _ => none
def ltL : List Val → List Val → Option Bool
  | [], [] => some false
  | [], _ :: _ => some true
  | _ :: _, [] => some false
  | x :: xs, y :: ys => if eqA x y = true then ltL xs ys else ltF x y
@[simp] def ltA : Val → Val → Option Bool
  | .tup xs, .tup ys => if (xs.all flatA && ys.all flatA && (xs.zip ys).all fun p => (ltF p.1 p.2).isSome || eqA p.1 p.2) = true then ltL xs ys else none
  | v, w => ltF v w
theorem lex_ltL {e r : Nat → Bool} : ∀ {xs ys : List Val} {b : Bool} (i : Nat), ltL xs ys = some b →
    (∀ (j : Nat) x y, xs[j]? = some x → ys[j]? = some y → e (i + j) = eqA x y) → (∀ (j : Nat) x y k, xs[j]? = some x → ys[j]? = some y → ltF x y = some k → r (i + j) = k) →
    Ob.lexAt e r (decide (xs.length < ys.length)) i (min xs.length ys.length) = b
  | [], [], b, i, h, _, _ => by cases h; rfl
  | [], _ :: _, b, i, h, _, _ => by cases h; rfl
  | _ :: _, [], b, i, h, _, _ => by cases h; rfl
  | x :: xs, y :: ys, b, i, h, he, hr => by
    have e1 : min (x :: xs).length (y :: ys).length = min xs.length ys.length + 1 := by simp only [List.length_cons]; omega
    have e2 : decide ((x :: xs).length < (y :: ys).length) = decide (xs.length < ys.length) := by
      simp only [List.length_cons]
      rw [Bool.eq_iff_iff]
      simp
    rw [e1, e2, Ob.lexAt_succ]
    have e0 := he 0 x y rfl rfl
    rw [Nat.add_zero] at e0
    unfold ltL at h
    rw [e0]
    split at h
    · rename_i q
      rw [if_pos q]
      exact lex_ltL (i + 1) h (fun j x' y' h1 h2 => by rw [Nat.add_assoc, Nat.add_comm 1 j]; exact he (j + 1) x' y' (by simpa using h1) (by simpa using h2)) fun j x' y' k h1 h2 h3 => by rw [Nat.add_assoc, Nat.add_comm 1 j]; exact hr (j + 1) x' y' k (by simpa using h1) (by simpa using h2) h3
    · rename_i q
      rw [if_neg q]
      have := hr 0 x y b rfl rfl h
      rwa [Nat.add_zero] at this
end
section
variable {X : Cx}
@[simp] def fLt : F2 := fun v w h Q => match ltA v w with
  | some b => Q (.bl b) h
  | none => False
theorem ltF_rel {A : Around} {s : Shared} {K : PySem.W.Frag} {H : Hp} {h : Hv} {v w : Val} {x y : V} {u1 u2 : Value} {b : Bool} (e : ltF v w = some b) (r1 : RV K H h v x) (r2 : RV K H h w y) (q1 : RelV x u1) (q2 : RelV y u2) : Ob.RcOp .Lt A s u1 u2 b := by
  cases v <;> cases w <;> first | (cases e; done) | skip
  · rename_i i j
    cases e
    rw [RV] at r1 r2
    subst r1; subst r2
    obtain ⟨t, rfl⟩ := q1
    obtain ⟨t', rfl⟩ := q2
    exact Ob.RcOp.lt_int _ _ _ _
  · rename_i i j
    cases e
    rw [RV] at r1 r2
    subst r1; subst r2
    obtain ⟨t, rfl⟩ := q1
    obtain ⟨t', rfl⟩ := q2
    exact fun _ _ _ _ h => PyProof.Rows.lt_str h
def rLtV (K : PySem.W.Frag) : R2 := fun x y H Q => ∃ v w h b, RH K H h ∧ RV K H h v x ∧ RV K H h w y ∧ ltA v w = some b ∧ Q (.bl b) H
theorem op_ltV (hu : X.A.units < cLine) : OpR X (compareOp .Lt) (rLtV X.K) := by
  intro pins s σ H x y v1 v2 Q I rx ry hq
  obtain ⟨v, w, h, b, r, rv, rw', e, q⟩ := hq
  suffices z : Ob.RcOp .Lt X.A s v1 v2 b by exact z X.prog X.w X.xe (EP X pins σ Q) ⟨.bl _, H, I, rfl, q⟩
  have flat : ltF v w = some b → Ob.RcOp .Lt X.A s v1 v2 b := fun e => ltF_rel e rv rw' rx ry
  cases v with
  | tup xs =>
    cases w with
    | tup ys =>
      have e : (if (xs.all flatA && ys.all flatA && (xs.zip ys).all fun p => (ltF p.1 p.2).isSome || eqA p.1 p.2) = true then ltL xs ys else none) = some b := e
      split at e
      · rename_i hf
        rw [Bool.and_eq_true, Bool.and_eq_true] at hf
        obtain ⟨hf, hz⟩ := hf
        rw [RV] at rv rw'
        obtain ⟨a, us, e1, n1, ha, ra⟩ := rv
        obtain ⟨b', ws, e2, n2, hb, rb⟩ := rw'
        subst e1 e2
        cases rx
        cases ry
        obtain ⟨its, i1, p1, _⟩ := I.tuple (.of ha)
        obtain ⟨its2, i2, p2, _⟩ := I.tuple (.of hb)
        have l1 : its.toArray.size = xs.length := by rw [List.size_toArray, ← i1.length, ra.len]
        have l2 : its2.toArray.size = ys.length := by rw [List.size_toArray, ← i2.length, rb.len]
        have at1 : ∀ j (h1 : j < its.toArray.size), ∃ z y, xs[j]? = some z ∧ RV X.K H h z y ∧ RelV y its.toArray[j] := fun j h1 => by
          have hj : j < xs.length := by rw [← l1]; exact h1
          obtain ⟨y, ey, ry⟩ := ra.get (i := j) (v := xs[j]) (by simp [hj])
          obtain ⟨u, eu, ru⟩ := i1.get ey
          refine ⟨xs[j], y, by simp [hj], ry, ?_⟩
          have : its.toArray[j] = u := by
            have z : its[j]? = some u := eu
            simp only [List.getElem_toArray]
            exact (List.getElem?_eq_some_iff.mp z).2
          rw [this]; exact ru
        have at2 : ∀ j (h1 : j < its2.toArray.size), ∃ z y, ys[j]? = some z ∧ RV X.K H h z y ∧ RelV y its2.toArray[j] := fun j h1 => by
          have hj : j < ys.length := by rw [← l2]; exact h1
          obtain ⟨y, ey, ry⟩ := rb.get (i := j) (v := ys[j]) (by simp [hj])
          obtain ⟨u, eu, ru⟩ := i2.get ey
          refine ⟨ys[j], y, by simp [hj], ry, ?_⟩
          have : its2.toArray[j] = u := by
            have z : its2[j]? = some u := eu
            simp only [List.getElem_toArray]
            exact (List.getElem?_eq_some_iff.mp z).2
          rw [this]; exact ru
        have fl1 : ∀ (j : Nat) z, xs[j]? = some z → flatA z = true := fun j z hz => List.all_eq_true.mp hf.1 z (List.mem_of_getElem? hz)
        have fl2 : ∀ (j : Nat) z, ys[j]? = some z → flatA z = true := fun j z hz => List.all_eq_true.mp hf.2 z (List.mem_of_getElem? hz)
        -- equality by place; the answer at the first place that differs
        have ez : ∀ (j : Nat) x y, xs[j]? = some x → ys[j]? = some y → (fun j => match xs[j]?, ys[j]? with
          | some x, some y => eqA x y
          | _, _ => true) j = eqA x y := fun j x y h1 h2 => by dsimp only; rw [h1, h2]
        have R := Ob.RcOp.tuples_lt (A := X.A) (s := s) (e := fun j => match xs[j]?, ys[j]? with
          | some x, some y => eqA x y
          | _, _ => true) (r := fun j => match xs[j]?, ys[j]? with
          | some x, some y => (ltF x y).getD false
          | _, _ => true) p1 p2 hu (fun j h1 h2 => by
            obtain ⟨z, y, ez, rz, qz⟩ := at1 j h1
            obtain ⟨z', y', ez', rz', qz'⟩ := at2 j h2
            rw [ez, ez']
            dsimp only
            rw [← eqA_rel rz rz' (fl1 j z ez) (fl2 j z' ez')]
            exact eqAt_V qz qz' (flat_rel rz (fl1 j z ez)) (flat_rel rz' (fl2 j z' ez'))) (fun j h1 h2 he => by
            obtain ⟨z, y, ez, rz, qz⟩ := at1 j h1
            obtain ⟨z', y', ez', rz', qz'⟩ := at2 j h2
            rw [ez, ez'] at he ⊢
            dsimp only at he ⊢
            have m : (z, z') ∈ xs.zip ys := List.mem_of_getElem? (i := j) (by rw [List.getElem?_zip_eq_some]; exact ⟨ez, ez'⟩)
            have k := List.all_eq_true.mp hz _ m
            dsimp only at k
            rw [he, Bool.or_false] at k
            obtain ⟨k', ek⟩ := Option.isSome_iff_exists.mp k
            rw [ek]
            exact ltF_rel ek rz rz' qz qz')
        rw [l1, l2] at R
        rw [lex_ltL 0 e (fun j x y h1 h2 => by rw [Nat.zero_add, h1, h2]) (fun j x y k h1 h2 h3 => by rw [Nat.zero_add, h1, h2]; dsimp only; rw [h3]; rfl)] at R
        exact R
      · cases e
    | _ => exact flat e
  | _ => exact flat (by cases w <;> exact e)
end
end DL
namespace DL
open PySem PySem.Spec PyProof.Rows L2
section
variable {K : PySem.W.Frag}
theorem ol_lt : OpL K fLt (rLtV K) := fun v w x y h H Q' Q r rv rw' q c => by
  unfold fLt at q
  split at q
  · rename_i b e
    exact ⟨v, w, h, b, r, rv, rw', e, c.val r rv_bl q⟩
  · exact q.elim
@[simp] def fInS : F2 := fun v w h Q => match v, w with
  | .str ⟨⟨[c]⟩⟩, .str z => Q (.bl (decide (c ∈ z.cps.toList))) h
  | _, _ => False
@[simp] def fNotInS : F2 := fun v w h Q => match v, w with
  | .str ⟨⟨[c]⟩⟩, .str z => Q (.bl (!decide (c ∈ z.cps.toList))) h
  | _, _ => False
theorem ol_inS : OpL K fInS (fun x y H Q => ∃ (c : Nat) (z : Str), x = .str ⟨#[c]⟩ ∧ y = .str z ∧ Q (.bl (decide (c ∈ z.cps.toList))) H) := fun v w x y h H Q' Q r rv rw' q c => by
  unfold fInS at q
  split at q
  · rw [RV] at rv rw'
    exact ⟨_, _, rv, rw', c.val r rv_bl q⟩
  · exact q.elim
@[simp] def lenA (v : Val) (h : Hv) : Option Nat := match v with
  | .str z => if z.length ≤ sizeLine then some z.length else none
  | v => (seqOf v h).map List.length
@[simp] def fLen : FA := fun vs h Q => match vs with
  | [v] => match lenA v h with
    | some n => Q (.int n) h
    | none => False
  | _ => False
theorem rvs1 {H : Hp} {h : Hv} {v : Val} {xs : List V} (r : RVs K H h [v] xs) : ∃ x, xs = [x] ∧ RV K H h v x := by
  rw [RVs] at r
  obtain ⟨y, ys, e, r1, r2⟩ := r
  rw [RVs] at r2
  subst r2
  exact ⟨y, e, r1⟩
theorem rvs2 {H : Hp} {h : Hv} {v w : Val} {xs : List V} (r : RVs K H h [v, w] xs) : ∃ x y, xs = [x, y] ∧ RV K H h v x ∧ RV K H h w y := by
  rw [RVs] at r
  obtain ⟨y, ys, e, r1, r2⟩ := r
  obtain ⟨z, e2, r3⟩ := rvs1 r2
  subst e2
  exact ⟨y, z, e, r1, r3⟩
theorem cl_len : CaL K fLen (fun xs H Q => ∃ x n, xs = [x] ∧ LenV K x H n ∧ Q (.int n) H) := fun vs xs h H Q' Q r rs q c => by
  unfold fLen at q
  split at q
  · rename_i v
    obtain ⟨x, e, rv⟩ := rvs1 rs
    split at q
    · rename_i n en
      refine ⟨x, n, e, ?_, c.val r rv_int q⟩
      unfold lenA at en
      split at en
      · rename_i z
        split at en
        · rename_i hz
          cases en
          rw [RV] at rv
          subst rv
          exact ⟨hz, rfl⟩
        · cases en
      · obtain ⟨ws, e1, e2⟩ := Option.map_eq_some_iff.mp en
        obtain ⟨a, ys, e3, s, rss⟩ := seqOf_rel r rv e1
        subst e3
        rw [← e2]
        rcases s with s | s
        · exact .inl ⟨ys, s, rss.len⟩
        · exact .inr ⟨ys, s, rss.len⟩
    · exact q.elim
  · exact q.elim
def blsOf : List Val → Option (List Bool)
  | [] => some []
  | .bl b :: vs => (blsOf vs).map (b :: ·)
  | _ :: _ => none
theorem blsOf_eq : ∀ {vs : List Val} {bs : List Bool}, blsOf vs = some bs → vs = bs.map Val.bl
  | [], bs, e => by cases e; rfl
  | v :: vs, bs, e => by
    cases v with
    | bl b =>
      obtain ⟨cs, e1, e2⟩ := Option.map_eq_some_iff.mp e
      rw [← e2, List.map_cons, blsOf_eq e1]
    | _ => cases e
@[simp] theorem blsOf_map {α : Type} (g : α → Bool) : ∀ xs : List α, blsOf (xs.map fun x => Val.bl (g x)) = some (xs.map g)
  | [] => rfl
  | x :: xs => by rw [List.map_cons, blsOf, blsOf_map g xs]; rfl
@[simp] theorem blsOf_map' (bs : List Bool) : blsOf (bs.map Val.bl) = some bs := by
  have := blsOf_map id bs
  simpa using this
@[simp] def fAll : FA := fun vs h Q => match vs with
  | [v] => match (listOf v h).bind blsOf with
    | some bs => Q (.bl (bs.all id)) h
    | none => False
  | _ => False
@[simp] def fAny : FA := fun vs h Q => match vs with
  | [v] => match (listOf v h).bind blsOf with
    | some bs => Q (.bl (bs.any id)) h
    | none => False
  | _ => False
theorem cl_all : CaL K fAll (rAll K) := fun vs xs h H Q' Q r rs q c => by
  unfold fAll at q
  split at q
  · obtain ⟨x, e, rv⟩ := rvs1 rs
    split at q
    · rename_i bs eb
      obtain ⟨ws, e1, e2⟩ := Option.bind_eq_some_iff.mp eb
      obtain ⟨a, ys, e3, ha, rss⟩ := listOf_rel r rv e1
      rw [blsOf_eq e2] at rss
      rw [rss.bls] at ha
      exact ⟨a, bs, by rw [e, e3], .of ha, c.val r rv_bl q⟩
    · exact q.elim
  · exact q.elim
theorem cl_any : CaL K fAny (rAny K) := fun vs xs h H Q' Q r rs q c => by
  unfold fAny at q
  split at q
  · obtain ⟨x, e, rv⟩ := rvs1 rs
    split at q
    · rename_i bs eb
      obtain ⟨ws, e1, e2⟩ := Option.bind_eq_some_iff.mp eb
      obtain ⟨a, ys, e3, ha, rss⟩ := listOf_rel r rv e1
      rw [blsOf_eq e2] at rss
      rw [rss.bls] at ha
      exact ⟨a, bs, by rw [e, e3], .of ha, c.val r rv_bl q⟩
    · exact q.elim
  · exact q.elim
def intsOf : List Val → Option (List Int)
  | [] => some []
  | .int b :: vs => (intsOf vs).map (b :: ·)
  | _ :: _ => none
theorem intsOf_eq : ∀ {vs : List Val} {bs : List Int}, intsOf vs = some bs → vs = bs.map Val.int
  | [], bs, e => by cases e; rfl
  | v :: vs, bs, e => by
    cases v with
    | int b =>
      obtain ⟨cs, e1, e2⟩ := Option.map_eq_some_iff.mp e
      rw [← e2, List.map_cons, intsOf_eq e1]
    | _ => cases e
@[simp] theorem intsOf_map {α : Type} (g : α → Int) : ∀ xs : List α, intsOf (xs.map fun x => Val.int (g x)) = some (xs.map g)
  | [] => rfl
  | x :: xs => by rw [List.map_cons, intsOf, intsOf_map g xs]; rfl
@[simp] theorem intsOf_map' (bs : List Int) : intsOf (bs.map Val.int) = some bs := by
  have := intsOf_map id bs
  simpa using this
@[simp] def fSum : FA := fun vs h Q => match vs with
  | [v] => match (listOf v h).bind intsOf with
    | some bs => Q (.int bs.sum) h
    | none => False
  | _ => False
theorem cl_sum : CaL K fSum (rSum K) := fun vs xs h H Q' Q r rs q c => by
  unfold fSum at q
  split at q
  · obtain ⟨x, e, rv⟩ := rvs1 rs
    split at q
    · rename_i bs eb
      obtain ⟨ws, e1, e2⟩ := Option.bind_eq_some_iff.mp eb
      obtain ⟨a, ys, e3, ha, rss⟩ := listOf_rel r rv e1
      rw [intsOf_eq e2] at rss
      rw [rss.ints] at ha
      exact ⟨a, bs, by rw [e, e3], .of ha, c.val r rv_int q⟩
    · exact q.elim
  · exact q.elim
@[simp] def fTuple : FA := fun vs h Q => match vs with
  | [.tpo ws] => Q (.tpo ws) h
  | [v] => match seqOf v h with
    | some ws => Q (.tup ws) h
    | none => False
  | _ => False
theorem sq_inj {H : Hp} {h : Hv} {v : Val} {x : V} {ws : List Val} (r : RH K H h) (rv : RV K H h v x) (e : seqOf v h = some ws) (nt : ∀ us, v ≠ .tpo us) :
    (∃ a xs, x = .ref a ∧ SqL K H a xs ∧ RVs K H h ws xs) ∨ (v = .tup ws ∧ ∃ a xs, x = .ref a ∧ SqT K H a xs ∧ RVs K H h ws xs) := by
  cases v with
  | tup us =>
    rw [RV] at rv
    obtain ⟨a, xs, e1, _, ha, rs⟩ := rv
    cases e
    exact .inr ⟨rfl, a, xs, e1, .of ha, rs⟩
  | tpo us => exact absurd rfl (nt us)
  | lst us =>
    rw [RV] at rv
    obtain ⟨a, xs, e1, _, ha, rs⟩ := rv
    cases e
    exact .inl ⟨a, xs, e1, .of ha, rs⟩
  | scr ns =>
    obtain ⟨a, e1, q⟩ := scr_sql rv
    cases e
    exact .inl ⟨a, _, e1, q, RVs.ofInts ns⟩
  | ref a =>
    rw [RV] at rv
    unfold seqOf at e
    dsimp only at e
    split at e
    · rename_i us hw
      cases e
      obtain ⟨xs, e1, rs⟩ := r a _ hw
      exact .inl ⟨a, xs, rv, .of e1, rs⟩
    · cases e
  | _ => cases e
theorem cl_tuple : CaL K fTuple (fun xs H Q => ∃ p ys, xs = [.ref p] ∧ ((SqL K H p ys ∧ ∀ l, H l = none → Q (.ref l) (upd H l (.tup ys))) ∨ (SqT K H p ys ∧ Q (.ref p) H))) := fun vs xs h H Q' Q r rs q c => by
  unfold fTuple at q
  split at q
  · obtain ⟨x, e, rv⟩ := rvs1 rs
    obtain ⟨a, ys, e3, ha, rss⟩ := tpo_sqt rv
    refine ⟨a, ys, by rw [e, e3], .inr ⟨ha, ?_⟩⟩
    rw [← e3]
    exact c.val r rv q
  · rename_i nt
    obtain ⟨x, e, rv⟩ := rvs1 rs
    split at q
    · rename_i v ws ew
      rcases sq_inj r rv ew (fun us z => nt us (by rw [z])) with ⟨a, ys, e3, ha, rss⟩ | ⟨e0, a, ys, e3, ha, rss⟩
      · exact ⟨a, ys, by rw [e, e3], .inl ⟨ha, fun l hl => c.tup r rss hl q⟩⟩
      · subst e0
        refine ⟨a, ys, by rw [e, e3], .inr ⟨ha, ?_⟩⟩
        rw [← e3]
        exact c.val r rv q
    · exact q.elim
  · exact q.elim
@[simp] def fList : FA := fun vs h Q => match vs with
  | [v] => match seqOf v h with
    | some ws => Q (.lst ws) h
    | none => False
  | _ => False
@[simp] def fListH : FA := fun vs h Q => match vs with
  | [v] => match seqOf v h with
    | some ws => ∀ p, h p = none → Q (.ref p) (put h p (.lst ws))
    | none => False
  | _ => False
theorem cl_list : CaL K fList (fun xs H Q => ∃ p ys, xs = [.ref p] ∧ (SqL K H p ys ∨ SqT K H p ys) ∧ ∀ l, H l = none → Q (.ref l) (upd H l (.lst ys))) := fun vs xs h H Q' Q r rs q c => by
  unfold fList at q
  split at q
  · obtain ⟨x, e, rv⟩ := rvs1 rs
    split at q
    · rename_i v ws ew
      obtain ⟨a, ys, e3, s, rss⟩ := seqOf_rel r rv ew
      exact ⟨a, ys, by rw [e, e3], s, fun l hl => c.lst r rss hl q⟩
    · exact q.elim
  · exact q.elim
@[simp] def tyN (v : Val) (h : Hv) : Option String := match v with
  | .non => some "NoneType"
  | .bl _ => some "bool"
  | .int _ => some "int"
  | .str _ => some "str"
  | .tup _ => some "tuple"
  | .tpo _ => some "tuple"
  | .lst _ => some "list"
  | .scr _ => none
  | .ref a => match h a with
    | some (.lst _) => some "list"
    | some (.dK _) => some "dict"
    | some (.dT _) => some "dict"
    | _ => none
  | .ty _ => none
@[simp] def isT (t T : String) : Bool := t == T || (t == "bool" && T == "int")
theorem kitB_is : (["NoneType", "bool", "int", "str", "tuple", "list", "dict"].all fun t => ["int", "bool", "str", "tuple", "list"].all fun T => kitB t T == some (isT t T)) = true := by decide +kernel
theorem kitB_eq {t T : String} (h1 : t ∈ ["NoneType", "bool", "int", "str", "tuple", "list", "dict"]) (h2 : T ∈ ["int", "bool", "str", "tuple", "list"]) : kitB t T = some (isT t T) := by
  have a := List.all_eq_true.mp kitB_is t h1
  have b := List.all_eq_true.mp a T h2
  exact beq_iff_eq.mp b
theorem tyN_rel {H : Hp} {h : Hv} {v : Val} {x : V} {t : String} (r : RH K H h) (rv : RV K H h v x) (e : tyN v h = some t) : TyX K H x (.type t) ∧ t ∈ ["NoneType", "bool", "int", "str", "tuple", "list", "dict"] := by
  cases v with
  | non => rw [RV] at rv; subst rv; cases e; exact ⟨.base .non, by decide⟩
  | bl b => rw [RV] at rv; subst rv; cases e; exact ⟨.base (.bl b), by decide⟩
  | int b => rw [RV] at rv; subst rv; cases e; exact ⟨.base (.int b), by decide⟩
  | str b => rw [RV] at rv; subst rv; cases e; exact ⟨.base (.str b), by decide⟩
  | tup vs =>
    rw [RV] at rv
    obtain ⟨a, xs, e1, _, ha, rs⟩ := rv
    subst e1; cases e
    exact ⟨.base (.tup ha), by decide⟩
  | tpo vs =>
    rw [RV] at rv
    obtain ⟨a, xs, o, e1, _, ha, _, rs⟩ := rv
    subst e1; cases e
    exact ⟨.fTuple ha, by decide⟩
  | lst vs =>
    rw [RV] at rv
    obtain ⟨a, xs, e1, _, ha, rs⟩ := rv
    subst e1; cases e
    exact ⟨.base (.lst ha), by decide⟩
  | scr ns => cases e
  | ref a =>
    rw [RV] at rv
    subst rv
    unfold tyN at e
    dsimp only at e
    split at e
    · rename_i vs hv
      obtain ⟨xs, e1, rs⟩ := r a _ hv
      cases e
      exact ⟨.base (.lst e1), by decide⟩
    · rename_i vs hv
      obtain ⟨xs, e1, rs⟩ := r a _ hv
      cases e
      exact ⟨.base (.dK e1), by decide⟩
    · rename_i vs hv
      obtain ⟨xs, e1, rs⟩ := r a _ hv
      cases e
      exact ⟨.base (.dT e1), by decide⟩
    · cases e
  | ty n => cases e
@[simp] def fIsi : FA := fun vs h Q => match vs with
  | [v, .ty T] => match tyN v h with
    | some t => T ∈ ["int", "bool", "str", "tuple", "list"] ∧ Q (.bl (isT t T)) h
    | none => False
  | _ => False
theorem cl_isi : CaL K fIsi (rIsi K) := fun vs xs h H Q' Q r rs q c => by
  unfold fIsi at q
  split at q
  · rename_i v T
    obtain ⟨x, y, e, rv, rw'⟩ := rvs2 rs
    split at q
    · rename_i t et
      obtain ⟨hT, q⟩ := q
      obtain ⟨ty, ht⟩ := tyN_rel r rv et
      rw [RV] at rw'
      exact ⟨x, y, .type t, .type T, isT t T, e, by rw [rw']; exact .ty T, ty, kit_ty (kitB_eq ht hT), c.val r rv_bl q⟩
    · exact q.elim
  · exact q.elim
end
abbrev PF := Str → Option Val → Hv → Prop
abbrev SpF := List Val → Hv → PV → PF → Prop
def PLd (K : PySem.W.Frag) (H : Hp) (h : Hv) (d : Option Addr) (pl : Option Val) : Prop := (d = none ∧ pl = none) ∨ ∃ a x v, d = some a ∧ pl = some v ∧ H a = some (.xd [("land", x)]) ∧ h a = none ∧ RV K H h v x
theorem PLd.step {K : PySem.W.Frag} {H H' : Hp} {h h' : Hv} {d : Option Addr} {pl : Option Val} (x : PLd K H h d pl) (s : Step h H h' H') : PLd K H' h' d pl := by
  rcases x with x | ⟨a, x, v, e1, e2, ha, n, rv⟩
  · exact .inl x
  · have z := s.n a _ ha n (fun _ z => nomatch z)
    exact .inr ⟨a, x, v, e1, e2, z.1, z.2, rv.step s⟩
def ContX (K : PySem.W.Frag) (mg : Str → Option Value) (h : Hv) (H : Hp) (E' : PF) (E : XK) : Prop := ∀ nm pl h' cls d H', E' nm pl h' → Step h H h' H' → RH K H' h' → mg nm = some cls → PLd K H' h' d pl → E cls d H'
def spA (K : PySem.W.Frag) (mg : Str → Option Value) (n : Nat) (fs : SpF) : Sp := fun vs H Q E => ∃ as h Q' E', RVs K H h as vs ∧ RH K H h ∧ as.length = n ∧ fs as h Q' E' ∧ Cont K h H Q' Q ∧ ContX K mg h H E' E
def wx (mg : Str → Option Value) (K : PySem.W.Frag) (B : Bs) : WX := fun cls d σ H => ∃ nm pl ρ h, mg nm = some cls ∧ ST K B σ H ρ h ∧ PLd K H h d pl ∧ B.E nm pl ρ h
def TakesB (X : Cx) (B : Bs) : Prop := Takes X (wx X.mg X.K B)
def Fn (P : Program) (w : World) (K : PySem.W.Frag) (mg : Str → Option Value) (base : Heap) (A : Around) (x : Str) (n : Nat) (fs : SpF) : Prop :=
  ∃ (k : Nat) (f : Addr) (fd : FuncData) (ps : List Str), FnOk P w K mg base (L2.CX P w) k f fd ps (spA K mg n fs) ∧ Room k A ∧ mg x = some (.ref f) ∧ PySem.W.keepIn K (.ref f) = true ∧ Binds K fd ps []
@[simp] def dCall (n : Nat) (fs : SpF) (aa : AD) : ED := fun ρ h Q E => aa ρ h (fun vs h1 => vs.length = n ∧ fs vs h1 Q (fun nm pl h' => E nm pl ρ h')) E
theorem rd_call {K : PySem.W.Frag} {mg : Str → Option Value} {B : Bs} {n : Nat} {fs : SpF} {aa : AD} : ∀ σ H Q, rdE K B (dCall n fs aa) σ H Q → tCallS (spA K mg n fs) (WE (wx mg K B)) (rdA K B aa) σ H Q := fun σ H Q ⟨ρ, h, Q', S, q, C⟩ =>
  ⟨ρ, h, _, S, q, fun vs h1 xs H1 q1 s1 rv1 r1 => ⟨vs, h1, Q', fun nm pl h' => B.E nm pl ρ h', rv1, r1, q1.1, q1.2, C.trans s1, fun nm pl h' cls d H' hE s2 r2 hm pld => ⟨nm, pl, ρ, h', hm, S.step (s1.trans s2) r2, pld, hE⟩⟩⟩
theorem de_call {X : Cx} {B : Bs} {x : Str} {n : Nat} {fs : SpF} {p pos : Pos} {e : Expr} {es : List Expr} {aa : AD} (F : Fn X.prog X.w X.K X.mg X.base X.A x n fs) (tk : TakesB X B) (ha : DA X B (e :: es) aa) (hg : Gl X x := by rfl)
    (hdb : (x == ("__debug__" : Str)) = false := by decide) (he : starEach (e :: es) X.env = (false, eval e X.env) :: starEach es X.env := by rfl) (hpl : (backTo pos (starEach es X.env)).any (·.1) = false := by rfl) :
    DE X B (.Call (.Name x p) (e :: es) [] pos) (dCall n fs aa) := by
  obtain ⟨k, f, fd, ps, G, hr, hm, hk, hb⟩ := F
  exact PEi (pe_callS (E := WE (wx X.mg X.K B)) G hr hg hm hk hb (fun σ => passAt tk σ) ha hdb he hpl) rd_call
theorem de_call0 {X : Cx} {B : Bs} {x : Str} {fs : SpF} {p pos : Pos} (F : Fn X.prog X.w X.K X.mg X.base X.A x 0 fs) (tk : TakesB X B) (hg : Gl X x := by rfl)
    (hdb : (x == ("__debug__" : Str)) = false := by decide) : DE X B (.Call (.Name x p) [] [] pos) (dCall 0 fs aNil) := by
  obtain ⟨k, f, fd, ps, G, hr, hm, hk, hb⟩ := F
  refine ⟨fun pins s σ H Q I h => ?_⟩
  refine wpAny_Call_Name_kw (ld_glob I hg hm ?_ hdb)
  refine PySem.W.callWith_K0 I.kIn hk (run_fnS (us := []) (vs := []) (E := WE (wx X.mg X.K B)) G hr hb (passAt tk σ) I .nil ?_)
  obtain ⟨ρ, h, Q', S, q, C⟩ := h
  exact ⟨[], h, Q', fun nm pl h' => B.E nm pl ρ h', RVs.nil, S.r, rfl, q.2, C, fun nm pl h' cls d H' hE s2 r2 hm pld => ⟨nm, pl, ρ, h', hm, S.step s2 r2, pld, hE⟩⟩
theorem takesF {X : Cx} {h0 : Hv} {H0 : Hp} : TakesB X ⟨fun _ _ _ _ => False, h0, H0⟩ := fun u s' ⟨a, B, sI, pins, σ, H, cls, d, e, I, nb, up, sky, na, os, ag, w⟩ => by
  obtain ⟨_, _, _, _, _, _, _, z⟩ := w
  exact z.elim
end DL
namespace DL
open PySem PySem.Spec PyProof.Rows L2
section
variable {X : Cx} {B : Bs} {st : Stmt} {rest a b : List Stmt} {d d1 d2 : SD} {e : Expr} {de : ED} {pos : Pos} {c : Expr} {tc : TD}
@[simp] def sNext : SD := fun ρ h D _ => D.nx ρ h
@[simp] def sSeq (d1 d2 : SD) : SD := fun ρ h D E => d1 ρ h { D with nx := fun ρ' h' => d2 ρ' h' D E } E
theorem dss_nil : DSs X B [] sNext := PSsi pss_nil fun D σ H ⟨ρ, h, D', S, q, C⟩ => C.nx _ _ _ _ q (Step.refl _ _) S
theorem dss_one (hs : DS X B st d) : DSs X B [st] d := pss_one hs
theorem dss_cons (h1 : DS X B st d1) (h2 : DSs X B rest d2) : DSs X B (st :: rest) (sSeq d1 d2) :=
  PSsi (pss_cons h1 h2) fun D σ H ⟨ρ, h, D', S, q, C⟩ => ⟨ρ, h, _, S, q, ⟨fun ρ1 h1 σ1 H1 q1 s1 S1 => ⟨ρ1, h1, D', S1, q1, C.trans s1⟩, C.rt, C.bk, C.ct⟩⟩
@[simp] def sBreak : SD := fun ρ h D _ => D.bk ρ h
@[simp] def sCont : SD := fun ρ h D _ => D.ct ρ h
@[simp] def sExpr (de : ED) : SD := fun ρ h D E => de ρ h (fun _ h1 => D.nx ρ h1) E
theorem ds_expr (he : DE X B e de) (hs : swapsWith e none pos.line X.env = pure false := by rfl) : DS X B (.Expr e pos) (sExpr de) :=
  PSi (ps_expr he hs) fun D σ H ⟨ρ, h, D', S, q, C⟩ => ⟨ρ, h, _, S, q, fun v h1 x H1 q1 s1 rv1 r1 => C.nx _ _ _ _ q1 s1 (S.step s1 r1)⟩
@[simp] def sRet (de : ED) : SD := fun ρ h D E => de ρ h D.rt E
theorem ds_ret (he : DE X B e de) : DS X B (.Return (some e) pos) (sRet de) :=
  PSi (ps_ret he) fun D σ H ⟨ρ, h, D', S, q, C⟩ => ⟨ρ, h, _, S, q, C.rt⟩
@[simp] def sRetN : SD := fun ρ h D _ => D.rt .non h
@[simp] def sIf (tc : TD) (d1 d2 : SD) : SD := fun ρ h D E => tc ρ h (fun k h1 => if k = true then d1 ρ h1 D E else d2 ρ h1 D E) E
theorem ds_if (hc : DT X B c tc) (ha : DSs X B a d1) (hb : DSs X B b d2) : DS X B (.If c a b pos) (sIf tc d1 d2) :=
  PSi (ps_if hc ha hb) fun D σ H ⟨ρ, h, D', S, q, C⟩ => ⟨ρ, h, _, S, q, fun k h1 H1 q1 s1 r1 => by
    cases k with
    | true => rw [if_pos rfl] at q1 ⊢; exact ⟨ρ, h1, D', S.step s1 r1, q1, C.trans s1⟩
    | false => rw [if_neg Bool.false_ne_true] at q1 ⊢; exact ⟨ρ, h1, D', S.step s1 r1, q1, C.trans s1⟩⟩
@[simp] def sSet (i : Nat) (de : ED) : SD := fun ρ h D E => de ρ h (fun v h1 => D.nx (ρ.set i (some v)) h1) E
theorem rd_set {K : PySem.W.Frag} {i : Nat} : ∀ D σ H, rdS K B (sSet i de) D σ H → tAsg (rdE K B de) (gName i) D σ H := fun D σ H ⟨ρ, h, D', S, q, C⟩ =>
  ⟨ρ, h, _, S, q, fun v h1 x H1 q1 s1 rv1 r1 => C.nx _ _ _ _ q1 s1 ((S.step s1 r1).set i rv1)⟩
theorem ds_set {i : Nat} {x : Str} {pos' : Pos} (hN : X.N.Nodup) (hi : X.N[i]? = some x) (hx : Loc X.env.scope x) (he : DE X B e de) (hs : swapsWith e (some (.Name x pos')) pos.line X.env = pure false := by rfl) (hf : X.fn x = true ∨ X.env.scope.names.lookup x = some .local := by first | exact .inl rfl | exact .inr rfl | assumption) :
    DS X B (.Assign [.Name x pos'] e pos) (sSet i de) := PSi (ps_set hN hi hx he hs hf) rd_set
@[simp] def sAug (i : Nat) (f : F2) (de : ED) : SD := fun ρ h D E => match ρ[i]? with
  | some (some v) => de ρ h (fun w h1 => f v w h1 (fun z h2 => D.nx (ρ.set i (some z)) h2)) E
  | _ => False
theorem ds_augI {i : Nat} {x : Str} {op : Operator} {f : F2} {r : R2} {pos' : Pos} (hN : X.N.Nodup) (hi : X.N[i]? = some x) (hx : Loc X.env.scope x) (he : DE X B e de) (ho : OpR X (inplaceOp op) r) (hl : OpL X.K f r) (hf : X.fn x = true ∨ X.env.scope.names.lookup x = some .local := by first | exact .inl rfl | exact .inr rfl | assumption) :
    DS X B (.AugAssign (.Name x pos') op e pos) (sAug i f de) :=
  PSi (ps_aug (ti := r) hN hi hx he ho hf) fun D σ H ⟨ρ, h, D', S, q, C⟩ => by
    unfold sAug at q
    split at q
    · rename_i v ev
      obtain ⟨x, ex, rx⟩ := S.s.2 i v ev
      refine ⟨x, ex, ρ, h, _, S, q, fun w h1 y H1 q1 s1 rv1 r1 => ?_⟩
      exact hl v w x y h1 H1 _ _ r1 (rx.step s1) rv1 q1 fun z h2 zx H2 q2 s2 rv2 r2 => C.nx _ _ _ _ q2 (s1.trans s2) ((S.step (s1.trans s2) r2).set i rv2)
    · exact q.elim
end
inductive Tg where
  | nm (i : Nat) | tp (ts : List Tg)
mutual
@[simp] def bT : Tg → Val → Sl → Option Sl
  | .nm i, v, ρ => some (ρ.set i (some v))
  | .tp ts, .tup vs, ρ => bTs ts vs ρ
  | .tp _, _, _ => none
@[simp] def bTs : List Tg → List Val → Sl → Option Sl
  | [], [], ρ => some ρ
  | t :: ts, v :: vs, ρ => match bT t v ρ with
    | some ρ' => bTs ts vs ρ'
    | none => none
  | _, _, _ => none
end
mutual
def gT (K : PySem.W.Frag) : Tg → TG
  | .nm i => gName i
  | .tp ts => gTup K ts.length (gTs K ts)
def gTs (K : PySem.W.Frag) : List Tg → TGs
  | [] => gNil
  | t :: ts => gCons (gT K t) (gTs K ts)
end
mutual
def slots : Tg → List Nat
  | .nm i => [i]
  | .tp ts => slotsL ts
def slotsL : List Tg → List Nat
  | [] => []
  | t :: ts => slots t ++ slotsL ts
end
theorem wipe_set {σ : L2.St} {i : Nat} {x : Option V} : ∀ {vs : List Nat}, i ∈ vs → wipe (σ.set i x) vs = wipe σ vs
  | v :: vs, h => by
    unfold wipe
    by_cases e : i ∈ vs
    · rw [wipe_set e]
    · have : i = v := by
        rcases List.mem_cons.mp h with z | z
        · exact z
        · exact absurd z e
      subst this
      have aux : ∀ (ws : List Nat) (τ : L2.St), i ∉ ws → wipe (τ.set i x) ws = (wipe τ ws).set i x := by
        intro ws
        induction ws with
        | nil => intro τ _; rfl
        | cons w ws ih =>
          intro τ hw
          unfold wipe
          rw [ih τ (fun z => hw (List.mem_cons_of_mem _ z)), List.set_comm _ _ (fun z => hw (by rw [z]; exact List.mem_cons_self))]
      rw [aux vs σ e, List.set_set]
section
variable {K : PySem.W.Frag} {H : Hp} {h : Hv}
mutual
theorem gT_rel : ∀ {t : Tg} {v : Val} {x : V} {ρ ρ' : Sl} {σ : L2.St}, RV K H h v x → RS K H h ρ σ → bT t v ρ = some ρ' → ∀ Q : L2.St → Hp → Prop, (∀ σ', RS K H h ρ' σ' → (∀ ws, (∀ i ∈ slots t, i ∈ ws) → wipe σ' ws = wipe σ ws) → Q σ' H) → gT K t x σ H Q
  | .nm i, v, x, ρ, ρ', σ, rv, rs, e, Q, k => by
    rw [bT] at e; cases e
    rw [gT]
    exact k _ (rs.set i rv) fun ws hw => wipe_set (hw i (by rw [slots]; exact List.mem_singleton_self _))
  | .tp ts, v, x, ρ, ρ', σ, rv, rs, e, Q, k => by
    cases v with
    | tup vs =>
      rw [bT] at e
      rw [RV] at rv
      obtain ⟨a, xs, e1, n, ha, rss⟩ := rv
      rw [gT]
      refine ⟨a, xs, e1, .of ha, ?_, gTs_rel rss rs e Q fun σ' r' hw => k σ' r' fun ws h1 => hw ws fun i hi => h1 i (by rw [slots]; exact hi)⟩
      rw [← rss.len]
      exact bTs_len e
    | _ => rw [bT] at e; cases e; (try (intros; contradiction))
theorem gTs_rel : ∀ {ts : List Tg} {vs : List Val} {xs : List V} {ρ ρ' : Sl} {σ : L2.St}, RVs K H h vs xs → RS K H h ρ σ → bTs ts vs ρ = some ρ' → ∀ Q : L2.St → Hp → Prop, (∀ σ', RS K H h ρ' σ' → (∀ ws, (∀ i ∈ slotsL ts, i ∈ ws) → wipe σ' ws = wipe σ ws) → Q σ' H) → gTs K ts xs σ H Q
  | [], [], xs, ρ, ρ', σ, rv, rs, e, Q, k => by
    rw [bTs] at e; cases e
    rw [RVs] at rv
    rw [gTs]
    exact ⟨rv, k _ rs fun _ _ => rfl⟩
  | [], _ :: _, xs, ρ, ρ', σ, rv, rs, e, Q, k => by simp at e
  | _ :: _, [], xs, ρ, ρ', σ, rv, rs, e, Q, k => by simp at e
  | t :: ts, v :: vs, xs, ρ, ρ', σ, rv, rs, e, Q, k => by
    rw [bTs] at e
    rw [RVs] at rv
    obtain ⟨y, ys, e1, r1, r2⟩ := rv
    split at e
    · rename_i ρ1 e2
      rw [gTs]
      refine ⟨y, ys, e1, gT_rel r1 rs e2 _ fun σ1 rs1 w1 => gTs_rel r2 rs1 e Q fun σ2 rs2 w2 => k σ2 rs2 fun ws hw => ?_⟩
      rw [w2 ws (fun i hi => hw i (by rw [slotsL]; exact List.mem_append_right _ hi)), w1 ws (fun i hi => hw i (by rw [slotsL]; exact List.mem_append_left _ hi))]
    · cases e
theorem bTs_len : ∀ {ts : List Tg} {vs : List Val} {ρ ρ' : Sl}, bTs ts vs ρ = some ρ' → vs.length = ts.length
  | [], [], _, _, _ => rfl
  | [], _ :: _, _, _, e => by simp at e
  | _ :: _, [], _, _, e => by simp at e
  | t :: ts, v :: vs, ρ, ρ', e => by
    rw [bTs] at e
    split at e
    · rename_i ρ1 e2
      rw [List.length_cons, List.length_cons, bTs_len e]
    · cases e
end
end
section
variable {X : Cx} {B : Bs} {e tg : Expr} {de : ED} {pos : Pos} {t : Tg}
@[simp] def sAsg (t : Tg) (de : ED) : SD := fun ρ h D E => de ρ h (fun v h1 => match bT t v ρ with
  | some ρ' => D.nx ρ' h1
  | none => False) E
theorem ds_asg (he : DE X B e de) (hg : PG X tg (gT X.K t)) (hs : swapsWithSole [tg] e pos.line X.env = pure false := by rfl) (hw : swappedStores [tg] e X.env = pure none := by rfl)
    (h1 : (assignEach [tg] X.env).map (·.2) = [assign tg X.env] := by rfl) : DS X B (.Assign [tg] e pos) (sAsg t de) :=
  PSi (ps_asg he hg hs hw h1) fun D σ H ⟨ρ, h, D', S, q, C⟩ => ⟨ρ, h, _, S, q, fun v h1 x H1 q1 s1 rv1 r1 => by
    have S1 := S.step s1 r1
    split at q1
    · rename_i ρ' e1
      exact gT_rel rv1 S1.s e1 _ fun σ' rs' _ => C.nx _ _ _ _ q1 s1 ⟨rs', r1, S1.b⟩
    · exact q1.elim⟩
@[simp] def sPar (is : List Nat) (aa : AD) : SD := fun ρ h D E => aa ρ h (fun vs h1 => match bTs (is.map Tg.nm) vs ρ with
  | some ρ' => D.nx ρ' h1
  | none => False) E
theorem ds_par2 {i j : Nat} {x y : Str} {a b : Expr} {aa : AD} {px py pt : Pos} {kt k2 pt2} (hc : X.calm = true) (hN : X.N.Nodup) (hi : X.N[i]? = some x) (hj : X.N[j]? = some y) (hij : i ≠ j)
    (hx : X.env.scope.names.lookup x = some .local) (hy : X.env.scope.names.lookup y = some .local) (ha : DA X B [a, b] aa)
    (hw : swappedStores [.Tuple [.Name x px, .Name y py] kt pt] (.Tuple [a, b] k2 pt2) X.env = pure (some [x, y]) := by rfl)
    (hs : swapsWithSole [.Tuple [.Name x px, .Name y py] kt pt] (.Tuple [a, b] k2 pt2) pos.line X.env = pure false := by rfl) :
    DS X B (.Assign [.Tuple [.Name x px, .Name y py] kt pt] (.Tuple [a, b] k2 pt2) pos) (sPar [i, j] aa) :=
  PSi (ps_par hc hN hi hj hij hx hy ha hw hs) fun D σ H ⟨ρ, h, D', S, q, C⟩ => ⟨ρ, h, _, S, q, fun vs h1 xs H1 q1 s1 rv1 r1 => by
    have S1 := S.step s1 r1
    match vs, q1 with
    | [v, w], q1 =>
      obtain ⟨x, y, e, rx, ry⟩ := rvs2 rv1
      exact ⟨x, y, e, C.nx _ _ _ _ q1 s1 ((S1.set i rx).set j ry)⟩
    | [], q1 => exact q1.elim
    | [_], q1 => exact q1.elim
    | _ :: _ :: _ :: _, q1 => exact q1.elim⟩
theorem ds_par3 {i j l : Nat} {x y z : Str} {a b c : Expr} {aa : AD} {px py pz pt : Pos} {kt k2 pt2} (hc : X.calm = true) (hN : X.N.Nodup) (hi : X.N[i]? = some x) (hj : X.N[j]? = some y) (hl : X.N[l]? = some z) (hij : i ≠ j) (hil : i ≠ l) (hjl : j ≠ l)
    (hx : X.env.scope.names.lookup x = some .local) (hy : X.env.scope.names.lookup y = some .local) (hz : X.env.scope.names.lookup z = some .local) (ha : DA X B [a, b, c] aa)
    (hw : swappedStores [.Tuple [.Name x px, .Name y py, .Name z pz] kt pt] (.Tuple [a, b, c] k2 pt2) X.env = pure (some [x, y, z]) := by rfl)
    (hs : swapsWithSole [.Tuple [.Name x px, .Name y py, .Name z pz] kt pt] (.Tuple [a, b, c] k2 pt2) pos.line X.env = pure false := by rfl) :
    DS X B (.Assign [.Tuple [.Name x px, .Name y py, .Name z pz] kt pt] (.Tuple [a, b, c] k2 pt2) pos) (sPar [i, j, l] aa) :=
  PSi (ps_par3 hc hN hi hj hl hij hil hjl hx hy hz ha hw hs) fun D σ H ⟨ρ, h, D', S, q, C⟩ => ⟨ρ, h, _, S, q, fun vs h1 xs H1 q1 s1 rv1 r1 => by
    have S1 := S.step s1 r1
    match vs, q1 with
    | [v, w, u], q1 =>
      rw [RVs] at rv1
      obtain ⟨x, xr, e1, rx, rr⟩ := rv1
      obtain ⟨y, z, e, ry, rz⟩ := rvs2 rr
      subst e
      exact ⟨x, y, z, e1, C.nx _ _ _ _ q1 s1 (((S1.set i rx).set j ry).set l rz)⟩
    | [], q1 => exact q1.elim
    | [_], q1 => exact q1.elim
    | [_, _], q1 => exact q1.elim
    | _ :: _ :: _ :: _ :: _, q1 => exact q1.elim⟩
end
end DL
namespace DL
open PySem PySem.Spec PyProof.Rows L2
structure Itr where
  items : List Val
  ok : Hv → Prop
abbrev ID := Sl → Hv → (Itr → Hv → Prop) → PX → Prop
def ItRel (K : PySem.W.Frag) (it : Itr) (J : It) (h : Hv) (H : Hp) : Prop := ∀ h2 H2, StepN h H h2 H2 → RH K H2 h2 → it.ok h2 →
  (∀ (i : Nat) v, it.items[i]? = some v → J.go i H2 ∧ ∀ x H3, J.yld i H2 x H3 → Step h2 H2 h2 H3 ∧ RH K H3 h2 ∧ RV K H3 h2 v x) ∧ J.stop it.items.length H2
def rdI (K : PySem.W.Frag) (B : Bs) (di : ID) : TI := fun σ H R => ∃ ρ h Q', ST K B σ H ρ h ∧ di ρ h Q' B.E ∧ ∀ it h' H' J, Q' it h' → Step h H h' H' → RH K H' h' → ItRel K it J h' H' → R J H'
abbrev DI (X : Cx) (B : Bs) (tg iter : Expr) (di : ID) : Prop := PI X tg iter (rdI X.K B di)
theorem PIi {X : Cx} {tg e : Expr} {t t' : TI} (p : PI X tg e t) (i : ∀ σ H Q, t' σ H Q → t σ H Q) : PI X tg e t' := ⟨fun pins s σ H Q I q => p.run pins s σ H Q I (i σ H Q q)⟩

def iAny (K : PySem.W.Frag) (tl : TE) : TI := fun σ H R => tl σ H fun x H1 => (∃ a, x = .ref a ∧ (∃ xs, SqL K H1 a xs) ∧ R (Itl K a) H1) ∨ (∃ a, x = .ref a ∧ (∃ xs, SqT K H1 a xs) ∧ R (Itt K a) H1) ∨ ∃ z, x = .str z ∧ R (Its z) H1
theorem pi_any {X : Cx} {tg l : Expr} {tl : TE} (hl : PE X l tl) : PI X tg l (iAny X.K tl) := by
  refine ⟨fun pins s σ H R I h => ?_⟩
  refine thn (hl.run pins s σ H _ I h) fun v s1 ⟨x, H1, I1, r1, q1⟩ => ?_
  rcases q1 with ⟨a, e, ⟨xs, hq⟩, q⟩ | ⟨a, e, ⟨xs, hq⟩, q⟩ | ⟨z, e, q⟩
  · subst e
    cases r1
    obtain ⟨its, rv, p, hz⟩ := I1.list hq
    refine wpAny_pyIter_list p.isList ?_
    refine ⟨s1.heap.objs.size, [s1.heap.objs.size], _, _, H1, rfl, I1.kept (t' := s1.toks) fun b o e => Heap.get?_push_of_some _ e, turn_list a _, ⟨_, Heap.get?_push_size _ rfl, rfl, rfl⟩, fun b hb => ?_, q⟩
    have e : b = s1.heap.objs.size := by simpa using hb
    subst e
    exact I1.fpOk (Nat.le_refl _) (I1.hok.fresh (Nat.le_refl _))
  · subst e
    cases r1
    obtain ⟨its, rv, p, hz⟩ := I1.tuple hq
    refine wpAny_pyIter_tuple (show s1.heap.IsTuple a its.toArray from p) ?_
    refine ⟨s1.heap.objs.size, [s1.heap.objs.size], _, _, H1, rfl, I1.kept (t' := s1.toks) fun b o e => Heap.get?_push_of_some _ e, turn_tuple a _, ⟨_, Heap.get?_push_size _ rfl, rfl, rfl⟩, fun b hb => ?_, q⟩
    have e : b = s1.heap.objs.size := by simpa using hb
    subst e
    exact I1.fpOk (Nat.le_refl _) (I1.hok.fresh (Nat.le_refl _))
  · subst e
    obtain ⟨t, rfl⟩ := r1
    cases ha : z.cps.all (· < 128)
    · exact wpAny_pyIter_wide ha (pi_one (tk := s1.toks) I1 _ (turn_str _ z t "str_iterator" (.inr rfl)) ⟨_, Heap.get?_push_size _ rfl, rfl, rfl⟩ q)
    · exact wpAny_pyIter_ascii ha (pi_one (tk := s1.toks) I1 _ (turn_str _ z t "str_ascii_iterator" (.inl rfl)) ⟨_, Heap.get?_push_size _ rfl, rfl, rfl⟩ q)

section
variable {K : PySem.W.Frag}
theorem itl_rel {h : Hv} {H : Hp} {a : Addr} {vs : List Val} {ok : Hv → Prop} (e : ∀ h2 H2, StepN h H h2 H2 → RH K H2 h2 → ok h2 → ∃ xs, SqL K H2 a xs ∧ RVs K H2 h2 vs xs) : ItRel K ⟨vs, ok⟩ (Itl K a) h H := fun h2 H2 s2 r2 o2 => by
  obtain ⟨xs, hq, rs⟩ := e h2 H2 s2 r2 o2
  refine ⟨fun i v hv => ?_, xs, hq, by rw [rs.len]; exact Nat.le_refl _⟩
  obtain ⟨x, ex, rx⟩ := rs.get hv
  refine ⟨⟨xs, x, hq, ex⟩, fun y H3 hy => ?_⟩
  obtain ⟨e3, hy⟩ := hy
  subst e3
  have := hy xs hq
  rw [ex] at this
  cases this
  exact ⟨Step.refl _ _, r2, rx⟩
theorem itt_rel {h : Hv} {H : Hp} {a : Addr} {vs : List Val} {ok : Hv → Prop} (e : ∀ h2 H2, StepN h H h2 H2 → RH K H2 h2 → ok h2 → ∃ xs, SqT K H2 a xs ∧ RVs K H2 h2 vs xs) : ItRel K ⟨vs, ok⟩ (Itt K a) h H := fun h2 H2 s2 r2 o2 => by
  obtain ⟨xs, hq, rs⟩ := e h2 H2 s2 r2 o2
  refine ⟨fun i v hv => ?_, xs, hq, by rw [rs.len]; exact Nat.le_refl _⟩
  obtain ⟨x, ex, rx⟩ := rs.get hv
  refine ⟨⟨xs, x, hq, ex⟩, fun y H3 hy => ?_⟩
  obtain ⟨e3, hy⟩ := hy
  subst e3
  have := hy xs hq
  rw [ex] at this
  cases this
  exact ⟨Step.refl _ _, r2, rx⟩
theorem its_rel {h : Hv} {H : Hp} {z : Str} {ok : Hv → Prop} : ItRel K ⟨z.cps.toList.map fun c => Val.str ⟨#[c]⟩, ok⟩ (Its z) h H := fun h2 H2 s2 r2 o2 => by
  refine ⟨fun i v hv => ?_, by show z.cps.size ≤ _; simp⟩
  simp only [List.getElem?_map, Option.map_eq_some_iff] at hv
  obtain ⟨c, hc, e⟩ := hv
  have hc' : z.cps[i]? = some c := by simpa using hc
  refine ⟨(Array.getElem?_eq_some_iff.mp hc').1, fun y H3 hy => ?_⟩
  obtain ⟨e3, c', hc2, ey⟩ := hy
  rw [hc'] at hc2
  cases hc2
  subst e3 e ey
  exact ⟨Step.refl _ _, r2, rv_str⟩
theorem itr_rel {h : Hv} {H : Hp} {lo : Int} {n : Nat} {ok : Hv → Prop} : ItRel K ⟨(List.range n).map fun i => Val.int (lo + (i : Nat)), ok⟩ (L2.Itr lo n) h H := fun h2 H2 s2 r2 o2 => by
  refine ⟨fun i v hv => ?_, by show n ≤ _; simp⟩
  simp only [List.getElem?_map, Option.map_eq_some_iff] at hv
  obtain ⟨c, hc, e⟩ := hv
  have hi : i < n := by
    have := (List.getElem?_eq_some_iff.mp hc).1
    simpa using this
  have : c = i := by
    have := (List.getElem?_eq_some_iff.mp hc).2
    simpa using this.symm
  subst this
  refine ⟨hi, fun y H3 hy => ?_⟩
  obtain ⟨e3, ey⟩ := hy
  subst e3 e ey
  exact ⟨Step.refl _ _, r2, rv_int⟩
end
section
variable {X : Cx} {B : Bs} {e e2 tg : Expr} {de : ED} {pos p : Pos} {aa : AD}
@[simp] def iterOf (v : Val) (h : Hv) : Option Itr := match v with
  | .tup vs => some ⟨vs, fun _ => True⟩
  | .tpo vs => some ⟨vs, fun _ => True⟩
  | .lst vs => some ⟨vs, fun _ => True⟩
  | .str z => some ⟨z.cps.toList.map fun c => Val.str ⟨#[c]⟩, fun _ => True⟩
  | .ref a => match h a with
    | some (.lst vs) => some ⟨vs, fun h' => h' a = some (.lst vs)⟩
    | _ => none
  | _ => none
@[simp] def dIt (de : ED) : ID := fun ρ h Q E => de ρ h (fun v h1 => match iterOf v h1 with
  | some it => Q it h1
  | none => False) E
theorem di_any (he : DE X B e de) : DI X B tg e (dIt de) :=
  PIi (pi_any he) fun σ H R ⟨ρ, h, Q', S, q, C⟩ => ⟨ρ, h, _, S, q, fun v h1 x H1 q1 s1 rv1 r1 => by
    split at q1
    · rename_i it ei
      have fin : ∀ J, ItRel X.K it J h1 H1 → R J H1 := fun J hJ => C it h1 H1 J q1 s1 r1 hJ
      cases v with
      | tup vs =>
        rw [RV] at rv1
        obtain ⟨a, xs, e1, n, ha, rs⟩ := rv1
        cases ei
        exact .inr (.inl ⟨a, e1, ⟨xs, .of ha⟩, fin _ (itt_rel fun h2 H2 s2 r2 _ => ⟨xs, .of (s2 a _ ha n nt_tup).1, rs.stepN s2⟩)⟩)
      | tpo vs =>
        rw [RV] at rv1
        obtain ⟨a, xs, o, e1, n, ha, hd, rs⟩ := rv1
        cases ei
        exact .inr (.inl ⟨a, e1, ⟨xs, .inl (.inr ⟨o, ha⟩)⟩, fin _ (itt_rel fun h2 H2 s2 r2 _ => ⟨xs, .inl (.inr ⟨o, (s2 a _ ha n nt_frz).1⟩), rs.stepN s2⟩)⟩)
      | lst vs =>
        rw [RV] at rv1
        obtain ⟨a, xs, e1, n, ha, rs⟩ := rv1
        cases ei
        exact .inl ⟨a, e1, ⟨xs, .of ha⟩, fin _ (itl_rel fun h2 H2 s2 r2 _ => ⟨xs, .of (s2 a _ ha n nt_lst).1, rs.stepN s2⟩)⟩
      | str z =>
        rw [RV] at rv1
        cases ei
        exact .inr (.inr ⟨z, rv1, fin _ its_rel⟩)
      | ref a =>
        rw [RV] at rv1
        unfold iterOf at ei
        dsimp only at ei
        split at ei
        · rename_i vs hv
          cases ei
          obtain ⟨xs, e1, rs⟩ := r1 a _ hv
          exact .inl ⟨a, rv1, ⟨xs, .of e1⟩, fin _ (itl_rel fun h2 H2 s2 r2 o2 => by
            obtain ⟨xs2, e2, rs2⟩ := r2 a _ o2
            exact ⟨xs2, .of e2, rs2⟩)⟩
        · cases ei
      | _ => cases ei
    · exact q1.elim⟩
@[simp] def dRange1 (aa : AD) : ID := fun ρ h Q E => aa ρ h (fun vs h1 => match vs with
  | [.int j] => -(2 ^ 62) ≤ j ∧ j < 2 ^ 62 ∧ Q ⟨(List.range j.toNat).map fun i => Val.int (0 + (i : Nat)), fun _ => True⟩ h1
  | _ => False) E
@[simp] def dRange2 (aa : AD) : ID := fun ρ h Q E => aa ρ h (fun vs h1 => match vs with
  | [.int i, .int j] => (-(2 ^ 62) ≤ i ∧ i < 2 ^ 62 ∧ -(2 ^ 62) ≤ j ∧ j < 2 ^ 62) ∧ Q ⟨(List.range (j - i).toNat).map fun k => Val.int (i + (k : Nat)), fun _ => True⟩ h1
  | _ => False) E
theorem di_range1 (hg : Gl X "range") (hm : X.mg "range" = none) (ha : DA X B [e] aa) (hs : starEach [e] X.env = [(false, eval e X.env)] := by rfl) : DI X B tg (.Call (.Name "range" p) [e] [] pos) (dRange1 aa) :=
  PIi (pi_range1 hg hm ha hs) fun σ H R ⟨ρ, h, Q', S, q, C⟩ => ⟨ρ, h, _, S, q, fun vs h1 xs H1 q1 s1 rv1 r1 => by
    split at q1
    · rename_i j
      obtain ⟨x, e1, rx⟩ := rvs1 rv1
      rw [RV] at rx
      subst rx
      exact ⟨j, e1, q1.1, q1.2.1, C _ h1 H1 _ q1.2.2 s1 r1 itr_rel⟩
    · exact q1.elim⟩
@[simp] def zipOf (v w : Val) (h : Hv) : Option Itr := match v, w with
  | .tup xs, .tup ys => some ⟨(xs.zip ys).map fun p => Val.tup [p.1, p.2], fun _ => True⟩
  | .lst xs, .lst ys => some ⟨(xs.zip ys).map fun p => Val.tup [p.1, p.2], fun _ => True⟩
  | _, _ => none
@[simp] def dZip (aa : AD) : ID := fun ρ h Q E => aa ρ h (fun vs h1 => match vs with
  | [v, w] => (match zipOf v w h1 with
    | some it => Q it h1
    | none => False)
  | _ => False) E
theorem pair_rel {K : PySem.W.Frag} {h2 : Hv} {H2 : Hp} {T : Addr} {v w : Val} {x y : V} (r2 : RH K H2 h2) (rx : RV K H2 h2 v x) (ry : RV K H2 h2 w y) (nT : H2 T = none) :
    Step h2 H2 h2 (upd H2 T (.tup [x, y])) ∧ RH K (upd H2 T (.tup [x, y])) h2 ∧ RV K (upd H2 T (.tup [x, y])) h2 (.tup [v, w]) (.ref T) := by
  refine ⟨Step.fresh nT, r2.fresh nT, ?_⟩
  rw [RV]
  exact ⟨T, _, rfl, r2.nof nT, upd_same, RVs.cons (rx.step (Step.fresh nT)) (RVs.cons (ry.step (Step.fresh nT)) RVs.nil)⟩
theorem zip_get {xs ys : List Val} {i : Nat} {v : Val} (h : ((xs.zip ys).map fun p => Val.tup [p.1, p.2])[i]? = some v) : ∃ a b, xs[i]? = some a ∧ ys[i]? = some b ∧ v = .tup [a, b] := by
  rw [List.getElem?_map, Option.map_eq_some_iff] at h
  obtain ⟨⟨a, b⟩, h1, h2⟩ := h
  rw [List.getElem?_zip_eq_some] at h1
  exact ⟨a, b, h1.1, h1.2, h2.symm⟩
theorem itz_rel {K : PySem.W.Frag} {h : Hv} {H : Hp} {a b : Addr} {vs ws : List Val} {ok : Hv → Prop} (e : ∀ h2 H2, StepN h H h2 H2 → RH K H2 h2 → ok h2 → ∃ xs ys, SqL K H2 a xs ∧ RVs K H2 h2 vs xs ∧ SqL K H2 b ys ∧ RVs K H2 h2 ws ys) :
    ItRel K ⟨(vs.zip ws).map fun p => Val.tup [p.1, p.2], ok⟩ (Itz K a b) h H := fun h2 H2 s2 r2 o2 => by
  obtain ⟨xs, ys, hq, rs, hq2, rs2⟩ := e h2 H2 s2 r2 o2
  refine ⟨fun i v hv => ?_, xs, ys, hq, hq2, ?_⟩
  · obtain ⟨v1, v2, e1, e2, ev⟩ := zip_get hv
    obtain ⟨x, ex, rx⟩ := rs.get e1
    obtain ⟨y, ey, ry⟩ := rs2.get e2
    refine ⟨⟨xs, ys, x, y, hq, hq2, ex, ey⟩, fun z H3 hz => ?_⟩
    obtain ⟨T, x', y', ez, nT, eH, hx, hy⟩ := hz
    have := hx xs hq
    rw [ex] at this
    cases this
    have := hy ys hq2
    rw [ey] at this
    cases this
    subst ez eH ev
    exact pair_rel r2 rx ry nT
  · simp only [List.length_map, List.length_zip]
    rw [rs.len, rs2.len]
    omega
theorem itzT_rel {K : PySem.W.Frag} {h : Hv} {H : Hp} {a b : Addr} {vs ws : List Val} {ok : Hv → Prop} (e : ∀ h2 H2, StepN h H h2 H2 → RH K H2 h2 → ok h2 → ∃ xs ys, SqT K H2 a xs ∧ RVs K H2 h2 vs xs ∧ SqT K H2 b ys ∧ RVs K H2 h2 ws ys) :
    ItRel K ⟨(vs.zip ws).map fun p => Val.tup [p.1, p.2], ok⟩ (RZ.ItzT K a b) h H := fun h2 H2 s2 r2 o2 => by
  obtain ⟨xs, ys, hq, rs, hq2, rs2⟩ := e h2 H2 s2 r2 o2
  refine ⟨fun i v hv => ?_, xs, ys, hq, hq2, ?_⟩
  · obtain ⟨v1, v2, e1, e2, ev⟩ := zip_get hv
    obtain ⟨x, ex, rx⟩ := rs.get e1
    obtain ⟨y, ey, ry⟩ := rs2.get e2
    refine ⟨⟨xs, ys, x, y, hq, hq2, ex, ey⟩, fun z H3 hz => ?_⟩
    obtain ⟨T, x', y', ez, nT, eH, hx, hy⟩ := hz
    have := hx xs hq
    rw [ex] at this
    cases this
    have := hy ys hq2
    rw [ey] at this
    cases this
    subst ez eH ev
    exact pair_rel r2 rx ry nT
  · simp only [List.length_map, List.length_zip]
    rw [rs.len, rs2.len]
    omega
theorem di_zip {elts : List Expr} {kk : Nat} {tpos : Pos} (hg : Gl X "zip") (hm : X.mg "zip" = none) (ha : DA X B [e, e2] aa) (hs : starEach [e, e2] X.env = (false, eval e X.env) :: starEach [e2] X.env := by rfl) (hpl : (backTo pos (starEach [e2] X.env)).any (·.1) = false := by rfl) :
    DI X B (.Tuple elts kk tpos) (.Call (.Name "zip" p) [e, e2] [] pos) (dZip aa) :=
  PIi (RZ.pi_zipA hg hm ha hs hpl) fun σ H R ⟨ρ, h, Q', S, q, C⟩ => ⟨ρ, h, _, S, q, fun vs h1 xs H1 q1 s1 rv1 r1 => by
    split at q1
    · rename_i v w
      obtain ⟨x, y, e1, rx, ry⟩ := rvs2 rv1
      split at q1
      · rename_i it ei
        unfold zipOf at ei
        split at ei
        · cases ei
          rw [RV] at rx ry
          obtain ⟨a, us, ea, na, ha, ra⟩ := rx
          obtain ⟨b, ws, eb, nb, hb, rb⟩ := ry
          exact ⟨a, b, us, ws, by rw [e1, ea, eb], .inr ⟨.of ha, .of hb, C _ h1 H1 _ q1 s1 r1 (itzT_rel fun h2 H2 s2 r2 _ => ⟨us, ws, .of (s2 a _ ha na nt_tup).1, ra.stepN s2, .of (s2 b _ hb nb nt_tup).1, rb.stepN s2⟩)⟩⟩
        · cases ei
          rw [RV] at rx ry
          obtain ⟨a, us, ea, na, ha, ra⟩ := rx
          obtain ⟨b, ws, eb, nb, hb, rb⟩ := ry
          exact ⟨a, b, us, ws, by rw [e1, ea, eb], .inl ⟨.of ha, .of hb, C _ h1 H1 _ q1 s1 r1 (itz_rel fun h2 H2 s2 r2 _ => ⟨us, ws, .of (s2 a _ ha na nt_lst).1, ra.stepN s2, .of (s2 b _ hb nb nt_lst).1, rb.stepN s2⟩)⟩⟩
        · cases ei
      · exact q1.elim
    · exact q1.elim⟩

def forL (ok : Hv → Prop) (t : Tg) (d : SD) : List Val → Sl → Hv → AE → PX → Prop
  | [], ρ, h, D, _ => ok h ∧ D.nx ρ h
  | v :: vs, ρ, h, D, E => ok h ∧ match bT t v ρ with
    | some ρ' => d ρ' h { D with nx := fun ρ h => forL ok t d vs ρ h D E, ct := fun ρ h => forL ok t d vs ρ h D E, bk := D.nx } E
    | none => False
@[simp] def sFor (di : ID) (t : Tg) (d : SD) : SD := fun ρ h D E => di ρ h (fun it h1 => forL it.ok t d it.items ρ h1 D E) E
theorem ds_for {iter : Expr} {body : List Stmt} {di : ID} {t : Tg} {d : SD} (hp : PassesOwn (model X.prog X.w) X.A X.env X.xe) (hc : X.calm = true) (hi : DI X B tg iter di) (hg : PG X tg (gT X.K t)) (hb : DSs X B body d)
    (hs : ∀ x, foldedSetIterable iter X.env x = pure x := by intro _; rfl) : DS X B (.For tg iter body [] pos) (sFor di t d) := by
  refine PSi (ps_for hp hc hi hg hb hs) fun D σ H ⟨ρ, h, D', S, q, C⟩ => ?_
  refine ⟨ρ, h, _, S, q, fun it h1 H1 J q1 s1 r1 hJ => ?_⟩
  have S1 := S.step s1 r1
  refine ⟨fun i m σ2 H2 => ∃ ρ2 h2, i + m = it.items.length ∧ ST X.K B σ2 H2 ρ2 h2 ∧ Step h1 H1 h2 H2 ∧ forL it.ok t d (it.items.drop i) ρ2 h2 D' B.E, ⟨it.items.length, ρ, h1, by omega, S1, Step.refl _ _, q1⟩, ?_⟩
  rintro i m σ2 H2 ⟨ρ2, h2, em, S2, s2, q2⟩
  cases hd : it.items.drop i with
  | nil =>
    rw [hd] at q2
    have hi : it.items.length ≤ i := List.drop_eq_nil_iff.mp hd
    have ei : i = it.items.length := by omega
    subst ei
    exact .inl ⟨(hJ h2 H2 s2.n S2.r q2.1).2, C.nx _ _ _ _ q2.2 (s1.trans s2) S2⟩
  | cons v vs =>
    rw [hd] at q2
    have hi : i < it.items.length := by
      apply Nat.lt_of_not_le
      intro hh
      rw [List.drop_eq_nil_iff.mpr hh] at hd
      cases hd
    have hv : it.items[i]? = some v := by
      have := congrArg (·[0]?) hd
      simpa using this
    have hdr : it.items.drop (i + 1) = vs := by
      rw [← List.drop_drop, hd] <;> rfl
    obtain ⟨ok2, q2⟩ := q2
    obtain ⟨go, yl⟩ := (hJ h2 H2 s2.n S2.r ok2).1 i v hv
    refine .inr ⟨go, fun σ3 H3 => ∃ ρ3 h3, ST X.K B σ3 H3 ρ3 h3 ∧ Step h1 H1 h3 H3 ∧ forL it.ok t d vs ρ3 h3 D' B.E, fun σ3 H3 ⟨ρ3, h3, S3, s3, q3⟩ => ⟨m - 1, by omega, ρ3, h3, by omega, S3, s3, by rw [hdr]; exact q3⟩, fun x H3 hy => ?_⟩
    obtain ⟨s3, r3, rv3⟩ := yl x H3 hy
    have S3 := S2.step s3 r3
    split at q2
    · rename_i ρ' eρ
      refine gT_rel rv3 S3.s eρ _ fun σ' rs' _ => ?_
      have s13 := s2.trans s3
      exact ⟨ρ', h2, _, ⟨rs', r3, S3.b⟩, q2, ⟨fun ρ4 h4 σ4 H4 q4 s4 S4 => ⟨ρ4, h4, S4, s13.trans s4, q4⟩, fun v h4 x H4 q4 s4 => C.rt v h4 x H4 q4 (s1.trans (s13.trans s4)), fun ρ4 h4 σ4 H4 q4 s4 S4 => C.nx _ _ _ _ q4 (s1.trans (s13.trans s4)) S4, fun ρ4 h4 σ4 H4 q4 s4 S4 => ⟨ρ4, h4, S4, s13.trans s4, q4⟩⟩⟩
    · exact q2.elim
end
end DL
namespace DL
open PySem PySem.Spec PyProof.Rows L2
abbrev EF : PX := fun _ _ _ _ => False
abbrev Bs.blk (B : Bs) : Bs := ⟨EF, B.h0, B.H0⟩
theorem ST.blk {K : PySem.W.Frag} {B : Bs} {σ : L2.St} {H : Hp} {ρ : Sl} {h : Hv} (x : ST K B σ H ρ h) : ST K B.blk σ H ρ h := ⟨x.s, x.r, x.b⟩
@[simp] def wipeA (ρ : Sl) : List Nat → Sl
  | [] => ρ
  | v :: vs => (wipeA ρ vs).set v none
theorem RS.setN {K : PySem.W.Frag} {H : Hp} {h : Hv} {ρ : Sl} {σ : L2.St} (r : RS K H h ρ σ) (i : Nat) : RS K H h (ρ.set i none) (σ.set i none) := by
  refine ⟨by rw [List.length_set, List.length_set]; exact r.1, fun j w e => ?_⟩
  by_cases hj : i = j
  · subst hj
    by_cases hi : i < ρ.length
    · rw [List.getElem?_set_self hi] at e
      cases e
    · rw [List.getElem?_eq_none (by simpa using hi)] at e
      cases e
  · rw [List.getElem?_set_ne hj] at e ⊢
    exact r.2 j w e
theorem RS.wipe {K : PySem.W.Frag} {H : Hp} {h : Hv} {ρ : Sl} {σ : L2.St} (r : RS K H h ρ σ) : ∀ vs : List Nat, RS K H h (wipeA ρ vs) (L2.wipe σ vs)
  | [] => r
  | v :: vs => (RS.wipe r vs).setN v
theorem wipe_sub {σ : L2.St} {vs : List Nat} : ∀ us : List Nat, (∀ i ∈ us, i ∈ vs) → L2.wipe (L2.wipe σ us) vs = L2.wipe σ vs
  | [], _ => rfl
  | u :: us, h => by
    rw [show L2.wipe σ (u :: us) = (L2.wipe σ us).set u none from rfl, wipe_set (h u List.mem_cons_self)]
    exact wipe_sub us fun i hi => h i (List.mem_cons_of_mem _ hi)
theorem wipe_wipe (σ : L2.St) (vs : List Nat) : L2.wipe (L2.wipe σ vs) vs = L2.wipe σ vs := wipe_sub vs fun _ h => h
def lcL (ok : Hv → Prop) (t : Tg) (tt : TD) (te : ED) (ρw : Sl) : List Val → List Val → Hv → (List Val → Hv → Prop) → Prop
  | [], acc, h, Q => ok h ∧ Q acc h
  | v :: vs, acc, h, Q => ok h ∧ match bT t v ρw with
    | some ρ' => tt ρ' h (fun b h1 => if b = true then te ρ' h1 (fun y h2 => acc.length < sizeLine ∧ lcL ok t tt te ρw vs (acc ++ [y]) h2 Q) EF else lcL ok t tt te ρw vs acc h1 Q) EF
    | none => False
@[simp] def tTrue : TD := fun _ h Q _ => Q true h
def dLc (di : ID) (t : Tg) (tt : TD) (te : ED) (vs : List Nat) : ED := fun ρ h Q E => di ρ h (fun it h1 => ∀ D, h1 D = none → lcL it.ok t tt te (wipeA ρ vs) it.items [] (put h1 D .busy) (fun acc h2 => Q (.lst acc) (drop h2 D))) E
def dLcH (di : ID) (t : Tg) (tt : TD) (te : ED) (vs : List Nat) : ED := fun ρ h Q E => di ρ h (fun it h1 => ∀ D, h1 D = none → lcL it.ok t tt te (wipeA ρ vs) it.items [] (put h1 D .busy) (fun acc h2 => Q (.ref D) (put h2 D (.lst acc)))) E
theorem rd_lc {K : PySem.W.Frag} {B : Bs} {di : ID} {t : Tg} {tt : TD} {te : ED} {vs : List Nat} {d : ED} {heap : Bool} (hd : d = if heap = true then dLcH di t tt te vs else dLc di t tt te vs) (hsl : ∀ i ∈ slots t, i ∈ vs) :
    ∀ σ H Q, rdE K B d σ H Q → tLc (rdI K B di) (gT K t) (rdT K B.blk tt) (rdE K B.blk te) vs σ H Q := by
  rintro σ H Q ⟨ρ, h, Q', S, q, C⟩
  have q : di ρ h (fun it h1 => ∀ D, h1 D = none → lcL it.ok t tt te (wipeA ρ vs) it.items [] (put h1 D .busy) (fun acc h2 => if heap = true then Q' (.ref D) (put h2 D (.lst acc)) else Q' (.lst acc) (drop h2 D))) B.E := by
    rw [hd] at q
    cases heap <;> exact q
  refine ⟨ρ, h, _, S, q, fun it h1 H1 J q1 s1 r1 hJ D nD => ?_⟩
  have S1 := S.step s1 r1
  have nd : h1 D = none := r1.nof nD
  have sN : Step h1 H1 (put h1 D .busy) (upd H1 D (.lst [])) := Step.new nD
  have rN : RH K (upd H1 D (.lst [])) (put h1 D .busy) := r1.new nD ⟨_, upd_same, .inl ⟨_, rfl⟩⟩
  refine ⟨fun i m H2 => ∃ acc xs h2, i + m = it.items.length ∧ RH K H2 h2 ∧ Step h1 H1 h2 H2 ∧ h2 D = some .busy ∧ H2 D = some (.lst xs) ∧ RVs K H2 h2 acc xs ∧ lcL it.ok t tt te (wipeA ρ vs) (it.items.drop i) acc h2 (fun acc h2 => if heap = true then Q' (.ref D) (put h2 D (.lst acc)) else Q' (.lst acc) (drop h2 D)),
    ⟨it.items.length, [], [], put h1 D .busy, by omega, rN, sN, put_same, upd_same, RVs.nil, q1 D nd⟩, ?_⟩
  rintro i m H2 ⟨acc, xs, h2, em, r2, s2, hb2, hD2, ra2, q2⟩
  cases hdr : it.items.drop i with
  | nil =>
    rw [hdr] at q2
    have hi : it.items.length ≤ i := List.drop_eq_nil_iff.mp hdr
    have ei : i = it.items.length := by omega
    subst ei
    refine .inl ⟨(hJ h2 H2 s2.n r2 q2.1).2, ?_⟩
    have q3 := q2.2
    cases heap with
    | true =>
      rw [if_pos rfl] at q3
      have sw : StepN h2 H2 (put h2 D (.lst acc)) H2 := fun a o e n _ => by
        have : a ≠ D := fun z => by rw [z, hb2] at n; cases n
        exact ⟨e, by rw [put_ne this]; exact n⟩
      have sf : Step h1 H1 (put h2 D (.lst acc)) H2 := ⟨fun a o e n t => by
        obtain ⟨e2, n2⟩ := s2.n a o e n t
        exact sw a o e2 n2 t, fun a o e n => by
        have ne : a ≠ D := ne_of_none e nD
        rw [put_ne ne]
        exact s2.b a o e n⟩
      refine C _ _ _ _ q3 (s1.trans sf) (by rw [RV]) fun a o q => ?_
      by_cases ha : a = D
      · subst ha
        rw [put_same] at q
        cases q
        exact ⟨xs, hD2, ra2.stepN sw⟩
      · rw [put_ne ha] at q
        exact (r2 a o q).stepN sw fun _ z => z
    | false =>
      rw [if_neg Bool.false_ne_true] at q3
      have sf : Step h1 H1 (drop h2 D) H2 := ⟨fun a o e n t => by
        obtain ⟨e2, n2⟩ := s2.n a o e n t
        exact less_drop.stepN a o e2 n2 t, fun a o e n => by
        have ne : a ≠ D := ne_of_none e nD
        rw [drop_ne ne]
        exact s2.b a o e n⟩
      refine C _ _ _ _ q3 (s1.trans sf) ?_ (r2.less less_drop)
      rw [RV]
      exact ⟨D, xs, rfl, drop_same, hD2, ra2.stepN less_drop.stepN⟩
  | cons v ws =>
    rw [hdr] at q2
    have hi : i < it.items.length := by
      apply Nat.lt_of_not_le
      intro hh
      rw [List.drop_eq_nil_iff.mpr hh] at hdr
      cases hdr
    have hv : it.items[i]? = some v := by
      have := congrArg (·[0]?) hdr
      simpa using this
    have hdr' : it.items.drop (i + 1) = ws := by
      rw [← List.drop_drop, hdr] <;> rfl
    obtain ⟨ok2, q2⟩ := q2
    obtain ⟨go, yl⟩ := (hJ h2 H2 s2.n r2 ok2).1 i v hv
    refine .inr ⟨go, fun H3 => ∃ acc xs h3, RH K H3 h3 ∧ Step h1 H1 h3 H3 ∧ h3 D = some .busy ∧ H3 D = some (.lst xs) ∧ RVs K H3 h3 acc xs ∧ lcL it.ok t tt te (wipeA ρ vs) ws acc h3 (fun acc h2 => if heap = true then Q' (.ref D) (put h2 D (.lst acc)) else Q' (.lst acc) (drop h2 D)),
      fun H3 ⟨acc, xs, h3, r3, s3, b3, d3, a3, q3⟩ => ⟨m - 1, by omega, acc, xs, h3, by omega, r3, s3, b3, d3, a3, by rw [hdr']; exact q3⟩, fun x H3 hy => ?_⟩
    obtain ⟨s3, r3, rv3⟩ := yl x H3 hy
    split at q2
    · rename_i ρ' eρ
      have sl3 : RS K H3 h2 (wipeA ρ vs) (L2.wipe σ vs) := ((S1.s.wipe vs).step s2).step s3
      refine gT_rel rv3 sl3 eρ _ fun σ' rs' hw => ⟨?_, ?_⟩
      · rw [hw vs hsl]
        exact wipe_wipe σ vs
      · refine ⟨ρ', h2, _, ⟨rs', r3, S1.b.trans (s2.trans s3)⟩, q2, fun k h4 H4 q4 s4 r4 => ?_⟩
        have s24 := s3.trans s4
        have b4 := s24.b D _ hD2 hb2
        cases k with
        | false =>
          rw [if_neg Bool.false_ne_true] at q4
          exact iteF ⟨acc, xs, h4, r4, s2.trans s24, b4.2, b4.1, ra2.step s24, q4⟩
        | true =>
          rw [if_pos rfl] at q4
          refine iteT ⟨ρ', h4, _, ⟨rs'.step s4, r4, (S1.b.trans (s2.trans s3)).trans s4⟩, q4, fun y h5 yx H5 q5 s5 rv5 r5 => ?_⟩
          have s25 := s24.trans s5
          have b5 := s25.b D _ hD2 hb2
          refine ⟨xs, b5.1, ?_, acc ++ [y], xs ++ [yx], h5, ?_, ?_, b5.2, upd_same, ?_, q5.2⟩
          · rw [← ra2.len]; exact q5.1
          · intro a o q
            have sD : StepN h5 H5 h5 (upd H5 D (.lst (xs ++ [yx]))) := fun a o e n _ => by
              have : a ≠ D := fun z => by rw [z, b5.2] at n; cases n
              rw [upd_ne this]
              exact ⟨e, n⟩
            by_cases ha : a = D
            · subst ha
              rw [b5.2] at q
              cases q
              exact ⟨_, upd_same, .inl ⟨_, rfl⟩⟩
            · exact (r5 a o q).stepN sD fun _ z => by rw [upd_ne ha]; exact z
          · have s15 := s2.trans s25
            exact ⟨fun a o e n t => by
              obtain ⟨e2, n2⟩ := s15.n a o e n t
              rw [upd_ne (ne_of_none e nD)]
              exact ⟨e2, n2⟩, fun a o e n => by
              obtain ⟨e2, n2⟩ := s15.b a o e n
              rw [upd_ne (ne_of_none e nD)]
              exact ⟨e2, n2⟩⟩
          · have sD : StepN h5 H5 h5 (upd H5 D (.lst (xs ++ [yx]))) := fun a o e n _ => by
              have : a ≠ D := fun z => by rw [z, b5.2] at n; cases n
              rw [upd_ne this]
              exact ⟨e, n⟩
            exact ((ra2.step s25).append (RVs.cons rv5 RVs.nil)).stepN sD
    · exact q2.elim

section
variable {X : Cx} {B : Bs} {elt tg iter c : Expr} {ifs : List Expr} {scope : Scope} {own : List (Str × Nat)} {pos spos : Pos} {di : ID} {t : Tg} {tt : TD} {te : ED}
theorem dts_nil {B : Bs} : PTs X [] (rdT X.K B tTrue) := ⟨fun pins s σ H Q I ⟨ρ, h, Q', S, q, C⟩ => pts_nil.run pins s σ H Q I (C _ _ _ q (Step.refl _ _) S.r)⟩
theorem dts_one {B : Bs} (h : DT X B c tt) : PTs X [c] (rdT X.K B tt) := pts_one h
theorem de_lc (hc : X.calm = true) (hN : X.N.Nodup) (hi : DI X B tg iter di) (ok : BlkOk X.N X.env.scope scope own) (hsl : ∀ i ∈ slots t, i ∈ own.map (·.2))
    (hg : ∀ (s : Shared) (H : Hp) (C : Addr) (cl : List (Str × Addr)) (fp : List Addr), PG (X.blk s H scope (compEnvC scope cl C X.env) fp) tg (gT X.K t)) (ht : ∀ (s : Shared) (H : Hp) (C : Addr) (cl : List (Str × Addr)) (fp : List Addr), PTs (X.blk s H scope (compEnvC scope cl C X.env) fp) ifs (rdT X.K B.blk tt))
    (he : ∀ (s : Shared) (H : Hp) (C : Addr) (cl : List (Str × Addr)) (fp : List Addr), DE (X.blk s H scope (compEnvC scope cl C X.env) fp) B.blk elt te) (hs : ∀ x, foldedSetIterable iter X.env x = pure x := by intro _; rfl) :
    DE X B (.ListComp elt [⟨tg, iter, ifs, 0⟩] scope pos) (dLc di t tt te (own.map (·.2))) := PEi (pe_lc hc hN hi ok hg ht he hs) (rd_lc (heap := false) rfl hsl)
theorem ds_setLc {i : Nat} {y : Str} {py : Pos} {d : ED} (heap : Bool) (hd : d = if heap = true then dLcH di t tt te (own.map (·.2)) else dLc di t tt te (own.map (·.2))) (hc : X.calm = true) (hN : X.N.Nodup) (hy : X.N[i]? = some y) (hyl : X.env.scope.names.lookup y = some .local)
    (hsw : swapsWith (.ListComp elt [⟨tg, iter, ifs, 0⟩] scope pos) (some (.Name y py)) spos.line X.env = pure true) (hi : DI X B tg iter di) (ok : BlkOk X.N X.env.scope scope own) (hsl : ∀ i ∈ slots t, i ∈ own.map (·.2))
    (hg : ∀ (s : Shared) (H : Hp) (C : Addr) (cl : List (Str × Addr)) (fp : List Addr), PG (X.blk s H scope (compEnvC scope cl C X.env) fp) tg (gT X.K t)) (ht : ∀ (s : Shared) (H : Hp) (C : Addr) (cl : List (Str × Addr)) (fp : List Addr), PTs (X.blk s H scope (compEnvC scope cl C X.env) fp) ifs (rdT X.K B.blk tt))
    (he : ∀ (s : Shared) (H : Hp) (C : Addr) (cl : List (Str × Addr)) (fp : List Addr), DE (X.blk s H scope (compEnvC scope cl C X.env) fp) B.blk elt te) (hs : ∀ x, foldedSetIterable iter X.env x = pure x := by intro _; rfl) :
    DS X B (.Assign [.Name y py] (.ListComp elt [⟨tg, iter, ifs, 0⟩] scope pos) spos) (sSet i d) :=
  PSi (ps_setLc hc hN hy hyl hsw hi ok hg ht he hs) fun D σ H z => by
    obtain ⟨ρ, h, Q', S, q, C⟩ := rd_set D σ H z
    exact rd_lc hd hsl σ H _ ⟨ρ, h, Q', S, q, C⟩
end
structure Lss (h h2 : Hv) : Prop where
  l : Less h h2
  b : ∀ a, h a = some .busy → h2 a = some .busy
theorem Lss.refl (h : Hv) : Lss h h := ⟨Less.refl h, fun _ e => e⟩
theorem Lss.trans {h h1 h2 : Hv} (x : Lss h h1) (y : Lss h1 h2) : Lss h h2 := ⟨fun a => by
  rcases y.l a with z | z
  · exact .inl z
  · rw [z]; exact x.l a, fun a e => y.b a (x.b a e)⟩
theorem Lss.put {h : Hv} {p : Addr} {o : Ob} (e : h p = none) (n : o ≠ .busy) : Lss (put h p o) h := ⟨fun a => by
  by_cases ha : a = p
  · subst ha; exact .inl e
  · exact .inr (put_ne ha).symm, fun a q => by
  by_cases ha : a = p
  · subst ha; rw [put_same] at q; cases q; exact absurd rfl n
  · rw [put_ne ha] at q; exact q⟩
theorem Lss.step {h h2 : Hv} {H : Hp} (x : Lss h h2) : Step h H h2 H := ⟨x.l.stepN, fun a o e n => ⟨e, x.b a n⟩⟩
def Conv (v : Val) (h : Hv) (v2 : Val) (h2 : Hv) : Prop := Lss h h2 ∧ ∀ (K : PySem.W.Frag) (H : Hp) (x : V), RH K H h → RV K H h v x → RV K H h2 v2 x
theorem conv_less {v : Val} {h h2 : Hv} (l : Lss h h2) : Conv v h v h2 := ⟨l, fun K H x _ rv => rv.stepN l.l.stepN⟩
theorem conv_frz {h h2 : Hv} {p : Addr} {vs : List Val} (l : Lss h h2) (e : h p = some (.lst vs)) (n : h2 p = none) : Conv (.ref p) h (.lst vs) h2 := ⟨l, fun K H x r rv => by
  rw [RV] at rv
  rw [RV]
  obtain ⟨xs, e1, rs⟩ := r p _ e
  exact ⟨p, xs, rv, n, e1, rs.stepN l.l.stepN⟩⟩
@[simp] def startA (N : List Str) (as : List Val) : Sl := as.map some ++ List.replicate (N.length - as.length) none
theorem RVs.getS {K : PySem.W.Frag} {H : Hp} {h : Hv} {as : List Val} {vs : List V} (r : RVs K H h as vs) (N : List Str) : RS K H h (startA N as) (L2.start N vs) := by
  unfold startA L2.start
  refine ⟨by simp [r.len], fun i v e => ?_⟩
  have hi : i < as.length := by
    apply Nat.lt_of_not_le
    intro hh
    rw [List.getElem?_append_right (by simpa using hh), List.getElem?_replicate] at e
    split at e <;> cases e
  rw [List.getElem?_append_left (by simpa using hi), List.getElem?_map] at e
  obtain ⟨w, e1, e2⟩ := Option.map_eq_some_iff.mp e
  cases e2
  obtain ⟨x, ex, rx⟩ := r.get e1
  refine ⟨x, ?_, rx⟩
  rw [List.getElem?_append_left (by rw [List.length_map, ← r.len]; exact hi), List.getElem?_map, ex]
  rfl
theorem fn_mk {P : Program} {w : World} {K : PySem.W.Frag} {mg : Str → Option Value} {base : Heap} {x qual : Str} {st : Stmt} {f : Addr} {fd : FuncData} {N ps : List Str} {k : Nat} {fs : SpF} {den : SD} (F : Fun K x qual st f fd) (S : FnScope N ps (defScope st))
    (hd : ∀ (cdv : Value) (A : Around) (outer : List Env) (s : Shared) (H : Hp) (E : XK) (B : Bs), Room k (A.deeper (envOfC qual (defScope st) s.heap.objs.size f cdv)) → TakesB (cxOf (L2.CX P w) P w K mg base N qual (defScope st) f cdv A outer s H E) B →
      DSs (cxOf (L2.CX P w) P w K mg base N qual (defScope st) f cdv A outer s H E) B (defBody st) den)
    (hs : ∀ as h Q E, as.length = ps.length → fs as h Q E → den (startA N as) h ⟨fun _ h' => ∃ h2, Lss h' h2 ∧ Q .non h2, fun v h' => ∃ v2 h2, Conv v h' v2 h2 ∧ Q v2 h2, fun _ _ => False, fun _ _ => False⟩ (fun nm pl _ h' => ∃ h2, Lss h' h2 ∧ E nm pl h2)) :
    FnOk P w K mg base (L2.CX P w) (k + 1) f fd ps (spA K mg ps.length fs) := by
  refine F.okX S (fun vs H Q E h => ?_) (fun cdv A outer s H vs Q E hr h => ?_)
  · obtain ⟨as, h, Q', E', rs, _, e, _⟩ := h
    rw [← rs.len]; exact e
  · obtain ⟨as, h, Q', E', rs, r, e, q, C, CX⟩ := h
    refine ⟨_, hd cdv A outer s H E ⟨fun nm pl _ h' => ∃ h2, Lss h' h2 ∧ E' nm pl h2, h, H⟩ hr ?_, startA N as, h, _, ⟨rs.getS N, r, Step.refl _ _⟩, hs as h Q' E' e q, ?_⟩
    · have tk : Takes (cxOf (L2.CX P w) P w K mg base N qual (defScope st) f cdv A outer s H E) (fun cls d _ H => E cls d H) := takes_of rfl rfl rfl rfl
      refine tk.imp fun cls d σ H1 hw => ?_
      obtain ⟨nm, pl, ρ, h1, hm, S1, pld, h2, l2, hE⟩ := hw
      exact CX nm pl h2 cls d H1 hE (S1.b.trans l2.step) (S1.r.less l2.l) hm (pld.step l2.step)
    · refine ⟨fun ρ1 h1 σ1 H1 q1 s1 S1 => ?_, fun v h1 x H1 q1 s1 rv1 r1 => ?_, fun _ _ _ _ z => z.elim, fun _ _ _ _ z => z.elim⟩
      · obtain ⟨h2, l2, q2⟩ := q1
        exact C _ _ _ _ q2 (s1.trans l2.step) rv_non (S1.r.less l2.l)
      · obtain ⟨v2, h2, c2, q2⟩ := q1
        exact C _ _ _ _ q2 (s1.trans c2.1.step) (c2.2 K H1 x r1 rv1) (r1.less c2.1.l)
end DL
namespace DL
open PySem PySem.Spec PyProof.Rows L2
abbrev FM := Val → List Val → Hv → PV → Prop
def tyA (v : Val) (h : Hv) (T : String) : Prop := match v with
  | .str _ => T = "str"
  | .lst _ => T = "list"
  | .ref a => match h a with
    | some (.lst _) => T = "list"
    | some (.dK _) => T = "dict"
    | some (.dT _) => T = "dict"
    | _ => False
  | _ => False
theorem tyA_rel {K : PySem.W.Frag} {H : Hp} {h : Hv} {v : Val} {x : V} {T : String} (r : RH K H h) (rv : RV K H h v x) (e : tyA v h T) : tyV K T x H := by
  cases v with
  | str z => rw [RV] at rv; subst rv; exact e
  | lst vs =>
    rw [RV] at rv
    obtain ⟨a, xs, e1, _, ha, rs⟩ := rv
    subst e1
    exact .inl ⟨e, xs, .of ha⟩
  | ref a =>
    rw [RV] at rv; subst rv
    unfold tyA at e
    dsimp only at e
    split at e
    · rename_i vs hv
      obtain ⟨xs, e1, rs⟩ := r a _ hv
      exact .inl ⟨e, xs, .of e1⟩
    · rename_i vs hv
      obtain ⟨xs, e1, rs⟩ := r a _ hv
      exact .inr (.inr (.inl ⟨e, .inl ⟨xs, e1⟩⟩))
    · rename_i vs hv
      obtain ⟨xs, e1, rs⟩ := r a _ hv
      exact .inr (.inr (.inl ⟨e, .inr ⟨xs, e1⟩⟩))
    · exact e.elim
  | _ => exact e.elim
def MtL (K : PySem.W.Frag) (f : FM) (r : V → List V → Hp → VK → Prop) : Prop := ∀ v ws x ys h H Q' Q, RH K H h → RV K H h v x → RVs K H h ws ys → f v ws h Q' → Cont K h H Q' Q → r x ys H Q
def dBM (T : String) (f : FM) (d : ED) (aa : AD) : ED := fun ρ h Q E => d ρ h (fun v h1 => tyA v h1 T ∧ aa ρ h1 (fun vs h2 => f v vs h2 Q) E) E
section
variable {X : Cx} {B : Bs} {o e : Expr} {es : List Expr} {d : ED} {aa : AD} {name : Str} {apos cpos : Pos} {T id : String} {r : V → List V → Hp → VK → Prop} {f : FM}
theorem de_bm (pa : PlainAttrs T) (slot : Slot T name id) (hty : typeOf (.builtin id) = pure (.type "method_descriptor")) (hm : MtR X id r) (hl : MtL X.K f r) (ho : DE X B o d) (ha : DA X B (e :: es) aa)
    (hbase : attributeBase o name X.env (eval o X.env) = eval o X.env := by rfl)
    (hfew : ((backTo cpos (starEach (e :: es) X.env)).all (fun x => !x.1) && (backToKw cpos (keywordEach [] X.env)).all (fun x => x.1.isSome)
      && decide ((e :: es).length + ([] : List Keyword).length + (if ([] : List Keyword).isEmpty then 0 else 1) < 30)) = true := by rfl)
    (hline : (apos.endLine == cpos.line) = true := by rfl) (hs : starEach (e :: es) X.env = (false, eval e X.env) :: starEach es X.env := by rfl) (hplain : (backTo cpos (starEach es X.env)).any (·.1) = false := by rfl) :
    DE X B (.Call (.Attribute o name apos) (e :: es) [] cpos) (dBM T f d aa) :=
  PEi (pe_bm pa slot hty hm ho ha hbase hfew hline hs hplain) fun σ H Q ⟨ρ, h, Q', S, q, C⟩ => ⟨ρ, h, _, S, q, fun v h1 x H1 q1 s1 rv1 r1 =>
    ⟨tyA_rel r1 rv1 q1.1, ρ, h1, _, S.step s1 r1, q1.2, fun vs h2 xs H2 q2 s2 rv2 r2 => hl v vs x xs h2 H2 Q' Q r2 (rv1.step s2) rv2 q2 (C.trans (s1.trans s2))⟩⟩
end
section
variable {K : PySem.W.Frag}
theorem Cont.write {h : Hv} {H : Hp} {Q' : PV} {Q : VK} (c : Cont K h H Q' Q) (r : RH K H h) {a : Addr} {vs ws : List Val} {ys : List V} {v : Val} {x : V} (e : h a = some (.lst vs)) (rs : RVs K H h ws ys) (rv : RV K H h v x) (q : Q' v (put h a (.lst ws))) : Q x (upd H a (.lst ys)) := by
  have nb : Ob.lst vs ≠ .busy := fun z => nomatch z
  have s : Step h H (put h a (.lst ws)) (upd H a (.lst ys)) := Step.write e nb
  exact c _ _ _ _ q s (rv.step s) (r.write e nb ⟨ys, upd_same, rs.step s⟩)
def fAppend : FM := fun v ws h Q => match v, ws with
  | .ref a, [w] => (match h a with
    | some (.lst vs) => vs.length < sizeLine ∧ Q .non (put h a (.lst (vs ++ [w])))
    | _ => False)
  | _, _ => False
theorem ml_append : MtL K fAppend rAppend := fun v ws x ys h H Q' Q r rv rs q c => by
  unfold fAppend at q
  split at q
  · rename_i a w
    split at q
    · rename_i vs hv
      obtain ⟨y, e1, ry⟩ := rvs1 rs
      obtain ⟨xs, e2, rx⟩ := r a _ hv
      rw [RV] at rv
      exact ⟨a, xs, y, rv, e1, e2, by rw [← rx.len]; exact q.1, c.write r hv (rx.append (RVs.cons ry RVs.nil)) rv_non q.2⟩
    · exact q.elim
  · exact q.elim
end
section
variable {κ : Type} [DecidableEq κ]
def valA (kvs : List (κ × Val)) (k : κ) : Option Val := (kvs.find? fun kv => decide (kv.1 = k)).map (·.2)
def putA (kvs : List (κ × Val)) (k : κ) (v : Val) : List (κ × Val) :=
  if (kvs.any fun kv => decide (kv.1 = k)) = true then kvs.map (fun kv => if kv.1 = k then (kv.1, v) else kv) else kvs ++ [(k, v)]
theorem RKs.val {K : PySem.W.Frag} {H : Hp} {h : Hv} (k : κ) : ∀ {kvs : List (κ × Val)} {xs : List (κ × V)}, RKs K H h kvs xs → (valA kvs k = none ∧ valV xs k = none) ∨ ∃ v x, valA kvs k = some v ∧ valV xs k = some x ∧ RV K H h v x
  | [], xs, r => by rw [show xs = [] from r]; exact .inl ⟨rfl, rfl⟩
  | (j, v) :: kvs, xs, r => by
    obtain ⟨y, ys, e, r1, r2⟩ := r
    rw [e]
    by_cases q : j = k
    · refine .inr ⟨v, y, ?_, ?_, r1⟩
      · unfold valA; rw [List.find?_cons]; simp [q]
      · exact valV_pos q
    · rcases RKs.val k r2 with ⟨a, b⟩ | ⟨w, x, a, b, c⟩
      · refine .inl ⟨?_, by rw [valV_neg q]; exact b⟩
        rw [← a]; unfold valA; rw [List.find?_cons]; simp [q]
      · refine .inr ⟨w, x, ?_, by rw [valV_neg q]; exact b, c⟩
        rw [← a]; unfold valA; rw [List.find?_cons]; simp [q]
theorem RKs.any {K : PySem.W.Frag} {H : Hp} {h : Hv} (k : κ) : ∀ {kvs : List (κ × Val)} {xs : List (κ × V)}, RKs K H h kvs xs → (kvs.any fun kv => decide (kv.1 = k)) = xs.any fun kv => decide (kv.1 = k)
  | [], xs, r => by rw [show xs = [] from r]; rfl
  | (j, v) :: kvs, xs, r => by
    obtain ⟨y, ys, e, r1, r2⟩ := r
    rw [e, List.any_cons, List.any_cons, RKs.any k r2]
theorem RKs.app {K : PySem.W.Frag} {H : Hp} {h : Hv} {k : κ} {v : Val} {x : V} (rv : RV K H h v x) : ∀ {kvs : List (κ × Val)} {xs : List (κ × V)}, RKs K H h kvs xs → RKs K H h (kvs ++ [(k, v)]) (xs ++ [(k, x)])
  | [], xs, r => by rw [show xs = [] from r]; exact ⟨x, [], rfl, rv, rfl⟩
  | (j, w) :: kvs, xs, r => by
    obtain ⟨y, ys, e, r1, r2⟩ := r
    rw [e]
    exact ⟨y, _, rfl, r1, RKs.app rv r2⟩
theorem RKs.repl {K : PySem.W.Frag} {H : Hp} {h : Hv} {k : κ} {v : Val} {x : V} (rv : RV K H h v x) : ∀ {kvs : List (κ × Val)} {xs : List (κ × V)}, RKs K H h kvs xs → RKs K H h (kvs.map fun kv => if kv.1 = k then (kv.1, v) else kv) (xs.map fun kv => if kv.1 = k then (kv.1, x) else kv)
  | [], xs, r => by rw [show xs = [] from r]; exact rfl
  | (j, w) :: kvs, xs, r => by
    obtain ⟨y, ys, e, r1, r2⟩ := r
    rw [e, List.map_cons, List.map_cons]
    by_cases q : j = k
    · simp only [q, if_true]
      exact ⟨x, _, rfl, rv, RKs.repl rv r2⟩
    · simp only [q, if_false]
      exact ⟨y, _, rfl, r1, RKs.repl rv r2⟩
theorem RKs.put {K : PySem.W.Frag} {H : Hp} {h : Hv} {k : κ} {v : Val} {x : V} {kvs : List (κ × Val)} {xs : List (κ × V)} (r : RKs K H h kvs xs) (rv : RV K H h v x) : RKs K H h (putA kvs k v) (putK xs k x) := by
  unfold putA putK
  rw [r.any k]
  split
  · exact RKs.repl rv r
  · exact RKs.app rv r
omit [DecidableEq κ] in
theorem RKs.len {K : PySem.W.Frag} {H : Hp} {h : Hv} : ∀ {kvs : List (κ × Val)} {xs : List (κ × V)}, RKs K H h kvs xs → kvs.length = xs.length
  | [], xs, r => by rw [show xs = [] from r]; rfl
  | (j, w) :: kvs, xs, r => by
    obtain ⟨y, ys, e, r1, r2⟩ := r
    rw [e, List.length_cons, List.length_cons, RKs.len r2]
end
@[simp] def keyOf : Val → Option Key
  | .int i => some (.inl i)
  | .str z => some (.inr z)
  | _ => none
@[simp] def keysOf : List Val → Option (List Key)
  | [] => some []
  | v :: vs => match keyOf v, keysOf vs with
    | some k, some ks => some (k :: ks)
    | _, _ => none
section
variable {K : PySem.W.Frag} {H : Hp} {h : Hv}
theorem keyOf_rel {v : Val} {x : V} {k : Key} (rv : RV K H h v x) (e : keyOf v = some k) : x = kV k := by
  cases v <;> first | (cases e; done) | skip
  · rw [RV] at rv; cases e; exact rv
  · rw [RV] at rv; cases e; exact rv
theorem keysOf_rel : ∀ {vs : List Val} {xs : List V} {ks : List Key}, RVs K H h vs xs → keysOf vs = some ks → xs = ks.map kV
  | [], xs, ks, r, e => by rw [RVs] at r; cases e; exact r
  | v :: vs, xs, ks, r, e => by
    rw [RVs] at r
    obtain ⟨y, ys, e1, r1, r2⟩ := r
    unfold keysOf at e
    split at e
    · rename_i k ks' h1 h2
      cases e
      rw [e1, keyOf_rel r1 h1, keysOf_rel r2 h2]; rfl
    · cases e
@[simp] def dgetA (d k : Val) (h : Hv) : Option (Option Val) := match d with
  | .ref a => (match h a with
    | some (.dK kvs) => (match keyOf k with
      | some k => some (valA kvs k)
      | none => none)
    | some (.dT kvs) => (match k with
      | .tup ks => (match keysOf ks with
        | some ks => some (valA kvs ks)
        | none => none)
      | _ => none)
    | some (.dF _ _ kvs) => (match keyOf k with
      | some k => some (valA kvs k)
      | none => none)
    | some (.dFT _ _ kvs) => (match k with
      | .tup ks => (match keysOf ks with
        | some ks => some (valA kvs ks)
        | none => none)
      | _ => none)
    | _ => none)
  | _ => none
theorem dget_rel {d k : Val} {x y : V} {o : Option Val} (r : RH K H h) (rd : RV K H h d x) (rk : RV K H h k y) (e : dgetA d k h = some o) : ∃ a u, x = .ref a ∧ DGet H a y u ∧ (IsD H a) ∧ ((o = none ∧ u = none) ∨ ∃ v z, o = some v ∧ u = some z ∧ RV K H h v z) := by
  unfold dgetA at e
  split at e
  · rename_i a
    rw [RV] at rd
    split at e
    · rename_i kvs hv
      obtain ⟨xs, e1, rs⟩ := r a _ hv
      split at e
      · rename_i kk hk
        cases e
        refine ⟨a, _, rd, by rw [keyOf_rel rk hk]; exact .k e1, .inl ⟨xs, .inl e1⟩, ?_⟩
        rcases rs.val kk with ⟨p, q⟩ | ⟨v, z, p, q, rv⟩
        · exact .inl ⟨p, q⟩
        · exact .inr ⟨v, z, p, q, rv⟩
      · cases e
    · rename_i kvs hv
      obtain ⟨xs, e1, rs⟩ := r a _ hv
      split at e
      · rename_i ks
        split at e
        · rename_i kk hk
          cases e
          rw [RV] at rk
          obtain ⟨b, ys, eb, n, hb, rb⟩ := rk
          rw [keysOf_rel rb hk] at hb
          refine ⟨a, _, rd, by rw [eb]; exact .t e1 hb, .inr ⟨xs, .inl e1⟩, ?_⟩
          rcases rs.val kk with ⟨p, q⟩ | ⟨v, z, p, q, rv⟩
          · exact .inl ⟨p, q⟩
          · exact .inr ⟨v, z, p, q, rv⟩
        · cases e
      · cases e
    · rename_i o xs kvs hv
      obtain ⟨e1, rs⟩ := r a _ hv
      split at e
      · rename_i kk hk
        cases e
        refine ⟨a, _, rd, by rw [keyOf_rel rk hk]; exact .inl ⟨xs, kk, .inr ⟨o, e1⟩, rfl, rfl⟩, .inl ⟨xs, .inr ⟨o, e1⟩⟩, ?_⟩
        rcases rs.val kk with ⟨p, q⟩ | ⟨v, z, p, q, rv⟩
        · exact .inl ⟨p, q⟩
        · exact .inr ⟨v, z, p, q, rv⟩
      · cases e
    · rename_i o xs kvs hv
      obtain ⟨e1, rs⟩ := r a _ hv
      split at e
      · rename_i ks
        split at e
        · rename_i kk hk
          cases e
          rw [RV] at rk
          obtain ⟨b, ys, eb, n, hb, rb⟩ := rk
          rw [keysOf_rel rb hk] at hb
          refine ⟨a, _, rd, by rw [eb]; exact .inr ⟨xs, kk, b, .inr ⟨o, e1⟩, rfl, hb, rfl⟩, .inr ⟨xs, .inr ⟨o, e1⟩⟩, ?_⟩
          rcases rs.val kk with ⟨p, q⟩ | ⟨v, z, p, q, rv⟩
          · exact .inl ⟨p, q⟩
          · exact .inr ⟨v, z, p, q, rv⟩
        · cases e
      · cases e
    · cases e
  · cases e
def dputA (d k v : Val) (h : Hv) : Option Hv := match d with
  | .ref a => (match h a with
    | some (.dK kvs) => (match keyOf k with
      | some k => if kvs.length < sizeLine then some (put h a (.dK (putA kvs k v))) else none
      | none => none)
    | some (.dT kvs) => (match k with
      | .tup ks => (match keysOf ks with
        | some ks => if kvs.length < sizeLine then some (put h a (.dT (putA kvs ks v))) else none
        | none => none)
      | _ => none)
    | _ => none)
  | _ => none
theorem dput_rel {d k v : Val} {x y z : V} {h' : Hv} (r : RH K H h) (rd : RV K H h d x) (rk : RV K H h k y) (rv : RV K H h v z) (e : dputA d k v h = some h') : ∃ a H', x = .ref a ∧ DPut H a y z H' ∧ Step h H h' H' ∧ RH K H' h' := by
  unfold dputA at e
  split at e
  · rename_i a
    rw [RV] at rd
    split at e
    · rename_i kvs hv
      obtain ⟨xs, e1, rs⟩ := r a _ hv
      split at e
      · rename_i kk hk
        split at e
        · rename_i hl
          cases e
          have s : Step h H (put h a (.dK (putA kvs kk v))) (upd H a (.dK (putK xs kk z))) := Step.write hv (fun z => nomatch z)
          refine ⟨a, _, rd, by rw [keyOf_rel rk hk]; exact .k e1 (by rw [← rs.len]; exact hl), s, r.write hv (fun z => nomatch z) ⟨_, upd_same, (rs.put rv).step s⟩⟩
        · cases e
      · cases e
    · rename_i kvs hv
      obtain ⟨xs, e1, rs⟩ := r a _ hv
      split at e
      · rename_i ks
        split at e
        · rename_i kk hk
          split at e
          · rename_i hl
            cases e
            rw [RV] at rk
            obtain ⟨b, ys, eb, n, hb, rb⟩ := rk
            rw [keysOf_rel rb hk] at hb
            have s : Step h H (put h a (.dT (putA kvs kk v))) (upd H a (.dT (putK xs kk z))) := Step.write hv (fun z => nomatch z)
            refine ⟨a, _, rd, by rw [eb]; exact .t e1 hb (by rw [← rs.len]; exact hl), s, r.write hv (fun z => nomatch z) ⟨_, upd_same, (rs.put rv).step s⟩⟩
          · cases e
        · cases e
      · cases e
    · cases e
  · cases e
end
section
variable {X : Cx} {B : Bs} {o i e f : Expr} {dd di de df : ED} {pos pos' apos cpos : Pos}
@[simp] def dDGet (dd dk : ED) : ED := fun ρ h Q E => dd ρ h (fun v h1 => dk ρ h1 (fun k h2 => match dgetA v k h2 with
  | some (some u) => Q u h2
  | _ => False) E) E
theorem de_dget (hu : X.A.units + 1 < cLine) (ho : DE X B o dd) (hi : DE X B i di) (hs : NoSl i := by exact fun _ _ => rfl) : DE X B (.Subscript o i pos) (dDGet dd di) :=
  PEi (pe_dget hu ho hi hs) fun σ H Q ⟨ρ, h, Q', S, q, C⟩ => ⟨ρ, h, _, S, q, fun v h1 x H1 q1 s1 rv1 r1 => ⟨ρ, h1, _, S.step s1 r1, q1, fun k h2 y H2 q2 s2 rv2 r2 => by
    split at q2
    · rename_i u eu
      obtain ⟨a, z, ex, g, _, z1 | ⟨w, zz, e1, e2, rv⟩⟩ := dget_rel r2 (rv1.step s2) rv2 eu
      · cases z1.1
      · cases e1
        subst e2
        exact ⟨a, zz, ex, g, (C.trans (s1.trans s2)).val r2 rv q2⟩
    · exact q2.elim⟩⟩
@[simp] def dDGet2 (dd dk df : ED) : ED := fun ρ h Q E => dd ρ h (fun v h1 => (dgetA v (.int 0) h1).isSome = true ∧ dk ρ h1 (fun k h2 => df ρ h2 (fun w h3 => match dgetA v k h3 with
  | some (some u) => Q u h3
  | some none => Q w h3
  | none => False) E) E) E
theorem de_dget2 (hu : X.A.units + 1 < cLine) (ho : DE X B o dd) (he : DE X B e de) (hf : DE X B f df) (m : M2 X o "get" apos e f cpos) : DE X B (.Call (.Attribute o "get" apos) [e, f] [] cpos) (dDGet2 dd de df) :=
  PEi (pe_dget2 hu ho he hf m) fun σ H Q ⟨ρ, h, Q', S, q, C⟩ => ⟨ρ, h, _, S, q, fun v h1 x H1 q1 s1 rv1 r1 => by
    obtain ⟨q0, q1⟩ := q1
    obtain ⟨o', e0⟩ := Option.isSome_iff_exists.mp q0
    obtain ⟨a, z, ex, _, isd, _⟩ := dget_rel r1 rv1 (rv_int (b := 0)) e0
    refine ⟨a, ex, isd, ρ, h1, _, S.step s1 r1, q1, fun k h2 y H2 q2 s2 rv2 r2 => ⟨ρ, h2, _, S.step (s1.trans s2) r2, q2, fun w h3 yw H3 q3 s3 rv3 r3 => ?_⟩⟩
    have C3 := C.trans (s1.trans (s2.trans s3))
    split at q3
    · rename_i u eu
      obtain ⟨a', z, ex', g, _, z1 | ⟨w, zz, e1, e2, rv⟩⟩ := dget_rel r3 (rv1.step (s2.trans s3)) (rv2.step s3) eu
      · cases z1.1
      · cases e1
        subst e2
        rw [ex] at ex'
        cases ex'
        exact ⟨_, g, C3.val r3 rv q3⟩
    · rename_i eu
      obtain ⟨a', z, ex', g, _, z1 | ⟨w, zz, e1, e2, rv⟩⟩ := dget_rel r3 (rv1.step (s2.trans s3)) (rv2.step s3) eu
      · rw [ex] at ex'
        cases ex'
        refine ⟨_, g, ?_⟩
        rw [z1.2]
        exact C3.val r3 rv3 q3
      · cases e1
    · exact q3.elim⟩
@[simp] def dDIn (dk dd : ED) : ED := fun ρ h Q E => dk ρ h (fun k h1 => dd ρ h1 (fun v h2 => match dgetA v k h2 with
  | some o => Q (.bl o.isSome) h2
  | none => False) E) E
@[simp] def dDNotIn (dk dd : ED) : ED := fun ρ h Q E => dk ρ h (fun k h1 => dd ρ h1 (fun v h2 => match dgetA v k h2 with
  | some o => Q (.bl (!o.isSome)) h2
  | none => False) E) E
@[simp] def sDPut (dd dk dv : ED) : SD := fun ρ h D E => dv ρ h (fun v h1 => dd ρ h1 (fun d h2 => dk ρ h2 (fun k h3 => match dputA d k v h3 with
  | some h4 => D.nx ρ h4
  | none => False) E) E) E
theorem ds_dput (hu : X.A.units + 1 < cLine) (ho : DE X B o dd) (hi : DE X B i di) (hv : DE X B e de) (hs : swapsWith e (some (.Subscript o i pos')) pos.line X.env = pure false := by rfl) : DS X B (.Assign [.Subscript o i pos'] e pos) (sDPut dd di de) :=
  PSi (ps_dput hu ho hi hv hs) fun D σ H ⟨ρ, h, D', S, q, C⟩ => ⟨ρ, h, _, S, q, fun v h1 z H1 q1 s1 rv1 r1 => ⟨ρ, h1, _, S.step s1 r1, q1, fun d h2 x H2 q2 s2 rv2 r2 => ⟨ρ, h2, _, S.step (s1.trans s2) r2, q2, fun k h3 y H3 q3 s3 rv3 r3 => by
    split at q3
    · rename_i h4 e4
      obtain ⟨a, H4, ex, g, s4, r4⟩ := dput_rel r3 (rv2.step s3) rv3 (rv1.step (s2.trans s3)) e4
      have s14 := s1.trans (s2.trans (s3.trans s4))
      exact ⟨a, H4, ex, g, C.nx _ _ _ _ q3 s14 (S.step s14 r4)⟩
    · exact q3.elim⟩⟩⟩
@[simp] def dNewK : ED := fun _ h Q _ => ∀ p, h p = none → Q (.ref p) (put h p (.dK []))
@[simp] def dNewT : ED := fun _ h Q _ => ∀ p, h p = none → Q (.ref p) (put h p (.dT []))
theorem de_dnewK : DE X B (.Dict [] [] pos) dNewK := PEi pe_dnewK fun σ H Q ⟨ρ, h, Q', S, q, C⟩ p e => C _ _ _ _ (q p (S.r.nof e)) (Step.new e) (by rw [RV]) (S.r.new e ⟨[], upd_same, rfl⟩)
end
end DL
namespace DL
open PySem PySem.Spec PyProof.Rows L2
def gk {α : Type} (np nk : Nat) (us ws : List α) : List α := if us.length = np ∧ ws.length = nk then us ++ ws else []
def FnK (P : Program) (w : World) (K : PySem.W.Frag) (mg : Str → Option Value) (base : Heap) (A : Around) (x : Str) (np : Nat) (ks : List Str) (fs : SpF) : Prop :=
  ∃ (k : Nat) (f : Addr) (fd : FuncData) (ps : List Str), FnOk P w K mg base (L2.CX P w) k f fd ps (spA K mg (np + ks.length) fs) ∧ Room k A ∧ mg x = some (.ref f) ∧ PySem.W.keepIn K (.ref f) = true ∧ KBinds K fd ps ks (gk np ks.length) (gk np ks.length)
abbrev DK (X : Cx) (B : Bs) (kws : List Keyword) (d : AD) : Prop := PK X kws (rdA X.K B d)
section
variable {X : Cx} {B : Bs} {x : Str} {np : Nat} {ks : List Str} {fs : SpF} {p pos kpos : Pos} {e : Expr} {es : List Expr} {kws : List Keyword} {aa dk : AD} {de : ED} {nm : Option Str}
theorem PKi {X : Cx} {e : List Keyword} {t t' : TA} (p : PK X e t) (i : ∀ σ H Q, t' σ H Q → t σ H Q) : PK X e t' := ⟨fun w pins s σ H Q I q => p.run w pins s σ H Q I (i σ H Q q)⟩
theorem dk_nil : DK X B [] aNil := PKi pk_nil fun σ H Q ⟨ρ, h, Q', S, q, C⟩ => C _ _ _ _ q (Step.refl _ _) RVs.nil S.r
theorem dk_cons (ha : DE X B e de) (hr : DK X B kws dk) : DK X B (⟨nm, e, kpos⟩ :: kws) (aCons de dk) :=
  PKi (pk_cons ha hr) fun σ H Q ⟨ρ, h, Q', S, q, C⟩ => ⟨ρ, h, _, S, q, fun v h1 x H1 q1 s1 rv1 r1 =>
    ⟨ρ, h1, _, S.step s1 r1, q1, fun vs h2 xs H2 q2 s2 rv2 r2 => C _ _ _ _ q2 (s1.trans s2) (RVs.cons (rv1.step s2) rv2) r2⟩⟩
@[simp] def dCallK (np nk : Nat) (fs : SpF) (aa dk : AD) : ED := fun ρ h Q E => aa ρ h (fun vs h1 => dk ρ h1 (fun ws h2 => (vs.length = np ∧ ws.length = nk) ∧ fs (vs ++ ws) h2 Q (fun nm pl h' => E nm pl ρ h')) E) E
theorem run_fnkS {CX : CXT} {k : Nat} {f : Addr} {fd : FuncData} {ps : List Str} {sp : Sp} {E : L2.St → XK} {pins : List (Addr × Obj)} {σ : L2.St} {H : Hp} {s : Shared} {Q : VK} {us ws : List Value} {vs zs : List V} {g : List Value → List Value → List Value} {gV : List V → List V → List V} (F : FnOk X.prog X.w X.K X.mg X.base CX k f fd ps sp) (hr : Room k X.A) (hb : KBinds X.K fd ps ks g gV) (hx : PassesAt CX X σ (E σ))
    (I : Inv X pins σ H s) (r : Vals vs us) (rz : Vals zs ws) (h : sp (gV vs zs) H Q (E σ)) : wpAny (model X.prog X.w) X.A (call (.ref f) us (ks.zip ws)) (EP X pins σ Q) X.xe s := by
  have r2 := hb.rel r rz
  have hl : (g us ws).length = ps.length := by rw [← r2.length]; exact F.len _ _ _ _ h
  refine wpAny_call (codeAny_mono (F.run X.A X.stack s H ⟨us, ks.zip ws⟩ (g us ws) (gV vs zs) Q (E σ) hr I.env0 (hb.to s us ws I.kIn hl) r2 h) fun r s' hq => ?_)
  cases r with
  | error e => exact hx pins H s e s' I hq
  | ok fl =>
    cases fl with
    | ret u => exact I.after hq
    | next => exact False.elim hq
    | brk => exact False.elim hq
    | cont => exact False.elim hq
end
theorem gk_vals {np nk : Nat} {vs : List V} {us : List Value} {zs : List V} {ws : List Value} (a : Vals vs us) (b : Vals zs ws) : Vals (gk np nk vs zs) (gk np nk us ws) := by
  unfold gk
  rw [a.length, b.length]
  split
  · exact a.append b
  · exact .nil
theorem kbinds {K : PySem.W.Frag} {x qual : Str} {st : Stmt} {f : Addr} {fd : FuncData} {ps ks : List Str} {np : Nat} (F : Fun K x qual st f fd) (hp : ps ≠ [])
    (h : ∀ (kV doc pm : Value) (an : Option Addr) (cdv ct : Value) (us ws : List Value), us.length = np → ws.length = ks.length → bindArgs (PySem.W.fnOf x qual (defArgs st) (defBody st) (defScope st) .none kV doc pm an cdv ct) ⟨us, ks.zip ws⟩ = pure (ps.zip (us ++ ws))) : KBinds K fd ps ks (gk np ks.length) (gk np ks.length) := by
  obtain ⟨oc, od, kV, doc, pm, an, cdv, ct, osl, rfl, lk, hcd⟩ := F.ex
  refine ⟨fun s us ws _ hl => ?_, fun a b => gk_vals a b⟩
  unfold gk at hl ⊢
  split at hl
  · rename_i e
    rw [if_pos e]
    exact .of_eq (h kV doc pm an cdv ct us ws e.1 e.2)
  · exact absurd (List.eq_nil_of_length_eq_zero hl.symm) hp

@[simp] def dPairs : List (ED × ED) → Sl → Hv → (List (Val × Val) → Hv → Prop) → PX → Prop
  | [], _, h, Q, _ => Q [] h
  | (dk, dv) :: r, ρ, h, Q, E => dk ρ h (fun k h1 => dv ρ h1 (fun v h2 => dPairs r ρ h2 (fun ps h3 => Q ((k, v) :: ps) h3) E) E) E
@[simp] def kvsOf : List (Val × Val) → Option (List (Key × Val))
  | [] => some []
  | (k, v) :: r => match keyOf k, kvsOf r with
    | some k, some r => some ((k, v) :: r)
    | _, _ => none
@[simp] def mergeA (kvs more : List (Key × Val)) : List (Key × Val) := more.foldl (fun acc kv => putA acc kv.1 kv.2) kvs
def dDisp (ps : List (ED × ED)) : ED := fun ρ h Q E => ∀ p, h p = none → dPairs ps ρ (put h p .busy) (fun kvs h2 => match kvsOf kvs with
  | some kvs => kvs.length ≤ 15 ∧ Q (.ref p) (put h2 p (.dK (mergeA [] kvs)))
  | none => False) E
def RPs (K : PySem.W.Frag) (H : Hp) (h : Hv) : List (Val × Val) → List (V × V) → Prop
  | [], xs => xs = []
  | (k, v) :: r, xs => ∃ y z ys, xs = (y, z) :: ys ∧ RV K H h k y ∧ RV K H h v z ∧ RPs K H h r ys
theorem RPs.step {K : PySem.W.Frag} {H H' : Hp} {h h' : Hv} (s : Step h H h' H') : ∀ {ps : List (Val × Val)} {xs : List (V × V)}, RPs K H h ps xs → RPs K H' h' ps xs
  | [], xs, r => r
  | (k, v) :: ps, xs, r => by
    obtain ⟨y, z, ys, e, r1, r2, r3⟩ := r
    exact ⟨y, z, ys, e, r1.step s, r2.step s, RPs.step s r3⟩
theorem kvs_rel {K : PySem.W.Frag} {H : Hp} {h : Hv} : ∀ {ps : List (Val × Val)} {xs : List (V × V)} {kvs : List (Key × Val)}, RPs K H h ps xs → kvsOf ps = some kvs → ∃ ws : List (Key × V), xs = ws.map (fun kv => (kV kv.1, kv.2)) ∧ RKs K H h kvs ws
  | [], xs, kvs, r, e => by cases e; exact ⟨[], r, rfl⟩
  | (k, v) :: ps, xs, kvs, r, e => by
    obtain ⟨y, z, ys, e1, r1, r2, r3⟩ := r
    unfold kvsOf at e
    split at e
    · rename_i kk rr h1 h2
      cases e
      obtain ⟨ws, e2, rw'⟩ := kvs_rel r3 h2
      refine ⟨(kk, z) :: ws, ?_, z, ws, rfl, r2, rw'⟩
      rw [e1, e2, keyOf_rel r1 h1]; rfl
    · cases e
theorem merge_rel {K : PySem.W.Frag} {H : Hp} {h : Hv} : ∀ {more : List (Key × Val)} {ws : List (Key × V)} {kvs : List (Key × Val)} {xs : List (Key × V)}, RKs K H h more ws → RKs K H h kvs xs → RKs K H h (mergeA kvs more) (mergeK xs ws)
  | [], ws, kvs, xs, r, q => by rw [show ws = [] from r]; exact q
  | (k, v) :: more, ws, kvs, xs, r, q => by
    obtain ⟨y, ys, e, r1, r2⟩ := r
    rw [e]
    show RKs K H h (mergeA (putA kvs k v) more) (mergeK (putK xs k y) ys)
    exact merge_rel r2 (q.put r1)
section
variable {X : Cx} {B : Bs} {pos : Pos}
def trsOf (K : PySem.W.Frag) (B : Bs) (ps : List (ED × ED)) : List (TE × TE) := ps.map fun p => (rdE K B p.1, rdE K B p.2)
theorem pairs_rel {K : PySem.W.Frag} {B : Bs} : ∀ (ps : List (ED × ED)) {σ : L2.St} {H : Hp} {ρ : Sl} {h : Hv} {Q' : List (Val × Val) → Hv → Prop} {Q : List (V × V) → Hp → Prop}, ST K B σ H ρ h → dPairs ps ρ h Q' B.E →
    (∀ kvs h' xs H', Q' kvs h' → Step h H h' H' → RPs K H' h' kvs xs → RH K H' h' → Q xs H') → tPairs (trsOf K B ps) σ H Q
  | [], σ, H, ρ, h, Q', Q, S, q, C => C _ _ _ _ q (Step.refl _ _) rfl S.r
  | (dk, dv) :: ps, σ, H, ρ, h, Q', Q, S, q, C => by
    refine ⟨ρ, h, _, S, q, fun k h1 y H1 q1 s1 rv1 r1 => ⟨ρ, h1, _, S.step s1 r1, q1, fun v h2 z H2 q2 s2 rv2 r2 => ?_⟩⟩
    exact pairs_rel ps (S.step (s1.trans s2) r2) q2 fun kvs h3 xs H3 q3 s3 rp r3 => C _ _ _ _ q3 (s1.trans (s2.trans s3)) ⟨y, z, xs, rfl, rv1.step (s2.trans s3), rv2.step s3, rp⟩ r3
theorem de_disp {keys : List (Option Expr)} {values : List Expr} {ps : List (ED × ED)} (h : PPs X pos keys values (trsOf X.K B ps)) (hall : keys.all (·.isSome) = true := by rfl) (hl : keys.length = values.length := by rfl) (h0 : keys ≠ [] := by exact fun z => nomatch z)
    (h15 : keys.length ≤ 15 := by decide) : DE X B (.Dict keys values pos) (dDisp ps) := by
  refine PEi (pe_disp h hall hl h0 h15) fun σ H Q ⟨ρ, h, Q', S, q, C⟩ p e => ?_
  have nh : h p = none := S.r.nof e
  have s0 : Step h H (put h p .busy) (upd H p (.dK [])) := Step.new e
  have r0 : RH X.K (upd H p (.dK [])) (put h p .busy) := S.r.new e ⟨_, upd_same, .inr ⟨_, rfl⟩⟩
  refine pairs_rel ps (S.step s0 r0) (q p nh) fun kvs h2 xs H2 q2 s2 rp r2 => ?_
  have b2 := s2.b p _ upd_same put_same
  refine ⟨b2.1, ?_⟩
  split at q2
  · rename_i kvs' ek
    obtain ⟨ws, e1, rw'⟩ := kvs_rel rp ek
    refine ⟨ws, e1, by rw [← rw'.len]; exact q2.1, ?_⟩
    have sN : StepN h2 H2 (put h2 p (.dK (mergeA [] kvs'))) (upd H2 p (.dK (mergeK [] ws))) := fun a o ea n _ => by
      have : a ≠ p := fun z => by rw [z, b2.2] at n; cases n
      rw [upd_ne this, put_ne this]
      exact ⟨ea, n⟩
    have sf : Step h H (put h2 p (.dK (mergeA [] kvs'))) (upd H2 p (.dK (mergeK [] ws))) := ⟨fun a o ea n t => by
      obtain ⟨e2, n2⟩ := (s0.trans s2).n a o ea n t
      exact sN a o e2 n2 t, fun a o ea n => by
      have ne : a ≠ p := ne_of_none ea e
      rw [upd_ne ne, put_ne ne]
      exact (s0.trans s2).b a o ea n⟩
    refine C _ _ _ _ q2.2 sf (by rw [RV]) fun a o qa => ?_
    by_cases ha : a = p
    · subst ha
      rw [put_same] at qa
      cases qa
      exact ⟨_, upd_same, (merge_rel rw' (show RKs X.K H2 h2 [] [] from rfl)).stepN sN⟩
    · rw [put_ne ha] at qa
      exact (r2 a o qa).stepN sN fun _ z => by rw [upd_ne ha]; exact z
  · exact q2.elim
end
end DL
namespace DL
open PySem PySem.Spec PyProof.Rows L2
open PySem.AutoSeq1 (wpAny_loadPart')
open PySem.MeetsSeq PySem.MeetsSeq2 PySem.MeetsSeq3
theorem tuple_mul1 (l : Addr) (items : Array Value) (n : Nat) (dd : Option Addr) (sl : Array (Option Value)) (x : Int) (u : Tok) (c0 : (decide (x < -(2 ^ 63)) || decide (x ≥ 2 ^ 63)) = false) (c1 : (items.isEmpty || x == 1) = true) :
    Meets (Builtin.«tuple.__mul__» ⟨[.ref l, .int x u], []⟩) (fun _ R s => s.heap.get? l = some { cls := .type "tuple", dict := dd, data := .seq items n, slots := sl } ∧ R (.ok (.ret (Value.ref l))) s) :=
  .of_wp fun prog w A R s h => by
    obtain ⟨hp, g, d, tk, os⟩ := s
    obtain ⟨hl, h⟩ := h
    have f1 := AutoSeq1.idx_int
    wp_walk using wpAny_loadPart' hl
    refine wpAny_ite_false (decide_eq_false (by rw [c0]; exact Bool.false_ne_true)) ?_
    wp_walk using wpAny_loadPart' hl
    exact ⟨_, rfl, h⟩
theorem tuple_mul0 (l : Addr) (items : Array Value) (n : Nat) (dd : Option Addr) (sl : Array (Option Value)) (x : Int) (u : Tok) (c0 : (decide (x < -(2 ^ 63)) || decide (x ≥ 2 ^ 63)) = false) (c1 : (items.isEmpty || x == 1) = false) (c2 : (decide (x ≤ 0) || items.isEmpty) = true) :
    Meets (Builtin.«tuple.__mul__» ⟨[.ref l, .int x u], []⟩) (fun _ R s => s.heap.get? l = some { cls := .type "tuple", dict := dd, data := .seq items n, slots := sl } ∧
      R (.ok (.ret (Value.ref s.heap.objs.size))) { s with heap := s.heap.push { cls := Value.type "tuple", data := Data.seq #[] }, toks := s.toks }) :=
  .of_wp fun prog w A R s h => by
    obtain ⟨hp, g, d, tk, os⟩ := s
    obtain ⟨hl, h⟩ := h
    have f1 := AutoSeq1.idx_int
    wp_walk using wpAny_loadPart' hl
    repeat (first
      | (refine wpAny_ite_false (decide_eq_false (by rw [c0]; exact Bool.false_ne_true)) ?_; wp_walk using wpAny_loadPart' hl)
      | (refine wpAny_ite_false (decide_eq_false (by rw [c1]; exact Bool.false_ne_true)) ?_; wp_walk using wpAny_loadPart' hl)
      | (refine wpAny_ite_true (decide_eq_true c2) ?_; wp_walk using wpAny_loadPart' hl))
    exact ⟨_, rfl, h⟩
def rRepA (K : PySem.W.Frag) : R2 := fun x y H Q => ∃ l k xs, x = .ref l ∧ y = .int k ∧ SqT K H l xs ∧ -1000 ≤ k ∧ k ≤ 1000 ∧ xs.length ≤ 1000 ∧
  ((xs = [] ∨ k = 1) → Q (.ref l) H) ∧ (xs ≠ [] → k ≤ 0 → ∀ p, H p = none → Q (.ref p) (upd H p (.tup []))) ∧ (xs ≠ [] → 2 ≤ k → ∀ p, H p = none → Q (.ref p) (upd H p (.tup (List.replicate k.toNat xs).flatten)))
theorem op_repA {X : Cx} : OpR X (binaryOp .Mult) (rRepA X.K) := by
  intro pins s σ H x y v u Q I rx ry h
  obtain ⟨l, k, xs, e1, e2, hT, h1, h2, hz, q1, q2, q3⟩ := h
  by_cases hc : xs ≠ [] ∧ 2 ≤ k
  · exact op_repT pins s σ H x y v u Q I rx ry ⟨l, k, xs, e1, e2, hT, hc.1, hc.2, h2, hz, q3 hc.1 hc.2⟩
  subst e1; subst e2
  cases rx
  obtain ⟨t, rfl⟩ := ry
  obtain ⟨its, r, ⟨⟨cls, dd, data, sl⟩, ho, hcc, n, hd⟩, hs⟩ := I.tuple hT
  simp only at hcc hd
  subst hcc hd
  have hle : its.length = xs.length := r.length.symm
  have c0 : (decide (k < -(2 ^ 63)) || decide (k ≥ 2 ^ 63)) = false := by
    rw [decide_eq_false (by omega), decide_eq_false (by omega)] <;> rfl
  by_cases hx : xs = [] ∨ k = 1
  · have c1 : (its.toArray.isEmpty || k == 1) = true := by
      rcases hx with hx | hx
      · have : its = [] := List.eq_nil_of_length_eq_zero (by rw [hle, hx]; rfl)
        rw [this]; rfl
      · rw [hx]; simp
    exact wpAny_binaryOp_repeat_ref (T := "tuple") (U := "int") (by decide) ⟨_, ho, rfl⟩ (fun s' => typeIs_int s' k t) noFill_tuple_mul F.fills_int_mul F.slot_int_rmul repeat_tuple F.slot_int_index.lookup
      (call_meets F.slot_int_rmul (typeIs_int s k t) F.entry_int_rmul (F.args_int_rmul_2 _ _) (int_rmul_tuple k t l its.toArray n dd sl)
        ⟨ho, rfl, ⟨_, ho, rfl⟩, call_meets F.slot_tuple_mul ⟨_, ho, rfl⟩ F.entry_tuple_mul (F.args_tuple_mul_2 _ _) (tuple_mul1 l its.toArray n dd sl k t c0 c1) ⟨ho, ⟨.ref l, H, I, rfl, q1 hx⟩⟩⟩)
  · have hn : xs ≠ [] := fun z => hx (.inl z)
    have hk : k ≤ 0 := by
      apply Int.not_lt.mp
      intro hk
      exact hc ⟨hn, by have : k ≠ 1 := fun z => hx (.inr z); omega⟩
    have hi : its.toArray.isEmpty = false := by
      cases its with
      | nil => exact absurd (List.eq_nil_of_length_eq_zero hle.symm) hn
      | cons a b => rfl
    have c1 : (its.toArray.isEmpty || k == 1) = false := by
      rw [hi, Bool.false_or]
      exact beq_eq_false_iff_ne.mpr (by omega)
    have c2 : (decide (k ≤ 0) || its.toArray.isEmpty) = true := by rw [decide_eq_true hk]; rfl
    refine wpAny_binaryOp_repeat_ref (T := "tuple") (U := "int") (by decide) ⟨_, ho, rfl⟩ (fun s' => typeIs_int s' k t) noFill_tuple_mul F.fills_int_mul F.slot_int_rmul repeat_tuple F.slot_int_index.lookup
      (call_meets F.slot_int_rmul (typeIs_int s k t) F.entry_int_rmul (F.args_int_rmul_2 _ _) (int_rmul_tuple k t l its.toArray n dd sl)
        ⟨ho, rfl, ⟨_, ho, rfl⟩, call_meets F.slot_tuple_mul ⟨_, ho, rfl⟩ F.entry_tuple_mul (F.args_tuple_mul_2 _ _) (tuple_mul0 l its.toArray n dd sl k t c0 c1 c2) ⟨ho, ?_⟩⟩)
    refine ⟨.ref s.heap.objs.size, _, I.laid (t' := s.toks) (o := .tup []) (fun b ob q => Heap.get?_push_of_some _ q) (Nat.le_refl _) ?_, rfl, q2 hn hk _ (I.hok.fresh (Nat.le_refl _))⟩
    exact ⟨Nat.zero_le _, [], .nil, IsTup.new _ _⟩
@[simp] def fMulA : F2 := fun v w h Q => match v, w with
  | .int i, .int j => CMul i j ∧ Q (.int (i * j)) h
  | .tup xs, .int k => -1000 ≤ k ∧ k ≤ 1000 ∧ xs.length ≤ 1000 ∧ Q (.tup (List.replicate k.toNat xs).flatten) h
  | _, _ => False
theorem or_mul {X : Cx} : OpR X (binaryOp .Mult) (fun x y H Q => rI CMul (fun i j => .int (i * j)) x y H Q ∨ rRepA X.K x y H Q) := op_mul.or op_repA
theorem RVs.rep {K : PySem.W.Frag} {H : Hp} {h : Hv} {vs : List Val} {xs : List V} (r : RVs K H h vs xs) : ∀ k : Nat, RVs K H h (List.replicate k vs).flatten (List.replicate k xs).flatten
  | 0 => RVs.nil
  | k + 1 => by rw [List.replicate_succ, List.replicate_succ, List.flatten_cons, List.flatten_cons]; exact r.append (RVs.rep r k)
theorem ol_mul {K : PySem.W.Frag} : OpL K fMulA (fun x y H Q => rI CMul (fun i j => .int (i * j)) x y H Q ∨ rRepA K x y H Q) := fun v w x y h H Q' Q r rv rw' q c => by
  unfold fMulA at q
  split at q
  · rw [RV] at rv rw'; exact .inl ⟨_, _, rv, rw', q.1, c.val r rv_int q.2⟩
  · rename_i vs k
    have rv0 := rv
    rw [RV] at rv
    rw [RV] at rw'
    obtain ⟨a, xs, e1, n, ha, rs⟩ := rv
    obtain ⟨h1, h2, h3, q⟩ := q
    refine .inr ⟨a, k, xs, e1, rw', .of ha, h1, h2, by rw [← rs.len]; exact h3, fun hx => ?_, fun hx hk p e => ?_, fun hx hk p e => c.tup r (rs.rep _) e q⟩
    · rw [← e1]
      rcases hx with hx | hx
      · have : vs = [] := List.eq_nil_of_length_eq_zero (by rw [rs.len, hx]; rfl)
        subst this
        have : (List.replicate k.toNat ([] : List Val)).flatten = [] := by simp
        rw [this] at q
        exact c.val r rv0 q
      · subst hx
        simp only [Int.toNat_one, List.replicate_one, List.flatten_singleton] at q
        exact c.val r rv0 q
    · have : k.toNat = 0 := by omega
      rw [this] at q
      exact c.tup r RVs.nil e q
  · exact q.elim
section
variable {prog : Program} {w : World} {A : Around} {E : Value → Shared → Prop} {s : Shared}
end
@[simp] def dRev (d : ED) : ED := fun ρ h Q E => d ρ h (fun v h1 => match v with
  | .tup vs => Q (.tup vs.reverse) h1
  | .tpo vs => Q (.tup vs.reverse) h1
  | v => match listOf v h1 with
    | some vs => Q (.lst vs.reverse) h1
    | none => False) E
end DL
namespace DL
open PySem PySem.Spec PyProof.Rows L2
theorem bt_len : bootBuiltins "len" = some (.builtin "len") := by decide +kernel
theorem bt_all : bootBuiltins "all" = some (.builtin "all") := by decide +kernel
theorem bt_any : bootBuiltins "any" = some (.builtin "any") := by decide +kernel
theorem bt_sum : bootBuiltins "sum" = some (.builtin "sum") := by decide +kernel
theorem bt_sorted : bootBuiltins "sorted" = some (.builtin "sorted") := by decide +kernel
theorem bt_isinstance : bootBuiltins "isinstance" = some (.builtin "isinstance") := by decide +kernel
theorem bt_tuple : bootBuiltins "tuple" = some (.type "tuple") := by decide +kernel
theorem bt_list : bootBuiltins "list" = some (.type "list") := by decide +kernel
theorem bt_int : bootBuiltins "int" = some (.type "int") := by decide +kernel
theorem bt_bool : bootBuiltins "bool" = some (.type "bool") := by decide +kernel
theorem bt_str : bootBuiltins "str" = some (.type "str") := by decide +kernel
theorem bt_dict : bootBuiltins "dict" = some (.type "dict") := by decide +kernel
section
variable {X : Cx} {pos : Pos}
theorem gt_name {i : Nat} {x : Str} (hN : X.N.Nodup) (hi : X.N[i]? = some x) (hx : Loc X.env.scope x) (hf : X.fn x = true ∨ X.env.scope.names.lookup x = some .local := by first | exact .inl rfl | exact .inr rfl | assumption) : PG X (.Name x pos) (gT X.K (.nm i)) := by
  rw [gT]; exact pg_name hN hi hx hf
theorem gts_nil : PGs X [] (gTs X.K []) := by rw [gTs]; exact pgs_nil
theorem gts_cons {e : Expr} {es : List Expr} {t : Tg} {ts : List Tg} (h1 : PG X e (gT X.K t)) (h2 : PGs X es (gTs X.K ts))
    (hs : (assignEach (e :: es) X.env).map (·.2) = assign e X.env :: (assignEach es X.env).map (·.2) := by rfl) : PGs X (e :: es) (gTs X.K (t :: ts)) := by
  rw [gTs]; exact pgs_cons h1 h2 hs
theorem gt_tup {es : List Expr} {k : Nat} {ts : List Tg} (hc : X.calm = true) (h : PGs X es (gTs X.K ts))
    (hn : (assignEach es X.env).length = ts.length := by rfl) (hst : (assignEach es X.env).findIdx? (·.1) = none := by rfl) : PG X (.Tuple es k pos) (gT X.K (.tp ts)) := by
  rw [gT]; exact pg_tup hc h hn hst
end
def FnR (P : Program) (w : World) (K : PySem.W.Frag) (mg : Str → Option Value) (base : Heap) (k : Nat) (x : Str) (n : Nat) (fs : SpF) : Prop :=
  ∃ (f : Addr) (fd : FuncData) (ps : List Str), FnOk P w K mg base (L2.CX P w) k f fd ps (spA K mg n fs) ∧ mg x = some (.ref f) ∧ PySem.W.keepIn K (.ref f) = true ∧ Binds K fd ps []
theorem FnR.at {P : Program} {w : World} {K : PySem.W.Frag} {mg : Str → Option Value} {base : Heap} {k j : Nat} {x : Str} {n : Nat} {fs : SpF} {A : Around} (F : FnR P w K mg base k x n fs) (hr : Room j A) (h : k ≤ j := by decide) : Fn P w K mg base A x n fs :=
  let ⟨f, fd, ps, a, b, c, d⟩ := F; ⟨k, f, fd, ps, a, hr.mono h, b, c, d⟩
def FnKR (P : Program) (w : World) (K : PySem.W.Frag) (mg : Str → Option Value) (base : Heap) (k : Nat) (x : Str) (np : Nat) (ks : List Str) (fs : SpF) : Prop :=
  ∃ (f : Addr) (fd : FuncData) (ps : List Str), FnOk P w K mg base (L2.CX P w) k f fd ps (spA K mg (np + ks.length) fs) ∧ mg x = some (.ref f) ∧ PySem.W.keepIn K (.ref f) = true ∧ KBinds K fd ps ks (gk np ks.length) (gk np ks.length)
theorem FnKR.at {P : Program} {w : World} {K : PySem.W.Frag} {mg : Str → Option Value} {base : Heap} {k j : Nat} {x : Str} {np : Nat} {ks : List Str} {fs : SpF} {A : Around} (F : FnKR P w K mg base k x np ks fs) (hr : Room j A) (h : k ≤ j := by decide) : FnK P w K mg base A x np ks fs :=
  let ⟨f, fd, ps, a, b, c, d⟩ := F; ⟨k, f, fd, ps, a, hr.mono h, b, c, d⟩
end DL
namespace DL
open PySem PySem.Spec PyProof.Rows L2
section
variable {X : Cx} {B : Bs}
end
section
variable {α : Type} (le : α → α → Bool)
def insB (x : α) : List α → List α
  | [] => [x]
  | y :: r => if le x y = true then x :: y :: r else y :: insB x r
def srtB : List α → List α
  | [] => []
  | x :: r => insB le x (srtB r)
variable {le}
theorem insB_perm (x : α) : ∀ l, (insB le x l).Perm (x :: l)
  | [] => List.Perm.refl _
  | y :: r => by
    unfold insB
    split
    · exact List.Perm.refl _
    · exact ((insB_perm x r).cons y).trans (List.Perm.swap x y r)
theorem srtB_perm : ∀ l : List α, (srtB le l).Perm l
  | [] => List.Perm.refl _
  | x :: r => (insB_perm x (srtB le r)).trans ((srtB_perm r).cons x)
theorem insB_srt (tot : ∀ a b, le a b = true ∨ le b a = true) (tr : ∀ a b c, le a b = true → le b c = true → le a c = true) (x : α) : ∀ {l}, l.Pairwise (fun a b => le a b = true) → (insB le x l).Pairwise (fun a b => le a b = true)
  | [], _ => by unfold insB; simp
  | y :: r, h => by
    rw [List.pairwise_cons] at h
    unfold insB
    split
    · rename_i hxy
      rw [List.pairwise_cons]
      refine ⟨fun z hz => ?_, List.pairwise_cons.mpr h⟩
      rcases List.mem_cons.mp hz with e | e
      · rw [e]; exact hxy
      · exact tr x y z hxy (h.1 z e)
    · rename_i hxy
      have hyx := (tot y x).resolve_right hxy
      rw [List.pairwise_cons]
      refine ⟨fun z hz => ?_, insB_srt tot tr x h.2⟩
      rcases List.mem_cons.mp ((insB_perm x r).subset hz) with e | e
      · rw [e]; exact hyx
      · exact h.1 z e
theorem srtB_srt (tot : ∀ a b, le a b = true ∨ le b a = true) (tr : ∀ a b c, le a b = true → le b c = true → le a c = true) : ∀ l : List α, (srtB le l).Pairwise (fun a b => le a b = true)
  | [] => List.Pairwise.nil
  | x :: r => insB_srt tot tr x (srtB_srt tot tr r)
theorem srt_unique (asym : ∀ a b, le a b = true → le b a = true → a = b) : ∀ {l m : List α}, l.Perm m → l.Pairwise (fun a b => le a b = true) → m.Pairwise (fun a b => le a b = true) → l = m
  | [], m, p, _, _ => (List.Perm.nil_eq p)
  | x :: r, [], p, _, _ => absurd p.length_eq (by simp)
  | x :: r, y :: t, p, h1, h2 => by
    rw [List.pairwise_cons] at h1 h2
    have hx : x = y := by
      have m1 : x ∈ y :: t := p.subset List.mem_cons_self
      have m2 : y ∈ x :: r := p.symm.subset List.mem_cons_self
      rcases List.mem_cons.mp m1 with e | e
      · exact e
      · rcases List.mem_cons.mp m2 with e2 | e2
        · exact e2.symm
        · exact asym x y (h1.1 y e2) (h2.1 x e)
    subst hx
    rw [srt_unique asym ((List.perm_cons x).mp p) h1.2 h2.2]
theorem srtB_eq (tot : ∀ a b, le a b = true ∨ le b a = true) (tr : ∀ a b c, le a b = true → le b c = true → le a c = true) (asym : ∀ a b, le a b = true → le b a = true → a = b) {l m : List α} (p : l.Perm m) (h : l.Pairwise (fun a b => le a b = true)) : l = srtB le m :=
  srt_unique asym (p.trans (srtB_perm m).symm) h (srtB_srt tot tr m)
end
def leI (a b : Int) : Bool := decide (a ≤ b)
def sortI (ns : List Int) : List Int := srtB leI ns
theorem leI_tot (a b : Int) : leI a b = true ∨ leI b a = true := by unfold leI; simp; omega
theorem leI_tr (a b c : Int) (h : leI a b = true) (h' : leI b c = true) : leI a c = true := by unfold leI at *; simp at *; omega
theorem leI_as (a b : Int) (h : leI a b = true) (h' : leI b a = true) : a = b := by unfold leI at *; simp at *; omega
theorem sortI_eq {l m : List Int} (p : l.Perm m) (h : l.Pairwise (· ≤ ·)) : l = sortI m := srtB_eq leI_tot leI_tr leI_as p (h.imp fun h => decide_eq_true h)
theorem sortI_perm (ns : List Int) : (sortI ns).Perm ns := srtB_perm ns
def leS (a b : Str) : Bool := !decide (b.cps.toList < a.cps.toList)
def sortZ (zs : List Str) : List Str := srtB leS zs
theorem leS_iff {a b : Str} : leS a b = true ↔ ¬ b.cps.toList < a.cps.toList := by unfold leS; simp [-Array.lt_toList]
theorem str_ext {a b : Str} (h : a.cps.toList = b.cps.toList) : a = b := by
  obtain ⟨⟨l⟩⟩ := a
  obtain ⟨⟨m⟩⟩ := b
  simp at h
  rw [h]
theorem leS_tot (a b : Str) : leS a b = true ∨ leS b a = true := by
  rw [leS_iff, leS_iff]
  by_cases h : b.cps.toList < a.cps.toList
  · exact .inr (List.lt_asymm h)
  · exact .inl h
theorem leS_tr (a b c : Str) (h : leS a b = true) (h' : leS b c = true) : leS a c = true := by
  rw [leS_iff] at *
  exact List.not_lt.mpr (List.le_trans (List.not_lt.mp h) (List.not_lt.mp h'))
theorem leS_as (a b : Str) (h : leS a b = true) (h' : leS b a = true) : a = b := by
  rw [leS_iff] at *
  exact str_ext (List.le_antisymm (List.not_lt.mp h) (List.not_lt.mp h'))
theorem ltCps_iff (a b : List Nat) : ltCps a b = true ↔ a < b := by
  rw [PyProof.Rows.ltCps_eq, decide_eq_true_eq]
theorem risingS_pw : ∀ {zs : List Str} {p : Str}, risingS p zs = true → (p :: zs).Pairwise fun a b => leS a b = true
  | [], p, _ => by simp
  | x :: r, p, h => by
    unfold risingS at h
    rw [Bool.and_eq_true] at h
    have hpx : leS p x = true := by
      rw [leS_iff, ← ltCps_iff]
      simpa using h.1
    have i := risingS_pw h.2
    rw [List.pairwise_cons]
    refine ⟨fun z hz => ?_, i⟩
    rcases List.mem_cons.mp hz with e | e
    · rw [e]; exact hpx
    · exact leS_tr p x z hpx ((List.pairwise_cons.mp i).1 z e)
theorem sortZ_eq {l m : List Str} (p : l.Perm m) (h : sortedS l = true) : l = sortZ m := by
  refine srtB_eq leS_tot leS_tr leS_as p ?_
  cases l with
  | nil => exact List.Pairwise.nil
  | cons x r => exact risingS_pw h
theorem sortZ_perm (ns : List Str) : (sortZ ns).Perm ns := srtB_perm ns
@[simp] def strsOf : List Val → Option (List Str)
  | [] => some []
  | .str z :: r => (strsOf r).map (z :: ·)
  | _ => none
theorem strsOf_eq : ∀ {vs : List Val} {zs : List Str}, strsOf vs = some zs → vs = zs.map .str
  | [], zs, e => by cases e; rfl
  | v :: r, zs, e => by
    cases v with
    | str z =>
      simp only [strsOf, Option.map_eq_some_iff] at e
      obtain ⟨ys, e1, rfl⟩ := e
      rw [strsOf_eq e1]; rfl
    | _ => simp [strsOf] at e
theorem strsOf_map (zs : List Str) : strsOf (zs.map Val.str) = some zs := by
  induction zs with
  | nil => rfl
  | cons z r ih => simp [strsOf, ih]
def fSorted : FA := fun vs h Q => match vs with
  | [v] => match (listOf v h).bind intsOf, (listOf v h).bind strsOf with
    | some ns, _ => Q (.lst ((sortI ns).map .int)) h
    | none, some zs => zs.length < 64 ∧ Q (.lst ((sortZ zs).map .str)) h
    | none, none => False
  | _ => False
def rSortedAll (K : PySem.W.Frag) : List V → Hp → VK → Prop := fun vs H Q => rSortedI K vs H Q ∨ rSortedS K vs H Q
section
variable {X : Cx} {K : PySem.W.Frag}
theorem CallR.or {f : Value} {r r' : List V → Hp → VK → Prop} (a : CallR X f r) (b : CallR X f r') : CallR X f (fun vs H Q => r vs H Q ∨ r' vs H Q) := by
  intro pins s σ H vs us Q I rv h
  rcases h with h | h
  · exact a pins s σ H vs us Q I rv h
  · exact b pins s σ H vs us Q I rv h
theorem cr_sortedAll : CallR X (.builtin "sorted") (rSortedAll X.K) := CallR.or cr_sortedI cr_sortedS
theorem cl_sorted : CaL K fSorted (rSortedAll K) := fun vs xs h H Q' Q r rs q c => by
  unfold fSorted at q
  split at q
  · obtain ⟨x, e, rv⟩ := rvs1 rs
    split at q
    · rename_i ns eb
      obtain ⟨ws, e1, e2⟩ := Option.bind_eq_some_iff.mp ‹_›
      obtain ⟨a, ys, e3, ha, rss⟩ := listOf_rel r rv e1
      rw [intsOf_eq e2] at rss
      rw [rss.ints] at ha
      refine .inl ⟨a, ns, by rw [e, e3], .of ha, fun ns' p pm pw hp => ?_⟩
      rw [sortI_eq pm pw]
      exact c.lst r (RVs.ofInts _) hp q
    · rename_i zs e0 eb
      obtain ⟨ws, e1, e2⟩ := Option.bind_eq_some_iff.mp eb
      obtain ⟨a, ys, e3, ha, rss⟩ := listOf_rel r rv e1
      rw [strsOf_eq e2] at rss
      rw [rss.strs] at ha
      refine .inr ⟨a, zs, by rw [e, e3], .of ha, q.1, fun ns' p pm pw hp => ?_⟩
      rw [sortZ_eq pm pw]
      exact c.lst r (RVs.ofStrs _) hp q.2
    · exact q.elim
  · exact q.elim
end
end DL
namespace PySem
end PySem
namespace DL
open PySem PySem.Spec PyProof.Rows L2
def enumV (vs : List Val) : List Val := (vs.zip (List.range vs.length)).map fun p => Val.tup [.int (p.2 : Nat), p.1]
@[simp] def dEnum (aa : AD) : ID := fun ρ h Q E => aa ρ h (fun vs h1 => match vs with
  | [.tup us] => Q ⟨enumV us, fun _ => True⟩ h1
  | [.lst us] => Q ⟨enumV us, fun _ => True⟩ h1
  | [.ref a] => (match h1 a with
    | some (.lst us) => Q ⟨enumV us, fun h' => h' a = some (.lst us)⟩ h1
    | _ => False)
  | _ => False) E
@[simp] def sLPut (dd dk dv : ED) : SD := fun ρ h D E => dv ρ h (fun v h1 => dd ρ h1 (fun d h2 => dk ρ h2 (fun k h3 => match d, k with
  | .ref a, .int i => (match h3 a with
    | some (.lst us) => (match ixN us.length i with
      | some j => D.nx ρ (put h3 a (.lst (us.set j v)))
      | none => False)
    | _ => False)
  | _, _ => False) E) E) E
def tListRange (ta : TE) : TE := fun σ H Q => ta σ H fun x H1 => ∃ j : Nat, x = .int (j : Int) ∧ j ≤ 1000 ∧ ∀ p, H1 p = none → Q (.ref p) (upd H1 p (.lst (((List.range j).map fun (i : Nat) => (i : Int)).map V.int)))
theorem pe_listRange {X : Cx} {a : Expr} {ta : TE} {p p2 q pos : Pos} (hg : Gl X "list") (hm : X.mg "list" = none) (hg2 : Gl X "range") (hm2 : X.mg "range" = none) (ha : PE X a ta) (hc : X.calm = true := by rfl)
    (na : starEach [a] X.env = (false, eval a X.env) :: starEach [] X.env := by rfl) : PE X (.Call (.Name "list" p) [.Call (.Name "range" p2) [a] [] q] [] pos) (tListRange ta) := by
  refine ⟨fun pins s σ H Q I h => ?_⟩
  refine Call_ (ld_blt I hg hm bt_list ?_)
  refine PyProof.Rows.callWith_type1 (PyProof.Rows.args_cons ?_ rfl) rfl rfl
  refine Call_ (ld_blt I hg2 hm2 boot_range ?_)
  refine PyProof.Rows.callWith_type1 (PyProof.Rows.args_cons (thn (ha.run pins s σ H _ I h) fun v s1 ⟨x, H1, I1, r1, q1⟩ => PyProof.Rows.args_nil ?_) na) na rfl
  obtain ⟨j, rfl, hj, q1⟩ := q1
  obtain ⟨t, rfl⟩ := r1
  refine call_range_1 ?_
  refine PyProof.Rows.args_nil ?_
  have hR : IsRange (s1.heap.push { cls := .type "range", data := .fields #[.int 0 s1.toks, .int (j : Int) t, .int 1 (s1.toks + 1)] }) s1.heap.objs.size 0 j 1 s1.toks t (s1.toks + 1) := Heap.get?_push_size _ rfl
  refine call_list_range (n := j) (I1.ok.hd hc) hR ?_ ?_ (by omega) fun h' tk acc' c' hk hS hacc => ?_
  · exact small_one (by decide) (by omega) (by omega) (by omega)
  · rw [rangeSize_one]; split <;> omega
  · have I2 : Inv X pins σ H1 { s1 with heap := s1.heap.push { cls := .type "range", data := .fields #[.int 0 s1.toks, .int (j : Int) t, .int 1 (s1.toks + 1)] }, toks := s1.toks + 1 + 1 } := I1.kept fun b o e => Heap.get?_push_of_some _ e
    have hz : s1.heap.objs.size ≤ (s1.heap.push { cls := .type "range", data := .fields #[.int 0 s1.toks, .int (j : Int) t, .int 1 (s1.toks + 1)] }).objs.size := by rw [Heap.size_push]; omega
    refine ⟨.ref _, upd H1 _ (.lst (((List.range j).map fun (i : Nat) => (i : Int)).map V.int)), I2.laid (t' := tk) (fun b o e => hk b o e) (Nat.le_refl _) ⟨by simp; rw [sizeLine_eq]; omega, acc'.toList, c', ?_, by simpa using hS⟩, rfl, q1 _ (I2.hok.fresh (Nat.le_refl _))⟩
    have hl : acc'.toList.length = j := by rw [Array.length_toList]; exact hacc.1
    have := vals_of_get acc'.toList (fun i => V.int (i : Nat)) fun i u hu => by
      obtain ⟨tt, e⟩ := hacc.2 i u (by simpa using hu)
      exact ⟨tt, by rw [e]; simp⟩
    rw [hl] at this
    rw [List.map_map]
    exact this
@[simp] def dListRange (de : ED) : ED := fun ρ h Q E => de ρ h (fun v h1 => match v with
  | .int j => 0 ≤ j ∧ j ≤ 1000 ∧ Q (.lst (((List.range j.toNat).map fun (i : Nat) => (i : Int)).map .int)) h1
  | _ => False) E
theorem de_listRange {X : Cx} {B : Bs} {a : Expr} {da : ED} {p p2 q pos : Pos} (hg : Gl X "list") (hm : X.mg "list" = none) (hg2 : Gl X "range") (hm2 : X.mg "range" = none) (ha : DE X B a da) (hc : X.calm = true := by rfl)
    (na : starEach [a] X.env = (false, eval a X.env) :: starEach [] X.env := by rfl) : DE X B (.Call (.Name "list" p) [.Call (.Name "range" p2) [a] [] q] [] pos) (dListRange da) :=
  PEi (pe_listRange hg hm hg2 hm2 ha hc na) fun σ H Q ⟨ρ, h, Q', S, q, C⟩ => ⟨ρ, h, _, S, q, fun v h1 x H1 q1 s1 rv1 r1 => by
    split at q1
    · rename_i j
      rw [RV] at rv1
      exact ⟨j.toNat, by rw [rv1]; congr 1; omega, by omega, fun l hl => (C.trans s1).lst r1 (RVs.ofInts _) hl q1.2.2⟩
    · exact q1.elim⟩
end DL
namespace DL
open PySem PySem.Spec PyProof.Rows L2
def RT (Q : PV) : PV := fun v h' => ∃ v2 h2, Conv v h' v2 h2 ∧ Q v2 h2
def RN (Q : PV) : Sl → Hv → Prop := fun _ h' => ∃ h2, Lss h' h2 ∧ Q .non h2
def RX (E : PF) : PX := fun nm pl _ h' => ∃ h2, Lss h' h2 ∧ E nm pl h2
abbrev endsR (Q : PV) : AE := ⟨RN Q, RT Q, fun _ _ => False, fun _ _ => False⟩
theorem RT.same {Q : PV} {v : Val} {h : Hv} (q : Q v h) : RT Q v h := ⟨v, h, conv_less (Lss.refl h), q⟩
theorem RT.less {Q : PV} {v : Val} {h h2 : Hv} (l : Lss h h2) (q : Q v h2) : RT Q v h := ⟨v, h2, conv_less l, q⟩
theorem RT.frz {Q : PV} {h h2 : Hv} {p : Addr} {vs : List Val} (l : Lss h h2) (e : h p = some (.lst vs)) (n : h2 p = none) (q : Q (.lst vs) h2) : RT Q (.ref p) h := ⟨_, h2, conv_frz l e n, q⟩
theorem RN.same {Q : PV} {ρ : Sl} {h : Hv} (q : Q .non h) : RN Q ρ h := ⟨h, Lss.refl h, q⟩

def Sub (h h' : Hv) : Prop := ∀ a o, h a = some o → h' a = some o
theorem Sub.refl (h : Hv) : Sub h h := fun _ _ e => e
theorem Sub.trans {h h1 h2 : Hv} (x : Sub h h1) (y : Sub h1 h2) : Sub h h2 := fun a o e => y a o (x a o e)
theorem Sub.put {h : Hv} {p : Addr} {o : Ob} (e : h p = none) : Sub h (put h p o) := fun a u q => by
  rw [put_ne (fun z => by rw [z, e] at q; cases q)]; exact q
theorem drop_put {h : Hv} {p : Addr} {o : Ob} (e : h p = none) : drop (DL.put h p o) p = h := by
  funext a
  by_cases ha : a = p
  · subst ha; rw [drop_same, e]
  · rw [drop_ne ha, put_ne ha]
theorem lcL_filt {ok : Hv → Prop} {t : Tg} {tt : TD} {te : ED} {ρw : Sl} {h : Hv} (pv : Val → Bool) (g : Val → Val) (hok : ok h) : ∀ (items acc : List Val) (Q : List Val → Hv → Prop), acc.length + items.length ≤ sizeLine →
    (∀ v ∈ items, ∃ ρ', bT t v ρw = some ρ' ∧ (∀ Q', Q' (pv v) h → tt ρ' h Q' EF) ∧ (pv v = true → ∀ Q', Q' (g v) h → te ρ' h Q' EF)) →
    Q (acc ++ (items.filter pv).map g) h → lcL ok t tt te ρw items acc h Q
  | [], acc, Q, hl, he, q => ⟨hok, by simpa using q⟩
  | v :: vs, acc, Q, hl, he, q => by
    obtain ⟨ρ', e1, e2, e3⟩ := he v List.mem_cons_self
    refine ⟨hok, ?_⟩
    rw [e1]
    dsimp only
    rw [List.length_cons] at hl
    refine e2 _ ?_
    cases hp : pv v with
    | true =>
      rw [if_pos rfl]
      refine e3 hp _ ⟨by omega, ?_⟩
      refine lcL_filt pv g hok vs (acc ++ [g v]) Q (by rw [List.length_append, List.length_singleton]; omega) (fun w hw => he w (List.mem_cons_of_mem _ hw)) ?_
      rw [List.filter_cons_of_pos hp, List.map_cons] at q
      simpa using q
    | false =>
      rw [if_neg Bool.false_ne_true]
      refine lcL_filt pv g hok vs acc Q (by omega) (fun w hw => he w (List.mem_cons_of_mem _ hw)) ?_
      rw [List.filter_cons_of_neg (by rw [hp]; exact Bool.false_ne_true)] at q
      exact q
theorem lc_filt {di : ID} {t : Tg} {tt : TD} {te : ED} {vs : List Nat} {ρ : Sl} {h : Hv} {Q : PV} {E : PX} {items : List Val} {ok : Hv → Prop} (pv : Val → Bool) (g : Val → Val) (hdi : ∀ R : Itr → Hv → Prop, R ⟨items, ok⟩ h → di ρ h R E) (hok : ∀ h', Sub h h' → ok h') (hl : items.length ≤ sizeLine)
    (he : ∀ v ∈ items, ∃ ρ', bT t v (wipeA ρ vs) = some ρ' ∧ (∀ h' Q', Sub h h' → Q' (pv v) h' → tt ρ' h' Q' EF) ∧ (pv v = true → ∀ h' Q', Sub h h' → Q' (g v) h' → te ρ' h' Q' EF))
    (q : Q (.lst ((items.filter pv).map g)) h) : dLc di t tt te vs ρ h Q E := by
  refine hdi _ fun D nD => ?_
  have sb := Sub.put (o := .busy) nD
  refine lcL_filt pv g (hok _ sb) items [] _ (by simpa using hl) (fun v hv => ?_) ?_
  · obtain ⟨ρ', e1, e2, e3⟩ := he v hv
    exact ⟨ρ', e1, fun Q' q' => e2 _ Q' sb q', fun hp Q' q' => e3 hp _ Q' sb q'⟩
  · rw [List.nil_append, drop_put nD]
    exact q
theorem lc_map {di : ID} {t : Tg} {te : ED} {vs : List Nat} {ρ : Sl} {h : Hv} {Q : PV} {E : PX} {items : List Val} {ok : Hv → Prop} (g : Val → Val) (hdi : ∀ R : Itr → Hv → Prop, R ⟨items, ok⟩ h → di ρ h R E) (hok : ∀ h', Sub h h' → ok h') (hl : items.length ≤ sizeLine)
    (he : ∀ v ∈ items, ∃ ρ', bT t v (wipeA ρ vs) = some ρ' ∧ ∀ h' Q', Sub h h' → Q' (g v) h' → te ρ' h' Q' EF)
    (q : Q (.lst (items.map g)) h) : dLc di t tTrue te vs ρ h Q E := by
  refine lc_filt (fun _ => true) g hdi hok hl (fun v hv => ?_) (by rw [List.filter_eq_self.mpr (fun _ _ => rfl)]; exact q)
  obtain ⟨ρ', e1, e2⟩ := he v hv
  exact ⟨ρ', e1, fun h' Q' _ q' => q', fun _ => e2⟩
theorem all_lc {di : ID} {t : Tg} {te : ED} {vs : List Nat} {ρ : Sl} {h : Hv} {Q : PV} {E : PX} {items : List Val} {ok : Hv → Prop} (p : Val → Bool) (hdi : ∀ R : Itr → Hv → Prop, R ⟨items, ok⟩ h → di ρ h R E) (hok : ∀ h', Sub h h' → ok h') (hl : items.length ≤ sizeLine)
    (he : ∀ v ∈ items, ∃ ρ', bT t v (wipeA ρ vs) = some ρ' ∧ ∀ h' Q', Sub h h' → Q' (.bl (p v)) h' → te ρ' h' Q' EF)
    (q : Q (.bl (items.all p)) h) : dCB fAll (aCons (dLc di t tTrue te vs) aNil) ρ h Q E := by
  simp only [dCB, aCons, aNil]
  refine lc_map (fun v => .bl (p v)) hdi hok hl he ?_
  show fAll [.lst (items.map fun v => .bl (p v))] h Q
  simp only [fAll, listOf, Option.bind_some, blsOf_map]
  simpa using q
theorem for_ind {ok : Hv → Prop} {t : Tg} {d : SD} {D : AE} {E : PX} (I : List Val → Sl → Hv → Prop) (h0 : ∀ ρ h, I [] ρ h → ok h ∧ D.nx ρ h)
    (hs : ∀ v vs ρ h, I (v :: vs) ρ h → ok h ∧ ∃ ρ', bT t v ρ = some ρ' ∧ ∀ N : Sl → Hv → Prop, (∀ ρ h, I vs ρ h → N ρ h) → d ρ' h { D with nx := N, ct := N, bk := D.nx } E) :
    ∀ (items : List Val) (ρ : Sl) (h : Hv), I items ρ h → forL ok t d items ρ h D E
  | [], ρ, h, i => h0 ρ h i
  | v :: vs, ρ, h, i => by
    obtain ⟨o, ρ', e, k⟩ := hs v vs ρ h i
    refine ⟨o, ?_⟩
    rw [e]
    exact k _ fun ρ h i => for_ind I h0 hs vs ρ h i
mutual
def okD : Val → Bool
  | .non => true
  | .bl _ => true
  | .int _ => true
  | .str z => decide (z.length ≤ 1000)
  | .tup vs => okDs vs && decide (vs.length ≤ 1000)
  | .lst vs => okDs vs && decide (vs.length ≤ 1000)
  | _ => false
def okDs : List Val → Bool
  | [] => true
  | v :: vs => okD v && okDs vs
end
theorem okDs_mem : ∀ {vs : List Val} {v : Val}, okDs vs = true → v ∈ vs → okD v = true
  | w :: ws, v, h, hv => by
    rw [okDs, Bool.and_eq_true] at h
    rcases List.mem_cons.mp hv with e | e
    · rw [e]; exact h.1
    · exact okDs_mem h.2 e
theorem sl1000 {n : Nat} (h : n ≤ 1000) : n ≤ sizeLine := by rw [sizeLine_eq]; omega
end DL
namespace DL
open PySem PySem.Spec PyProof.Rows L2
theorem Qb {Q : PV} {b b' : Bool} {h : Hv} (q : Q (.bl b) h) (e : b = b') : Q (.bl b') h := by rw [← e]; exact q
theorem Qv {Q : PV} {b b' : Val} {h : Hv} (q : Q b h) (e : b = b') : Q b' h := by rw [← e]; exact q
def isNum (v : Val) (lo hi : Int) : Bool := match v with
  | .int i => decide (lo ≤ i) && decide (i ≤ hi)
  | _ => false
def S_is_number : SpF := fun as h Q _ => ∃ v lo hi, as = [v, .int lo, .int hi] ∧ okD v = true ∧ Q (.bl (isNum v lo hi)) h
def letters : List Nat := ("abcdefghijklmnopqrstuvwxyz" : Str).cps.toList
def isName (v : Val) : Bool := match v with
  | .str z => decide (1 ≤ z.length) && decide (z.length ≤ 8) && z.cps.toList.all fun c => decide (c ∈ letters)
  | _ => false
def S_is_name : SpF := fun as h Q _ => ∃ v, as = [v] ∧ okD v = true ∧ Q (.bl (isName v)) h
def risA : List Val → Option Bool
  | [] => some true
  | [_] => some true
  | x :: y :: r => match ltA x y, risA (y :: r) with
    | some b, some c => some (b && c)
    | _, _ => none
def S_is_rising : SpF := fun as h Q _ => ∃ v vs b, as = [v] ∧ (v = .lst vs ∨ v = .tup vs) ∧ vs.length ≤ 1000 ∧ risA vs = some b ∧ Q (.bl b) h
def isLand (v : Val) : Bool := match v with
  | .tup [a, b, c, d] => isName a && isNum c 1 99 && (match c with
    | .int q => isNum b 1 q
    | _ => false) && isNum d 0 999
  | _ => false
def S_is_land : SpF := fun as h Q _ => ∃ v, as = [v] ∧ okD v = true ∧ Q (.bl (isLand v)) h
def isPact (v : Val) (names : List Str) : Bool := match v with
  | .tup [.str a, .str b] => decide (a ∈ names) && decide (b ∈ names) && decide (a ≠ b)
  | _ => false
def S_is_pact : SpF := fun as h Q _ => ∃ v names, as = [v, .lst (names.map .str)] ∧ okD v = true ∧ Q (.bl (isPact v names)) h
def nmOf : Val → Str
  | .tup (.str z :: _) => z
  | _ => ""
def isBook (v : Val) : Bool := match v with
  | .tup [.tup lands, pacts] => decide (1 ≤ lands.length) && decide (lands.length ≤ 4) && lands.all isLand && (risA (lands.map fun l => .str (nmOf l))).getD false &&
    (match pacts with
    | .tup ps => (ps.all fun p => isPact p (lands.map nmOf)) && (risA ps).getD false
    | _ => false)
  | _ => false
def S_is_book : SpF := fun as h Q _ => ∃ v, as = [v] ∧ okD v = true ∧ Q (.bl (isBook v)) h

structure Land where
  nm : Str
  p : Int
  q : Int
  pr : Int
structure Book where
  lands : List Land
  pacts : List (Str × Str)
def encL (l : Land) : Val := .tup [.str l.nm, .int l.p, .int l.q, .int l.pr]
def encP (p : Str × Str) : Val := .tup [.str p.1, .str p.2]
def encB (b : Book) : Val := .tup [.tup (b.lands.map encL), .tup (b.pacts.map encP)]
def Book.names (b : Book) : List Str := b.lands.map (·.nm)
abbrev Heap' := List (Int × Option Str)
def encO : Option Str → Val
  | some z => .str z
  | none => .non
def encR (r : Int × Option Str) : Val := .tup [.int r.1, encO r.2]
def encH (hp : Heap') : Val := .tup (hp.map encR)
structure WFB (b : Book) : Prop where
  n1 : 1 ≤ b.lands.length
  n4 : b.lands.length ≤ 4
  nm : ∀ l ∈ b.lands, isName (.str l.nm) = true
  sh : ∀ l ∈ b.lands, 1 ≤ l.p ∧ l.p ≤ l.q ∧ l.q ≤ 99 ∧ 0 ≤ l.pr ∧ l.pr ≤ 999
  up : b.names.Pairwise fun x y => x.cps.toList < y.cps.toList
  pc : ∀ p ∈ b.pacts, p.1 ∈ b.names ∧ p.2 ∈ b.names ∧ p.1 ≠ p.2
  pu : b.pacts.Pairwise fun x y => x.1.cps.toList < y.1.cps.toList ∨ (x.1 = y.1 ∧ x.2.cps.toList < y.2.cps.toList)
  pl : b.pacts.length ≤ 16
def S_names_of : SpF := fun as h Q _ => ∃ b : Book, as = [encB b] ∧ b.lands.length ≤ 4 ∧ Q (.lst (b.names.map .str)) h
end DL
namespace DL
open PySem PySem.Spec PyProof.Rows L2
def RsOk (rs : List (Key × Val)) : Prop := ∃ ks : List Nat, rs.map (·.1) = ks.map (fun (k : Nat) => (Sum.inl (k : Int) : Key)) ∧ ks.Nodup ∧ (∀ k ∈ ks, k < 64) ∧ ∀ kv ∈ rs, ∃ z, kv.2 = .int z
structure Town (t r : Addr) (h : Hv) : Prop where
  ne : t ≠ r
  tc : ∃ c : Int, 0 ≤ c ∧ h t = some (.dK [(.inr "count", .int c), (.inr "rests", .ref r)])
  rc : ∃ rs, h r = some (.dK rs) ∧ RsOk rs
def Only (t r : Addr) (h h' : Hv) : Prop := ∀ a, a ≠ t → a ≠ r → h' a = h a
theorem Only.refl {t r : Addr} (h : Hv) : Only t r h h := fun _ _ _ => rfl
theorem Only.trans {t r : Addr} {h h1 h2 : Hv} (a : Only t r h h1) (b : Only t r h1 h2) : Only t r h h2 := fun x u v => (b x u v).trans (a x u v)
def S__law_draw : SpF := fun as h Q _ => ∃ ns t r m, as = [.scr ns, .ref t, .int m] ∧ 0 < m ∧ m < 1073741824 ∧ ns.length ≤ 63 ∧ Town t r h ∧ ∀ n h', 0 ≤ n → n < m → Town t r h' → Only t r h h' → Q (.int n) h'
def S__law_begun : SpF := fun as h Q _ => as = [] ∧ ∀ t r h', h t = none → h r = none → Town t r h' → Only t r h h' → Q (.ref t) h'
structure Drawn (b : Book) : Prop where
  wf : WFB b
  nm : ∃ k, 1 ≤ k ∧ k ≤ 3 ∧ b.names = (["ash", "elm", "fir"] : List Str).take k
  sh : ∀ l ∈ b.lands, 1 ≤ l.p ∧ l.p ≤ l.q ∧ l.q ≤ 6 ∧ 0 ≤ l.pr ∧ l.pr ≤ 8
def S__law_a_book : SpF := fun as h Q _ => ∃ ns t r, as = [.scr ns, .ref t] ∧ ns.length ≤ 63 ∧ Town t r h ∧ ∀ b h', Drawn b → Town t r h' → Only t r h h' → Q (encB b) h'
end DL
namespace DL
open PySem PySem.Spec PyProof.Rows L2
theorem atI_nat {α : Type} {xs : List α} {k : Nat} (h : k < xs.length) : atI xs (k : Int) = some xs[k] := by
  have : ixN xs.length (k : Int) = some k := by unfold ixN; simp; omega
  unfold atI
  rw [this]
  exact List.getElem?_eq_getElem h
theorem seq_o {a b : SD} {ρ : Sl} {h : Hv} {D : AE} {E : PX} (q : ∀ K : SD, K = b → a ρ h { D with nx := fun ρ h => K ρ h D E } E) : sSeq a b ρ h D E := q b rfl
theorem atI_zero {α : Type} (x : α) (xs : List α) : atI (x :: xs) 0 = some x := by
  have : ixN (xs.length + 1) 0 = some 0 := by simp [ixN]
  simp [atI, this]
theorem opq {α : Sort u} {x : α} {P : α → Prop} (q : ∀ y, x = y → P y) : ∀ y, x = y → P y := q
end DL
namespace DL
open PySem PySem.Spec PyProof.Rows L2
def okN : Nat → Val → Bool
  | _, .non => true
  | _, .bl _ => true
  | _, .int _ => true
  | _, .str z => PyData.strOk z && decide (z.length ≤ 1000)
  | d + 1, .tup vs => vs.all (okN d) && decide (vs.length ≤ 1000)
  | d + 1, .lst vs => vs.all (okN d) && decide (vs.length ≤ 1000)
  | _, _ => false
theorem okN_tup {d : Nat} {vs : List Val} : okN (d + 1) (.tup vs) = true ↔ (∀ v ∈ vs, okN d v = true) ∧ vs.length ≤ 1000 := by
  rw [okN, Bool.and_eq_true, List.all_eq_true, decide_eq_true_eq]
theorem okN_lst {d : Nat} {vs : List Val} : okN (d + 1) (.lst vs) = true ↔ (∀ v ∈ vs, okN d v = true) ∧ vs.length ≤ 1000 := by
  rw [okN, Bool.and_eq_true, List.all_eq_true, decide_eq_true_eq]
theorem okN_mono : ∀ {d : Nat} {v : Val}, okN d v = true → okN (d + 1) v = true
  | d, .non, _ => by rw [okN]
  | d, .bl _, _ => by rw [okN]
  | d, .int _, _ => by rw [okN]
  | d, .str z, h => by rw [okN] at h ⊢; exact h
  | d + 1, .tup vs, h => by
    rw [okN_tup] at h ⊢
    exact ⟨fun v hv => okN_mono (h.1 v hv), h.2⟩
  | d + 1, .lst vs, h => by
    rw [okN_lst] at h ⊢
    exact ⟨fun v hv => okN_mono (h.1 v hv), h.2⟩
  | 0, .tup _, h => by simp [okN] at h
  | 0, .lst _, h => by simp [okN] at h
  | _, .tpo _, h => by simp [okN] at h
  | _, .scr _, h => by simp [okN] at h
  | _, .ref _, h => by simp [okN] at h
  | _, .ty _, h => by simp [okN] at h
theorem okN_le {d e : Nat} {v : Val} (h : okN d v = true) (l : d ≤ e) : okN e v = true := by
  induction l with
  | refl => exact h
  | step _ ih => exact okN_mono ih
theorem dats_of {d : Nat} (ih : ∀ v, okN d v = true → ∃ x, dat v = some x ∧ x.canLay0 = true ∧ x.depth ≤ d) : ∀ {vs : List Val}, (∀ v ∈ vs, okN d v = true) → ∃ xs, dats vs = some xs ∧ PyData.canLayAll0 xs = true ∧ PyData.depthAll xs ≤ d
  | [], _ => ⟨[], rfl, rfl, Nat.zero_le _⟩
  | v :: vs, h => by
    obtain ⟨x, e1, c1, d1⟩ := ih v (h v List.mem_cons_self)
    obtain ⟨xs, e2, c2, d2⟩ := dats_of ih fun w hw => h w (List.mem_cons_of_mem _ hw)
    refine ⟨x :: xs, by rw [dats, e1, e2], by rw [PyData.canLayAll0, c1, c2]; rfl, ?_⟩
    rw [PyData.depthAll]
    exact Nat.max_le.mpr ⟨d1, d2⟩
theorem dat_of : ∀ {d : Nat} {v : Val}, okN d v = true → ∃ x, dat v = some x ∧ x.canLay0 = true ∧ x.depth ≤ d
  | d, .non, _ => ⟨_, rfl, rfl, by rw [PyData.depth]; exact Nat.zero_le _⟩
  | d, .bl _, _ => ⟨_, rfl, rfl, by rw [PyData.depth]; exact Nat.zero_le _⟩
  | d, .int _, _ => ⟨_, rfl, rfl, by rw [PyData.depth]; exact Nat.zero_le _⟩
  | d, .str z, h => by
    rw [okN, Bool.and_eq_true] at h
    exact ⟨_, rfl, by rw [PyData.canLay0]; exact h.1, by rw [PyData.depth]; exact Nat.zero_le _⟩
  | d + 1, .tup vs, h => by
    rw [okN_tup] at h
    obtain ⟨xs, e, c, dd⟩ := dats_of (fun v hv => dat_of hv) h.1
    exact ⟨.tuple xs, by rw [dat, e]; rfl, by rw [PyData.canLay0]; exact c, by rw [PyData.depth]; omega⟩
  | d + 1, .lst vs, h => by
    rw [okN_lst] at h
    obtain ⟨xs, e, c, dd⟩ := dats_of (fun v hv => dat_of hv) h.1
    exact ⟨.list xs, by rw [dat, e]; rfl, by rw [PyData.canLay0]; exact c, by rw [PyData.depth]; omega⟩
  | 0, .tup _, h => by simp [okN] at h
  | 0, .lst _, h => by simp [okN] at h
  | _, .tpo _, h => by simp [okN] at h
  | _, .scr _, h => by simp [okN] at h
  | _, .ref _, h => by simp [okN] at h
  | _, .ty _, h => by simp [okN] at h
def eqD (v w : Val) : Bool := match dat v, dat w with
  | some d, some e => PyData.eqv d e
  | _, _ => false
theorem datH_of {v : Val} {h : Hv} {d : Nat} (o : okN d v = true) : datH v h = dat v := by
  cases v <;> first | rfl | (simp [okN] at o)
theorem datEq_ok {v w : Val} {h : Hv} {Q : Bool → Prop} (hv : okN 64 v = true) (hw : okN 64 w = true) (q : Q (eqD v w)) : datEq v w h Q := by
  obtain ⟨d, e1, c1, d1⟩ := dat_of hv
  obtain ⟨e, e2, c2, d2⟩ := dat_of hw
  refine ⟨d, e, by rw [datH_of hv, e1], by rw [datH_of hw, e2], ?_, ?_, ?_⟩
  · unfold SeqAt.shaped; rw [c1, decide_eq_true d1]; rfl
  · unfold SeqAt.shaped; rw [c2, decide_eq_true d2]; rfl
  · unfold eqD at q; rw [e1, e2] at q; exact q
theorem eqD_refl {v : Val} {d : Nat} (h : okN d v = true) : eqD v v = true := by
  obtain ⟨x, e, c, _⟩ := dat_of h
  unfold eqD; rw [e]
  exact SeqAt.eqv_refl x c
theorem fNe_dat {v w : Val} {h : Hv} {Q : PV} (hv : okN 64 v = true) (hw : okN 64 w = true) (q : Q (.bl (!eqD v w)) h) (hs : scA v w = none := by rfl) : fNe v w h Q := by
  unfold fNe; rw [hs]; exact datEq_ok hv hw q
theorem fEq_dat {v w : Val} {h : Hv} {Q : PV} (hv : okN 64 v = true) (hw : okN 64 w = true) (q : Q (.bl (eqD v w)) h) (hs : scA v w = none := by rfl) : fEq v w h Q := by
  unfold fEq; rw [hs]; exact datEq_ok hv hw q
theorem lcL_filtT {α : Type} {ok : Hv → Prop} {t : Tg} {tt : TD} {te : ED} {ρw : Sl} {h : Hv} (f : α → Val) (pv : α → Bool) (g : α → Val) (hok : ok h) : ∀ (xs : List α) (acc : List Val) (Q : List Val → Hv → Prop), acc.length + xs.length ≤ sizeLine →
    (∀ x ∈ xs, ∃ ρ', bT t (f x) ρw = some ρ' ∧ (∀ Q', Q' (pv x) h → tt ρ' h Q' EF) ∧ (pv x = true → ∀ Q', Q' (g x) h → te ρ' h Q' EF)) →
    Q (acc ++ (xs.filter pv).map g) h → lcL ok t tt te ρw (xs.map f) acc h Q
  | [], acc, Q, hl, he, q => ⟨hok, by simpa using q⟩
  | x :: xs, acc, Q, hl, he, q => by
    obtain ⟨ρ', e1, e2, e3⟩ := he x List.mem_cons_self
    refine ⟨hok, ?_⟩
    rw [e1]
    dsimp only
    rw [List.length_cons] at hl
    refine e2 _ ?_
    cases hp : pv x with
    | true =>
      rw [if_pos rfl]
      refine e3 hp _ ⟨by omega, ?_⟩
      refine lcL_filtT f pv g hok xs (acc ++ [g x]) Q (by rw [List.length_append, List.length_singleton]; omega) (fun w hw => he w (List.mem_cons_of_mem _ hw)) ?_
      rw [List.filter_cons_of_pos hp, List.map_cons] at q
      simpa using q
    | false =>
      rw [if_neg Bool.false_ne_true]
      refine lcL_filtT f pv g hok xs acc Q (by omega) (fun w hw => he w (List.mem_cons_of_mem _ hw)) ?_
      rw [List.filter_cons_of_neg (by rw [hp]; exact Bool.false_ne_true)] at q
      exact q
theorem lc_filtT {α : Type} {di : ID} {t : Tg} {tt : TD} {te : ED} {vs : List Nat} {ρ : Sl} {h : Hv} {Q : PV} {E : PX} {ok : Hv → Prop} (xs : List α) (f : α → Val) (pv : α → Bool) (g : α → Val) (hdi : ∀ R : Itr → Hv → Prop, R ⟨xs.map f, ok⟩ h → di ρ h R E) (hok : ∀ h', Sub h h' → ok h') (hl : xs.length ≤ sizeLine)
    (he : ∀ x ∈ xs, ∃ ρ', bT t (f x) (wipeA ρ vs) = some ρ' ∧ (∀ h' Q', Sub h h' → Q' (pv x) h' → tt ρ' h' Q' EF) ∧ (pv x = true → ∀ h' Q', Sub h h' → Q' (g x) h' → te ρ' h' Q' EF))
    (q : Q (.lst ((xs.filter pv).map g)) h) : dLc di t tt te vs ρ h Q E := by
  refine hdi _ fun D nD => ?_
  have sb := Sub.put (o := .busy) nD
  refine lcL_filtT f pv g (hok _ sb) xs [] _ (by simpa using hl) (fun v hv => ?_) ?_
  · obtain ⟨ρ', e1, e2, e3⟩ := he v hv
    exact ⟨ρ', e1, fun Q' q' => e2 _ Q' sb q', fun hp Q' q' => e3 hp _ Q' sb q'⟩
  · rw [List.nil_append, drop_put nD]
    exact q
theorem lc_mapT {α : Type} {di : ID} {t : Tg} {te : ED} {vs : List Nat} {ρ : Sl} {h : Hv} {Q : PV} {E : PX} {ok : Hv → Prop} (xs : List α) (f : α → Val) (g : α → Val) (hdi : ∀ R : Itr → Hv → Prop, R ⟨xs.map f, ok⟩ h → di ρ h R E) (hok : ∀ h', Sub h h' → ok h') (hl : xs.length ≤ sizeLine)
    (he : ∀ x ∈ xs, ∃ ρ', bT t (f x) (wipeA ρ vs) = some ρ' ∧ ∀ h' Q', Sub h h' → Q' (g x) h' → te ρ' h' Q' EF)
    (q : Q (.lst (xs.map g)) h) : dLc di t tTrue te vs ρ h Q E := by
  refine lc_filtT xs f (fun _ => true) g hdi hok hl (fun v hv => ?_) (by rw [List.filter_eq_self.mpr (fun _ _ => rfl)]; exact q)
  obtain ⟨ρ', e1, e2⟩ := he v hv
  exact ⟨ρ', e1, fun h' Q' _ q' => q', fun _ => e2⟩
theorem all_lcT {α : Type} {di : ID} {t : Tg} {te : ED} {vs : List Nat} {ρ : Sl} {h : Hv} {Q : PV} {E : PX} {ok : Hv → Prop} (xs : List α) (f : α → Val) (p : α → Bool) (hdi : ∀ R : Itr → Hv → Prop, R ⟨xs.map f, ok⟩ h → di ρ h R E) (hok : ∀ h', Sub h h' → ok h') (hl : xs.length ≤ sizeLine)
    (he : ∀ x ∈ xs, ∃ ρ', bT t (f x) (wipeA ρ vs) = some ρ' ∧ ∀ h' Q', Sub h h' → Q' (.bl (p x)) h' → te ρ' h' Q' EF)
    (q : Q (.bl (xs.all p)) h) : dCB fAll (aCons (dLc di t tTrue te vs) aNil) ρ h Q E := by
  simp only [dCB, aCons, aNil]
  refine lc_mapT xs f (fun v => .bl (p v)) hdi hok hl he ?_
  show fAll [.lst (xs.map fun v => .bl (p v))] h Q
  simp only [fAll, listOf, Option.bind_some, blsOf_map]
  simpa using q
theorem any_lcT {α : Type} {di : ID} {t : Tg} {te : ED} {vs : List Nat} {ρ : Sl} {h : Hv} {Q : PV} {E : PX} {ok : Hv → Prop} (xs : List α) (f : α → Val) (p : α → Bool) (hdi : ∀ R : Itr → Hv → Prop, R ⟨xs.map f, ok⟩ h → di ρ h R E) (hok : ∀ h', Sub h h' → ok h') (hl : xs.length ≤ sizeLine)
    (he : ∀ x ∈ xs, ∃ ρ', bT t (f x) (wipeA ρ vs) = some ρ' ∧ ∀ h' Q', Sub h h' → Q' (.bl (p x)) h' → te ρ' h' Q' EF)
    (q : Q (.bl (xs.any p)) h) : dCB fAny (aCons (dLc di t tTrue te vs) aNil) ρ h Q E := by
  simp only [dCB, aCons, aNil]
  refine lc_mapT xs f (fun v => .bl (p v)) hdi hok hl he ?_
  show fAny [.lst (xs.map fun v => .bl (p v))] h Q
  simp only [fAny, listOf, Option.bind_some, blsOf_map]
  simpa using q
theorem sum_lcT {α : Type} {di : ID} {t : Tg} {te : ED} {vs : List Nat} {ρ : Sl} {h : Hv} {Q : PV} {E : PX} {ok : Hv → Prop} (xs : List α) (f : α → Val) (p : α → Int) (hdi : ∀ R : Itr → Hv → Prop, R ⟨xs.map f, ok⟩ h → di ρ h R E) (hok : ∀ h', Sub h h' → ok h') (hl : xs.length ≤ sizeLine)
    (he : ∀ x ∈ xs, ∃ ρ', bT t (f x) (wipeA ρ vs) = some ρ' ∧ ∀ h' Q', Sub h h' → Q' (.int (p x)) h' → te ρ' h' Q' EF)
    (q : Q (.int (xs.map p).sum) h) : dCB fSum (aCons (dLc di t tTrue te vs) aNil) ρ h Q E := by
  simp only [dCB, aCons, aNil]
  refine lc_mapT xs f (fun v => .int (p v)) hdi hok hl he ?_
  show fSum [.lst (xs.map fun v => .int (p v))] h Q
  simp only [fSum, listOf, Option.bind_some, intsOf_map]
  exact q
theorem lc_ind {di : ID} {t : Tg} {tt : TD} {te : ED} {vs : List Nat} {ρ : Sl} {h : Hv} {Q : PV} {E : PX} {items : List Val} {ok : Hv → Prop} (I : Addr → List Val → List Val → Hv → Prop) (hdi : ∀ R : Itr → Hv → Prop, R ⟨items, ok⟩ h → di ρ h R E)
    (h1 : ∀ D, h D = none → I D items [] (put h D .busy))
    (h0 : ∀ D acc h', I D [] acc h' → ok h' ∧ Q (.lst acc) (drop h' D))
    (hs : ∀ D v r acc h', I D (v :: r) acc h' → ok h' ∧ ∃ ρ', bT t v (wipeA ρ vs) = some ρ' ∧ ∀ N : List Val → Hv → Prop, (∀ acc h2, I D r acc h2 → N acc h2) → tt ρ' h' (fun k h2 => if k = true then te ρ' h2 (fun u h3 => acc.length < sizeLine ∧ N (acc ++ [u]) h3) EF else N acc h2) EF) : dLc di t tt te vs ρ h Q E := by
  refine hdi _ fun D nD => ?_
  have go : ∀ (r acc : List Val) (h' : Hv), I D r acc h' → lcL ok t tt te (wipeA ρ vs) r acc h' (fun acc h2 => Q (.lst acc) (drop h2 D)) := by
    intro r
    induction r with
    | nil => exact fun acc h' i => h0 D acc h' i
    | cons v r ih =>
      intro acc h' i
      obtain ⟨o, ρ', e, k⟩ := hs D v r acc h' i
      refine ⟨o, ?_⟩
      rw [e]
      exact k _ fun acc h2 z => ih acc h2 z
  exact go items [] _ (h1 D nD)
end DL
namespace DL
open PySem PySem.Spec PyProof.Rows L2
inductive Tree where
  | leaf (n : Int)
  | node (z : Str) (ts : List Tree)
mutual
def Tree.enc : Tree → Val
  | .leaf n => .int n
  | .node z ts => .tup [.str z, .tup (encTs ts)]
def encTs : List Tree → List Val
  | [] => []
  | t :: ts => t.enc :: encTs ts
end
mutual
def Tree.things : Tree → List Int
  | .leaf n => [n]
  | .node _ ts => thingsTs ts
def thingsTs : List Tree → List Int
  | [] => []
  | t :: ts => t.things ++ thingsTs ts
end
mutual
def Tree.lands : Tree → List Str
  | .leaf _ => []
  | .node z ts => z :: landsTs ts
def landsTs : List Tree → List Str
  | [] => []
  | t :: ts => t.lands ++ landsTs ts
end
mutual
def Tree.ht : Tree → Nat
  | .leaf _ => 0
  | .node _ ts => htTs ts + 1
def htTs : List Tree → Nat
  | [] => 0
  | t :: ts => max t.ht (htTs ts)
end
mutual
def Tree.okT (names : List Str) : Tree → Prop
  | .leaf _ => True
  | .node z ts => z ∈ names ∧ ts ≠ [] ∧ okTs names ts
def okTs (names : List Str) : List Tree → Prop
  | [] => True
  | t :: ts => t.okT names ∧ okTs names ts
end
theorem encTs_map (ts : List Tree) : encTs ts = ts.map Tree.enc := by
  induction ts with
  | nil => rfl
  | cons t ts ih => rw [encTs, ih]; rfl
theorem thingsTs_map (ts : List Tree) : thingsTs ts = ts.flatMap Tree.things := by
  induction ts with
  | nil => rfl
  | cons t ts ih => rw [thingsTs, ih]; rfl
theorem landsTs_map (ts : List Tree) : landsTs ts = ts.flatMap Tree.lands := by
  induction ts with
  | nil => rfl
  | cons t ts ih => rw [landsTs, ih]; rfl
theorem okTs_iff (names : List Str) (ts : List Tree) : okTs names ts ↔ ∀ t ∈ ts, t.okT names := by
  induction ts with
  | nil => simp [okTs]
  | cons t ts ih => simp [okTs, ih]
theorem htTs_mem : ∀ {ts : List Tree} {t : Tree}, t ∈ ts → t.ht ≤ htTs ts
  | u :: ts, t, h => by
    rw [htTs]
    rcases List.mem_cons.mp h with e | e
    · rw [e]; exact Nat.le_max_left _ _
    · exact Nat.le_trans (htTs_mem e) (Nat.le_max_right _ _)
theorem htTs_le : ∀ {ts : List Tree} {k : Nat}, (∀ t ∈ ts, t.ht ≤ k) → htTs ts ≤ k
  | [], k, _ => Nat.zero_le _
  | u :: ts, k, h => by
    rw [htTs]
    exact Nat.max_le.mpr ⟨h u List.mem_cons_self, htTs_le fun t ht => h t (List.mem_cons_of_mem _ ht)⟩
def rowA (b : Book) (z : Str) : Option Land := (b.lands.filter fun l => decide (l.nm = z)).head?
def S_row_of : SpF := fun as h Q _ => ∃ (b : Book) (z : Str) (l : Land), as = [encB b, .str z] ∧ b.lands.length ≤ 4 ∧ rowA b z = some l ∧ Q (encL l) h
def S__law_row : SpF := S_row_of
end DL
namespace DL
open PySem PySem.Spec PyProof.Rows L2
def takesL (b : Book) (z : Str) : List Str := sortZ (z :: (b.pacts.filter fun p => decide (p.1 = z)).map (·.2))
def enough (b : Book) (z : Str) (c w : Int) : Bool := match rowA b z with
  | some l => decide (w * l.p ≤ c * l.q)
  | none => false
def rawW (hp : Heap') (n : Int) : Int := ((hp[n.toNat]?).map (·.1)).getD 0
def rawL (hp : Heap') (n : Int) : Option Str := (hp[n.toNat]?).bind (·.2)
mutual
def Tree.whole (hp : Heap') : Tree → Int
  | .leaf n => rawW hp n
  | .node _ ts => wholeTs hp ts
def wholeTs (hp : Heap') : List Tree → Int
  | [] => 0
  | t :: ts => t.whole hp + wholeTs hp ts
end
mutual
def Tree.land (b : Book) (hp : Heap') : Tree → Option Str
  | .leaf n => rawL hp n
  | .node z ts => if enough b z (cntTs b hp z ts) (wholeTs hp ts) = true then some z else none
def cntTs (b : Book) (hp : Heap') (z : Str) : List Tree → Int
  | [] => 0
  | t :: ts => (match t.land b hp with
    | some l => if l ∈ takesL b z then t.whole hp else 0
    | none => 0) + cntTs b hp z ts
end
abbrev Row := List Int × Option Str
def encRow (r : Row) : Val := .tup [.tup (r.1.map .int), encO r.2]
mutual
def Tree.rows (b : Book) (hp : Heap') (path : List Int) : Tree → List Row
  | .leaf n => [(path, rawL hp n)]
  | .node z ts => (path, (Tree.node z ts).land b hp) :: rowsTs b hp path 0 ts
def rowsTs (b : Book) (hp : Heap') (path : List Int) (i : Nat) : List Tree → List Row
  | [] => []
  | t :: ts => t.rows b hp (path ++ [(i : Int)]) ++ rowsTs b hp path (i + 1) ts
end
mutual
def Tree.size : Tree → Nat
  | .leaf _ => 1
  | .node _ ts => sizeTs ts + 1
def sizeTs : List Tree → Nat
  | [] => 0
  | t :: ts => t.size + sizeTs ts
end
def Tree.at (t : Tree) : List Int → Option Tree
  | [] => some t
  | i :: p => match t with
    | .leaf _ => none
    | .node _ ts => if 0 ≤ i then (match ts[i.toNat]? with
      | some u => u.at p
      | none => none) else none
def Tree.put (t : Tree) (f : Tree) : List Int → Tree
  | [] => f
  | i :: p => match t with
    | .leaf n => .leaf n
    | .node z ts => match ts[i.toNat]? with
      | some u => .node z (ts.set i.toNat (u.put f p))
      | none => .node z ts
structure HpOk (b : Book) (hp : Heap') : Prop where
  n8 : hp.length ≤ 8
  fr : ∀ x ∈ hp, ∀ z, x.2 = some z → z ∈ b.names
structure TrOk (b : Book) (hp : Heap') (t : Tree) : Prop where
  ok : t.okT b.names
  rg : ∀ n ∈ t.things, 0 ≤ n ∧ n < (hp.length : Int)
def S_takes : SpF := fun as h Q _ => ∃ (b : Book) (z : Str), as = [encB b, .str z] ∧ b.pacts.length ≤ 16 ∧ Q (.tup ((takesL b z).map .str)) h
def S__law_takes : SpF := fun as h Q _ => ∃ (b : Book) (z : Str), as = [encB b, .str z] ∧ b.pacts.length ≤ 16 ∧ Q (.lst ((takesL b z).map .str)) h
def S_is_enough : SpF := fun as h Q _ => ∃ (b : Book) (z : Str) (c w : Int), as = [encB b, .str z, .int c, .int w] ∧ WFB b ∧ z ∈ b.names ∧ Q (.bl (enough b z c w)) h
def S__law_has_share : SpF := S_is_enough
end DL
namespace DL
open PySem PySem.Spec PyProof.Rows L2
theorem fn_no {P : Program} {w : World} {K : PySem.W.Frag} {mg : Str → Option Value} {base : Heap} {CX : CXT} {k : Nat} {f : Addr} {fd : FuncData} {ps : List Str} {n : Nat} {S : SpF} (h : ∀ as h Q E, S as h Q E → False) : FnOk P w K mg base CX k f fd ps (spA K mg n S) :=
  ⟨fun vs H Q E ⟨_, _, _, _, _, _, _, z, _⟩ => (h _ _ _ _ z).elim, fun _ _ _ _ _ _ _ _ _ _ _ _ _ ⟨_, _, _, _, _, _, _, z, _⟩ => (h _ _ _ _ z).elim⟩
end DL
namespace DL
open PySem PySem.Spec PyProof.Rows L2
section
variable {X : Cx} {pins : List (Addr × Obj)} {σ : L2.St} {H : Hp} {s : Shared}
def Thr (a : Addr) : Heap → Prop := fun h => ∃ o, h.get? a = some o
theorem inv_track {a : Addr} {oe : Obj} {vs : Array Value} (I : Inv X ((a, oe) :: pins) σ H s) (hd : oe.data = .fields vs) (h0 : X.s_0.heap.get? a = none) (hp : ∀ p ∈ X.pn ++ pins, p.1 ≠ a) : Inv X pins σ (upd H a (.frz oe (.ext (Thr a)))) s := by
  obtain ⟨ha, na, nL, nF, _⟩ := I.pin (a, oe) (List.mem_append_right _ List.mem_cons_self)
  have ne : ∀ {b : Addr} {o : HO}, H b = some o → b ≠ a := fun e => ne_of_none e na
  refine ⟨I.ok, I.os, I.bare, ⟨I.base.keep, I.base.slot, fun b o e n hx => ?_, I.base.there, fun b xs e => ?_, fun b o u e => ?_, fun b ps e => ?_⟩, I.loc, I.cell, ?_, fun x c e => ?_, fun p q => ?_, fun b o e => ?_, I.len⟩
  · have : b ≠ a := fun z => by rw [z, h0] at e; cases e
    rw [upd_ne this]; exact I.base.free b o e n hx
  · have := I.base.tups b xs e
    rw [upd_ne (ne this)]; exact this
  · have := I.base.frzs b o u e
    rw [upd_ne (ne this)]; exact this
  · obtain ⟨m, this⟩ := I.base.tbls b ps e
    exact ⟨m, by rw [upd_ne (ne this)]; exact this⟩
  · rw [upd_ne (Ne.symm nL)]; exact I.free
  · obtain ⟨w, o, z, d⟩ := I.cell x c e
    have : c ≠ a := fun q => by
      have ha : s.heap.get? a = some oe := ha
      rw [q, ha] at z; cases z; rw [hd] at d; cases d
    rw [upd_ne this]; exact I.freeC x c e
  · have m : p ∈ X.pn ++ (a, oe) :: pins := by
      rcases List.mem_append.mp q with z | z
      · exact List.mem_append_left _ z
      · exact List.mem_append_right _ (List.mem_cons_of_mem _ z)
    have := I.pin p m
    rw [upd_ne (hp p q)]; exact this
  · by_cases hb : b = a
    · subst hb
      rw [upd_same] at e
      cases e
      exact ⟨ha, ⟨oe, ha⟩, ⟨oe, ha⟩, fun h1 h2 ⟨o, e⟩ k => ⟨o, k o e⟩⟩
    · rw [upd_ne hb] at e
      exact (I.hok b o e).stay (fun _ _ _ z => z) (fun c z => by rw [upd_ne (ne z)]; exact z) fun c xs z => by rw [upd_ne (ne z)]; exact z
end
def wKeep (K : PySem.W.Frag) (c : Value) (i n : Nat) (ts : Addr → TS) (D : Ends) : WX := fun cls d σ H =>
  PySem.W.exmOne K cls c = some true ∧ ∀ a oe vs, H a = none → σ.length = n → L2.Zc cls d oe → oe.data = .fields vs → ts a { nx := fun σ' H' => H' a = none → D.nx (σ'.set i none) (upd H' a (.frz oe (.ext (Thr a)))), rt := fun _ _ => False, bk := fun _ _ => False, ct := fun _ _ => False } (σ.set i (some (.ref a))) H
section
variable {X : Cx} {x n : Str} {c : Value} {i : Nat} {body suite : List Stmt} {b₀ : Stmt} {np pos pos' : Pos} {tb : WX → TS} {ts : Addr → TS}
theorem ps_try_keep (hs : X.stack = X.env :: X.outer) (hf : X.env.frame = some X.env.locals) (hN : X.N.Nodup) (hi : X.N[i]? = some n) (hln : X.env.kindOf n = some .local) (hex : X.ex = []) (hc : Names X x c)
    (hb : ∀ (W : WX) (pn : List (Addr × Obj)) (xe : Value → Shared → Prop), Takes (X.tr pn xe) W → PassesOwn (model X.prog X.w) X.A X.env xe → PSs (X.tr pn xe) body (tb W))
    (hsu : ∀ (a : Addr) (oe : Obj) (pn : List (Addr × Obj)), PSs (X.suite a ((a, oe) :: pn)) (b₀ :: suite) (ts a)) :
    PS X (.Try body [.ExceptHandler (some (.Name x np)) (some n) (b₀ :: suite) pos'] [] [] pos) (fun D σ H => tb (wKeep X.K c i X.N.length ts D) D σ H) := by
  refine ⟨fun pins s σ H D I h => ?_⟩
  have ok := I.ok
  have hfr : X.A.frames = some (X.env :: X.outer) := by rw [ok.frames, hs]
  have hloc : Loc X.env.scope n := .inl hln
  refine wpAny_Try_except ?_
  refine wpAny_mono ((hb (wKeep X.K c i X.N.length ts D) (X.pn ++ pins) (fun e s₁ => wpAny (model X.prog X.w) X.A (noteFrame e X.env) (fun _ s₂ => wpAny (model X.prog X.w) X.A (setFlight e none) (fun _ s₃ =>
    wpAny (model X.prog X.w) X.A (handleBy e X.env [.ExceptHandler (some (.Name x np)) (some n) (b₀ :: suite) pos']) (SP X pins D) X.xe s₃) X.xe s₂) X.xe s₁) (fun u s' xx => ?_) PassesOwn.looking).run [] s σ H D (I.toTry _) h) (fun f s1 hsp => ?_) (fun e s1 he => he)
  · -- the catch
    obtain ⟨a, B, sI, pins', σ', H', cls, d, rfl, J', nb, up, sky, na, os, ag, hb1, hyes⟩ := xx
    have J : Inv X pins σ' H' sI := J'.ofTry ok
    have sky' : Sky B (X.env :: X.outer) a (L2.Zc cls d) X.env.locals s'.heap := by rw [← hs]; exact sky
    show wpAny (model X.prog X.w) X.A (noteFrame (.ref a) X.env) _ _ _
    refine Sky.land Zc.steady hfr hf sky' fun h3 fl3 up3 => ?_
    have J3 : Inv X pins σ' H' { s' with heap := h3 } := J.landed nb fl3.1 (up.trans up3) os ag
    obtain ⟨oe3, vs3, he3, hz3, hd3⟩ := fl3.there
    have notFr : ∀ {h : Heap} {o : Obj} {vs : Array Value}, h.FunFrames B (X.env :: X.outer) → h.get? a = some o → o.data = .fields vs → a ∉ frs (X.env :: X.outer) := fun {h o vs} ff e dd hm => by
      obtain ⟨_, o', e', hnf⟩ := ff.mem hm
      rw [e] at e'; cases e'
      exact hnf _ dd
    have nfr := notFr fl3.2.2.1 he3 hd3
    have nL : a ≠ X.env.locals := fun z => nfr (List.mem_filterMap.mpr ⟨X.env, List.mem_cons_self, by rw [hf, z]⟩)
    have nF : a ∉ X.fs := fun hm => by
      obtain ⟨e, he, q⟩ := List.mem_filterMap.mp hm
      exact nfr (List.mem_filterMap.mpr ⟨e, List.mem_cons_of_mem _ he, q⟩)
    have nB : B.get? a = none := fl3.2.1
    have nS : ∀ b o, sI.heap.get? b = some o → b ∉ frs X.stack → b ≠ a := fun b o e hb z => by
      have q := nb b o e hb
      rw [z, nB] at q; cases q
    have nfr' : a ∉ frs X.stack := by rw [hs]; exact nfr
    have n0 : X.s_0.heap.get? a = none := by
      cases q : X.s_0.heap.get? a with
      | none => rfl
      | some o =>
        obtain ⟨o', e⟩ := J.base.there a o q (by rw [hex]; simp)
        exact absurd rfl (nS a o' e nfr')
    have nP : ∀ p ∈ X.pn ++ pins, p.1 ≠ a := fun p hp => by
      obtain ⟨e, _, l, f, _⟩ := J.pin p hp
      refine nS p.1 p.2 e fun hm => ?_
      rcases List.mem_cons.mp (J.stkSub _ hm) with z | z
      · exact l z
      · exact f z
    have S3 := J3.suite he3 hd3 na nL nF
    refine wpAny_handleBy_cons (codeAny_handlers_test ?_) (by intro q; cases q)
    have LT : PySem.W.Looks (model X.prog X.w) h3 (typeOf (.ref a)) cls := fun A Q E s k q => wpAny_typeOf_ref (k _ _ he3) (by rw [hz3.1]; exact q)
    have LM := PySem.W.exm_one (M := model X.prog X.w) (J3.kIn) LT hb1
    have test : ∀ {Q : Value → Shared → Prop} {E : Value → Shared → Prop}, Q c { s' with heap := h3 } → wpAny (model X.prog X.w) (X.A.mark (some (.ref a))) (eval (.Name x np) X.env) Q E { s' with heap := h3 } := fun {Q E} q => by
      obtain ⟨hg, hdbg, hm | ⟨hm, hv, hnn⟩⟩ := hc
      · exact ld_glob (X := X.suite a ((a, oe3) :: (X.pn ++ pins))) S3 hg hm q hdbg
      · exact ld_blt (X := X.suite a ((a, oe3) :: (X.pn ++ pins))) S3 hg hm hv q hnn hdbg
    refine test (LM.here ?_)
    refine codeAny_handlers_suite_as ?_
    refine HandSPX.lands_againZ fl3 fun h4 fl4 up4 => ?_
    have J4 : Inv X pins σ' H' { s' with heap := h4 } := J.landed nb fl4.1 ((up.trans up3).trans up4) os ag
    obtain ⟨oe4, vs4, he4, hz4, hd4⟩ := fl4.there
    have S4 := J4.suite he4 hd4 na nL nF
    refine store_ok (X := X.suite a ((a, oe4) :: (X.pn ++ pins))) (v := .ref a) S4 hN hi hloc rfl (fun s5 S5 => ?_) (.inr hln)
    refine wpAny_mono ((hsu a oe4 (X.pn ++ pins)).run [] s5 _ H' _ S5 (hyes a oe4 vs4 na J.len hz4 hd4)) (fun f s6 hsp => ?_) (fun _ _ z => False.elim z)
    cases f with
    | next =>
      obtain ⟨σ6, H6, S6, q6⟩ := hsp
      have pa := S6.pin (a, oe4) (List.mem_append_left _ List.mem_cons_self)
      have S7 : Inv X ((a, oe4) :: pins) σ6 H6 s6 := (S6.unsuite ok).pins_of fun p hp => by
        rcases List.mem_cons.mp hp with z | z
        · rw [z]; exact pa
        · exact (S6.unsuite ok).pin p (List.mem_append_right _ z)
      exact gone_ok S7 hN hi hln fun s7 J7 => ⟨_, _, inv_track J7 hd4 n0 nP, q6 pa.2.1⟩
    | brk =>
      obtain ⟨σ6, H6, S6, q6⟩ := hsp
      exact q6.elim
    | cont =>
      obtain ⟨σ6, H6, S6, q6⟩ := hsp
      exact q6.elim
    | ret u =>
      obtain ⟨v6, σ6, H6, S6, r6, q6⟩ := hsp
      exact q6.elim
  · cases f with
    | next =>
      obtain ⟨σ', H', J', q⟩ := hsp
      exact wpAny_execs_nil ⟨σ', H', J'.ofTry ok, q⟩
    | brk =>
      obtain ⟨σ', H', J', q⟩ := hsp
      exact ⟨σ', H', J'.ofTry ok, q⟩
    | cont =>
      obtain ⟨σ', H', J', q⟩ := hsp
      exact ⟨σ', H', J'.ofTry ok, q⟩
    | ret u =>
      obtain ⟨v, σ', H', J', r, q⟩ := hsp
      exact ⟨v, σ', H', J'.ofTry ok, r, q⟩
end
def rIsK (K : PySem.W.Frag) : List V → Hp → VK → Prop := fun xs H Q => ∃ (a D : Addr) (c : V) (cv : Value) (oe : Obj) (φ : Heap → Prop) (b : Bool) (dd : Option Addr), xs = [.ref a, c] ∧ H a = some (.frz oe (.ext φ)) ∧ L2.Zc (.ref D) dd oe ∧ (∀ d, dd = some d → ∃ fs, H d = some (.xd fs)) ∧ (∃ vs, oe.data = .fields vs) ∧ ExcC K D ∧ (∀ u, L2.RelV c u → u = cv) ∧ PySem.W.kitOne K (.ref D) cv = some b ∧ Q (.bl b) H
theorem call_isK {X : Cx} : CallR X (.builtin "isinstance") (rIsK X.K) := by
  intro pins s σ H xs us Q I r h
  obtain ⟨a, D, c, cv, oe, φ, b, dd, rfl, ha, hz, hdd, hf, C, hcv, e, q⟩ := h
  cases r with
  | cons rx rr =>
    cases rr with
    | cons rt rr =>
      cases rr
      cases rx
      have ec := hcv _ rt
      subst ec
      obtain ⟨hget, _⟩ := I.hok a _ ha
      obtain ⟨vs, hv⟩ := hf
      have J : ∃ od, PySem.W.InstAt s.heap a oe D od := by
        cases dd with
        | none =>
          obtain ⟨oc, od, oda, osl⟩ := oe
          obtain ⟨h1, h2⟩ := hz
          dsimp only at h1 h2 hv
          subst h1 h2 hv
          exact ⟨none, hget, rfl, rfl, trivial⟩
        | some d =>
          obtain ⟨fs, hx⟩ := hdd d rfl
          obtain ⟨mA, hns, _⟩ := (show ObjOk X.prog X.w H s.heap d (.xd fs) from I.hok d _ hx)
          obtain ⟨od, ho, _⟩ := lookIn_ns hns
          exact ⟨some od, hget, hz.1, by unfold PySem.W.notCls; rw [hv], by rw [hz.2]; exact ho⟩
      obtain ⟨od, J⟩ := J
      have hcl : (PySem.W.clsIn X.K D).isSome = true := by obtain ⟨cd, hc, _⟩ := PySem.W.any_some C.hd; rw [hc]; rfl
      exact PySem.W.kia_one (PySem.W.kitx_exc hcl C.hg C.hk C.hs C.ha C.hn C.ht C.hm) I.kIn J e (fun z => nomatch z) fun tk => ⟨.bl b, H, I.kept (t' := tk) fun _ _ z => z, rfl, q⟩
end DL
namespace DL
open PySem PySem.Spec PyProof.Rows L2
def cvOf : Val → Option Value
  | .ref C => some (.ref C)
  | .ty n => some (.type n)
  | _ => none
def fIsK (K : PySem.W.Frag) : FA := fun vs h Q => match vs with
  | [.ref a, w] => (match h a with
    | some (.exc D) => ExcC K D ∧ ∃ b cv, cvOf w = some cv ∧ PySem.W.kitOne K (.ref D) cv = some b ∧ Q (.bl b) h
    | some (.excd D _) => ExcC K D ∧ ∃ b cv, cvOf w = some cv ∧ PySem.W.kitOne K (.ref D) cv = some b ∧ Q (.bl b) h
    | _ => False)
  | _ => False
theorem cv_rel {K : PySem.W.Frag} {H : Hp} {h : Hv} {w : Val} {y : V} {cv : Value} (rw' : RV K H h w y) (ec : cvOf w = some cv) : ∀ u, L2.RelV y u → u = cv := by
  intro u hu
  unfold cvOf at ec
  split at ec
  · rw [RV] at rw'; subst rw'; cases ec; exact hu
  · rw [RV] at rw'; subst rw'; cases ec; exact hu
  · cases ec
theorem cl_isK {K : PySem.W.Frag} : CaL K (fIsK K) (rIsK K) := fun vs xs h H Q' Q r rs q c => by
  unfold fIsK at q
  split at q
  · rename_i a w
    obtain ⟨x, y, e, rv, rw'⟩ := rvs2 rs
    rw [RV] at rv
    split at q
    · rename_i D hD
      obtain ⟨oe, φ, e1, z, f⟩ := r a _ hD
      obtain ⟨C, b, cv, ec, ek, q⟩ := q
      refine ⟨a, D, y, cv, oe, φ, b, none, by rw [e, rv], e1, z, (fun _ z => nomatch z), f, C, cv_rel rw' ec, ek, c.val r rv_bl q⟩
    · rename_i D v hD
      obtain ⟨oe, φ, dd, x', e1, z, f, e2, n2, rv2⟩ := r a _ hD
      obtain ⟨C, b, cv, ec, ek, q⟩ := q
      refine ⟨a, D, y, cv, oe, φ, b, some dd, by rw [e, rv], e1, z, (fun d z => by cases z; exact ⟨_, e2⟩), f, C, cv_rel rw' ec, ek, c.val r rv_bl q⟩
    · exact q.elim
  · exact q.elim

section
variable {X : Cx}
def rUpd : V → List V → Hp → VK → Prop := fun x vs H Q => ∃ a b kvs more, x = .ref a ∧ vs = [.ref b] ∧ a ≠ b ∧ H a = some (.dK kvs) ∧ H b = some (.dK more) ∧ kvs.length + more.length ≤ sizeLine ∧ Q .non (upd H a (.dK (mergeK kvs more)))
theorem mt_update : MtR X "dict.update" rUpd := by
  intro pins s σ H x vs v us Q I rx rv h
  obtain ⟨a, b, kvs, more, rfl, rfl, hab, hA, hB, hz, q⟩ := h
  cases rx
  obtain ⟨u, rfl, ru⟩ := rv.one
  cases ru
  obtain ⟨z, hd, vs1, r1, dd⟩ := dk_of I.hok hA
  obtain ⟨z2, hd2, vs2, r2, dd2⟩ := dk_of I.hok hB
  refine call_meetsIn F.slot_dict_update dd.typeIs F.entry_dict_update (F.args_dict_update_2 _ _) (meets_dict_update (mixKind X.prog X.w) a b hab hd2) ⟨vs1, vs2, dd, dd2, by rw [← r1.length, ← r2.length]; exact hz, fun h' dd' _ hs => ⟨.non, _, ?_, rfl, q⟩⟩
  have he : ∃ q, h'.get? a = some q := let ⟨q, _, _, hq, _⟩ := dd'; ⟨q, hq⟩
  exact d_write I (by rw [hA]; exact True.intro) hs he (dk_new (by have := length_mergeK more kvs; omega) hd (r2.merge r1) dd')
end
def fUpd : FM := fun v ws h Q => match v, ws with
  | .ref a, [.ref b] => (match h a, h b with
    | some (.dK kvs), some (.dK more) => a ≠ b ∧ kvs.length + more.length ≤ sizeLine ∧ Q .non (put h a (.dK (mergeA kvs more)))
    | _, _ => False)
  | _, _ => False
theorem ml_update {K : PySem.W.Frag} : MtL K fUpd rUpd := fun v ws x ys h H Q' Q r rv rs q c => by
  unfold fUpd at q
  split at q
  · rename_i a b
    obtain ⟨y, e, rw'⟩ := rvs1 rs
    rw [RV] at rv rw'
    split at q
    · rename_i kvs more h1 h2
      obtain ⟨xs, e1, r1⟩ := r a _ h1
      obtain ⟨ys, e2, r2⟩ := r b _ h2
      have nb : Ob.dK kvs ≠ .busy := fun z => nomatch z
      have s : Step h H (put h a (.dK (mergeA kvs more))) (upd H a (.dK (mergeK xs ys))) := Step.write h1 nb
      exact ⟨a, b, xs, ys, rv, by rw [e, rw'], q.1, e1, e2, by rw [← r1.len, ← r2.len]; exact q.2.1, c _ _ _ _ q.2.2 s rv_non (r.write h1 nb ⟨_, upd_same, (merge_rel r2 r1).step s⟩)⟩
    · exact q.elim
  · exact q.elim

def keyV : Key → Val
  | .inl i => .int i
  | .inr x => .str x
def dKeys (de : ED) : ID := fun ρ h Q E => de ρ h (fun v h1 => match v with
  | .ref d => (match h1 d with
    | some (.dK kvs) => ∀ o xs, Q ⟨kvs.map fun p => keyV p.1, fun h2 => h2 d = some (.dF o xs kvs)⟩ (put h1 d (.dF o xs kvs))
    | some (.dF o xs kvs) => Q ⟨kvs.map fun p => keyV p.1, fun h2 => h2 d = some (.dF o xs kvs)⟩ h1
    | _ => False)
  | _ => False) E
theorem RKs.keys {K : PySem.W.Frag} {H : Hp} {h : Hv} : ∀ {kvs : List (Key × Val)} {xs : List (Key × V)}, RKs K H h kvs xs → kvs.map (·.1) = xs.map (·.1)
  | [], xs, r => by rw [show xs = [] from r]; rfl
  | (k, v) :: kvs, xs, r => by
    obtain ⟨y, ys, e, _, r2⟩ := r
    rw [e, List.map_cons, List.map_cons, RKs.keys r2]
theorem itk_rel {K : PySem.W.Frag} {h : Hv} {H : Hp} {d : Addr} {o : Obj} {xs : List (Key × V)} {kvs : List (Key × Val)} : ItRel K ⟨kvs.map fun p => keyV p.1, fun h2 => h2 d = some (.dF o xs kvs)⟩ (Itk d o xs) h H := fun h2 H2 s2 r2 o2 => by
  obtain ⟨e1, rs⟩ := r2 d _ o2
  have hl : (kvs.map fun p => keyV p.1).length = xs.length := by rw [List.length_map, rs.len]
  refine ⟨fun i v hv => ?_, e1, by rw [hl]; exact Nat.le_refl _⟩
  rw [List.getElem?_map] at hv
  obtain ⟨p, hp, ev⟩ := Option.map_eq_some_iff.mp hv
  have hi : i < xs.length := by
    rw [← rs.len]
    exact (List.getElem?_eq_some_iff.mp hp).1
  refine ⟨⟨e1, hi⟩, fun y H3 hy => ?_⟩
  obtain ⟨e3, k, v', hk, ey⟩ := hy
  subst e3
  refine ⟨Step.refl _ _, r2, ?_⟩
  have hk1 : (xs.map (·.1))[i]? = some k := by rw [List.getElem?_map, hk]; rfl
  rw [← rs.keys, List.getElem?_map, hp] at hk1
  have : p.1 = k := Option.some.inj hk1
  rw [← ev, ey, this]
  cases k with
  | inl i => show RV K H3 h2 (.int i) (.int i); rw [RV]
  | inr z => show RV K H3 h2 (.str z) (.str z); rw [RV]
theorem pi_keysL {X : Cx} {tg e : Expr} {td : TE} (he : PE X e td) : PI X tg e (fun σ H R => td σ H fun x H1 => ∃ d kvs, x = .ref d ∧ ((∃ o, H1 d = some (.frz o (.dK kvs)) ∧ R (Itk d o kvs) H1) ∨ (H1 d = some (.dK kvs) ∧ ∀ o, R (Itk d o kvs) (upd H1 d (.frz o (.dK kvs)))))) := by
  refine ⟨fun pins s σ H R I h => ?_⟩
  refine thn (he.run pins s σ H _ I h) fun u s1 ⟨x, H1, I1, rx, d, kvs, ex, q⟩ => ?_
  subst ex
  obtain rfl : u = Value.ref d := rx
  rcases q with ⟨o, hd, q⟩ | ⟨hd, q⟩
  · obtain ⟨hs, hgd, hx, es, ep, vs, hdt, hsz, kv, hm⟩ := I1.frzK hd
    refine iter_keys hs hgd hx hdt (pi_one (tk := s1.toks) I1 _ (turn_keys _ hdt) ⟨_, Heap.get?_push_size _ rfl, rfl, ?_⟩ q)
    rw [hsz] <;> rfl
  · obtain ⟨od, I2⟩ := I1.lock hd True.intro
    obtain ⟨hs, hgd, hx, es, ep, vs, hdt, hsz, kv, hm⟩ := I2.frzK upd_same
    refine iter_keys hs hgd hx hdt (pi_one (tk := s1.toks) I2 _ (turn_keys _ hdt) ⟨_, Heap.get?_push_size _ rfl, rfl, ?_⟩ (q od))
    rw [hsz] <;> rfl
theorem di_keys {X : Cx} {B : Bs} {tg e : Expr} {de : ED} (he : DE X B e de) : DI X B tg e (dKeys de) :=
  PIi (pi_keysL he) fun σ H R ⟨ρ, h, Q', S, q, C⟩ => ⟨ρ, h, _, S, q, fun v h1 x H1 q1 s1 rv1 r1 => by
    split at q1
    · rename_i d
      rw [RV] at rv1
      split at q1
      · rename_i kvs hk
        obtain ⟨xs, e1, rs⟩ := r1 d _ hk
        refine ⟨d, xs, rv1, .inr ⟨e1, fun o => ?_⟩⟩
        have nb : Ob.dK kvs ≠ .busy := fun z => nomatch z
        have s : Step h1 H1 (put h1 d (.dF o xs kvs)) (upd H1 d (.frz o (.dK xs))) := Step.write hk nb
        exact C _ _ _ _ (q1 o xs) (s1.trans s) (r1.write hk nb ⟨upd_same, rs.step s⟩) itk_rel
      · rename_i o xs kvs hk
        obtain ⟨e1, rs⟩ := r1 d _ hk
        exact ⟨d, xs, rv1, .inl ⟨o, e1, C _ _ _ _ q1 s1 r1 itk_rel⟩⟩
      · exact q1.elim
    · exact q1.elim⟩

theorem de_gref {X : Cx} {B : Bs} {x : Str} {C : Addr} {pos : Pos} (hg : Gl X x) (hm : X.mg x = some (.ref C)) (hd : (x == ("__debug__" : Str)) = false := by decide) : DE X B (.Name x pos) (dC (.ref C)) :=
  PEi (pe_glob (v := .ref C) hg hm rfl hd) fun σ H Q ⟨ρ, h, Q', S, q, C⟩ => C.val S.r (by rw [RV]) q
structure XcR (K : PySem.W.Frag) (mg : Str → Option Value) (x : Str) : Prop where
  ex : ∃ C, mg x = some (.ref C) ∧ PySem.W.excIn K C [.type "ValueError", .type "Exception", .type "BaseException", .type "object"] "ValueError.__new__" = true ∧ PySem.W.keepIn K (.ref C) = true ∧ PySem.W.subIn K (.ref C) (.type "BaseException") = some true ∧ PySem.W.typeIn K (.ref C) = some (.type "type")
@[simp] def sRaise (x : Str) : SD := fun ρ h _ E => E x none ρ h
theorem ds_raise {X : Cx} {B : Bs} {x m : Str} {j : Nat} {p p2 pos pos' : Pos} (c : XcR X.K X.mg x) (tk : TakesB X B) (hc : X.calm = true := by rfl) (hg : Gl X x := by rfl) (hdb : (x == ("__debug__" : Str)) = false := by decide) :
    DS X B (.Raise (some (.Call (.Name x p) [.Constant (.str m) j p2] [] pos)) none pos') (sRaise x) := by
  obtain ⟨C, hm, q, k, h1, h2⟩ := c.ex
  exact PSi (ps_raise hc tk (pmk_own PySem.F.excBase_ValueError q hm k (raises_own h1 h2) hg hdb)) fun D σ H ⟨ρ, h, D', S, z, c⟩ => ⟨x, none, ρ, h, hm, S, .inl ⟨rfl, rfl⟩, z⟩
end DL
namespace DL
open PySem PySem.Spec PyProof.Rows L2
section
variable {K : PySem.W.Frag} {H H1 : Hp} {h : Hv} {P : Addr} {q : Str}
theorem ro_nt {a : Addr} {o : Ob} (r : RO K H h a o) (n : ∀ q, o ≠ .tab q) {u : HO} (e : H a = some u) : NT u := by
  cases o with
  | lst vs => obtain ⟨_, e1, _⟩ := r; rw [e] at e1; cases e1; exact fun _ z => nomatch z
  | dK vs => obtain ⟨_, e1, _⟩ := r; rw [e] at e1; cases e1; exact fun _ z => nomatch z
  | dT vs => obtain ⟨_, e1, _⟩ := r; rw [e] at e1; cases e1; exact fun _ z => nomatch z
  | ins C fs => obtain ⟨_, _, e1, _⟩ := r; rw [e] at e1; cases e1; exact fun _ z => nomatch z
  | dF o xs kvs => have e1 := r.1; rw [e] at e1; cases e1; exact fun _ z => nomatch z
  | dFT o xs kvs => have e1 := r.1; rw [e] at e1; cases e1; exact fun _ z => nomatch z
  | exc C => obtain ⟨_, _, e1, _⟩ := r; rw [e] at e1; cases e1; exact fun _ z => nomatch z
  | excd C v => obtain ⟨_, _, _, _, e1, _⟩ := r; rw [e] at e1; cases e1; exact fun _ z => nomatch z
  | tab q => exact absurd rfl (n q)
  | dN w kvs => obtain ⟨_, e1, _⟩ := r; rw [e] at e1; cases e1; exact fun _ z => nomatch z
  | busy =>
    obtain ⟨_, e1, f⟩ := r; rw [e] at e1; cases e1
    rcases f with ⟨_, z⟩ | ⟨_, z⟩ <;> subst z <;> exact fun _ z => nomatch z
theorem dno_code {w : World} {c : Addr} {xs : List NE} {q : Str} : DNO w c xs ≠ LamX.CodeO c q := fun e => by
  unfold DNO LamX.CodeO at e
  have e := congrFun (HO.ext.inj e) ⟨Array.replicate (c + 1) { cls := .none, data := .fields #[.none, .str q 0] }, {}⟩
  have g : Heap.get? ⟨Array.replicate (c + 1) { cls := .none, data := .fields #[.none, .str q 0] }, {}⟩ c = some { cls := .none, data := .fields #[.none, .str q 0] } := by
    unfold Heap.get?
    simp
  have p : DNp w c xs ⟨Array.replicate (c + 1) { cls := .none, data := .fields #[.none, .str q 0] }, {}⟩ := by
    rw [e]
    exact ⟨_, _, 0, g, rfl, rfl⟩
  obtain ⟨_, _, _, _, o, _, _, h1, _, h3, _⟩ := p
  rw [g] at h1
  cases h1
  cases h3
theorem ro_noext {a : Addr} {o : Ob} (r : RO K H h a o) {q : Str} : H a ≠ some (LamX.CodeO a q) := fun e => by
  cases o with
  | lst vs => obtain ⟨_, e1, _⟩ := r; rw [e] at e1; cases e1
  | dK vs => obtain ⟨_, e1, _⟩ := r; rw [e] at e1; cases e1
  | dT vs => obtain ⟨_, e1, _⟩ := r; rw [e] at e1; cases e1
  | ins C fs => obtain ⟨_, _, e1, _⟩ := r; rw [e] at e1; cases e1
  | dF o xs kvs => have e1 := r.1; rw [e] at e1; cases e1
  | dFT o xs kvs => have e1 := r.1; rw [e] at e1; cases e1
  | exc C => obtain ⟨_, _, e1, _⟩ := r; rw [e] at e1; cases e1
  | excd C v => obtain ⟨_, _, _, _, e1, _⟩ := r; rw [e] at e1; cases e1
  | tab q => obtain ⟨_, e1, _⟩ := r; rw [e] at e1; cases e1
  | dN w kvs => obtain ⟨_, e1, _⟩ := r; rw [e] at e1; exact dno_code (Option.some.inj e1).symm
  | busy =>
    obtain ⟨_, e1, f⟩ := r; rw [e] at e1; cases e1
    rcases f with ⟨_, z⟩ | ⟨_, z⟩ <;> cases z
theorem ro_some {a : Addr} {o : Ob} (r : RO K H h a o) : ∃ u, H a = some u := by
  cases o with
  | lst vs => obtain ⟨_, e1, _⟩ := r; exact ⟨_, e1⟩
  | dK vs => obtain ⟨_, e1, _⟩ := r; exact ⟨_, e1⟩
  | dT vs => obtain ⟨_, e1, _⟩ := r; exact ⟨_, e1⟩
  | ins C fs => obtain ⟨_, _, e1, _⟩ := r; exact ⟨_, e1⟩
  | dF o xs kvs => exact ⟨_, r.1⟩
  | dFT o xs kvs => exact ⟨_, r.1⟩
  | exc C => obtain ⟨_, _, e1, _⟩ := r; exact ⟨_, e1⟩
  | excd C v => obtain ⟨_, _, _, _, e1, _⟩ := r; exact ⟨_, e1⟩
  | tab q => obtain ⟨_, e1, _⟩ := r; exact ⟨_, e1⟩
  | dN w kvs => obtain ⟨_, e1, _⟩ := r; exact ⟨_, e1⟩
  | busy => obtain ⟨_, e1, f⟩ := r; exact ⟨_, e1⟩
end
structure Tbs (Ts : List (Addr × Str)) (h : Hv) : Prop where
  has : ∀ p ∈ Ts, h p.1 = some (.tab p.2)
  all : ∀ b q, h b = some (.tab q) → (b, q) ∈ Ts
section
variable {K : PySem.W.Frag} {H H1 : Hp} {h : Hv} {Ts : List (Addr × Str)}
theorem Tbs.tabs (t : Tbs Ts h) (r : RH K H h) : LamX.Tabs Ts H := fun p hp => by
  obtain ⟨ps, e, k, z⟩ := r p.1 _ (t.has p hp)
  exact ⟨ps, e, k, fun pos cv hc => let ⟨c, e1, e2, _⟩ := z pos cv hc; ⟨c, e1, e2⟩⟩
theorem Tbs.uniq (t : Tbs Ts h) {P : Addr} {q : Str} (m : (P, q) ∈ Ts) : ∀ p ∈ Ts, p.1 = P → p.2 = q := fun p hp e => by
  have a := t.has p hp
  have b := t.has _ m
  rw [e, b] at a
  cases a
  rfl
theorem Tbs.step (t : Tbs Ts h) (r : RH K H h) (e : LamX.ExtN H H1) (T : LamX.Tabs Ts H1) : RH K H1 h ∧ Step h H h H1 := by
  have s : Step h H h H1 := ⟨fun a o ha hn n => ⟨e a o ha n, hn⟩, fun a o ha hn => ⟨e a o ha (ro_nt (r a _ hn) (fun _ z => nomatch z) ha), hn⟩⟩
  refine ⟨fun a o ha => ?_, s⟩
  have ra := r a o ha
  by_cases n : ∃ q', o = .tab q'
  · obtain ⟨q', rfl⟩ := n
    obtain ⟨ps, e1, k, z⟩ := T (a, q') (t.all a q' ha)
    refine ⟨ps, e1, k, fun pos cv hc => ?_⟩
    obtain ⟨c, e2, e3⟩ := z pos cv hc
    refine ⟨c, e2, e3, ?_⟩
    cases hx : h c with
    | none => rfl
    | some ob =>
      have rc := r c ob hx
      by_cases m : ∃ q', ob = .tab q'
      · obtain ⟨q2, rfl⟩ := m
        obtain ⟨ps2, e4, _⟩ := T (c, q2) (t.all c q2 hx)
        have e4 : H1 c = some (.tbl ps2) := e4
        rw [e4] at e3
        exact absurd (Option.some.inj e3).symm (LamX.codeO_ne _)
      · obtain ⟨u, hu⟩ := ro_some rc
        have := e c u hu (ro_nt rc (fun q' z => m ⟨q', z⟩) hu)
        rw [this] at e3
        rw [Option.some.inj e3] at hu
        exact absurd hu (ro_noext rc)
  · exact ra.stepN s.n fun u hu => e a u hu (ro_nt ra (fun q' z => n ⟨q', z⟩) hu)
theorem Tbs.put {p : Addr} {o : Ob} (x : Tbs Ts h) (e : h p = none) (n : ∀ q, o ≠ .tab q) : Tbs Ts (DL.put h p o) := by
  refine ⟨fun a ha => ?_, fun b q hb => ?_⟩
  · have := x.has a ha
    rw [put_ne (fun z => by rw [z, e] at this; cases this)]; exact this
  · by_cases z : b = p
    · subst z; rw [put_same] at hb; exact absurd (Option.some.inj hb) (n q)
    · rw [put_ne z] at hb; exact x.all b q hb
theorem Tbs.write {p : Addr} {o u : Ob} (x : Tbs Ts h) (e : h p = some u) (nu : ∀ q, u ≠ .tab q) (n : ∀ q, o ≠ .tab q) : Tbs Ts (DL.put h p o) := by
  refine ⟨fun a ha => ?_, fun b q hb => ?_⟩
  · have := x.has a ha
    rw [put_ne (fun z => by rw [z, e] at this; exact nu _ (Option.some.inj this))]; exact this
  · by_cases z : b = p
    · subst z; rw [put_same] at hb; exact absurd (Option.some.inj hb) (n q)
    · rw [put_ne z] at hb; exact x.all b q hb
theorem Tbs.drop {p : Addr} {u : Ob} (x : Tbs Ts h) (e : h p = some u) (nu : ∀ q, u ≠ .tab q) : Tbs Ts (DL.drop h p) := by
  refine ⟨fun a ha => ?_, fun b q hb => ?_⟩
  · have := x.has a ha
    rw [drop_ne (fun z => by rw [z, e] at this; exact nu _ (Option.some.inj this))]; exact this
  · by_cases z : b = p
    · subst z; rw [drop_same] at hb; cases hb
    · rw [drop_ne z] at hb; exact x.all b q hb
end
structure HCls (K : PySem.W.Frag) (mg : Str → Option Value) (cs : Str → Addr) (rs : List Str) : Prop where
  mg : ∀ x ∈ (["CountError", "NotOf", "NoLand", "NoPath", "TooMany", "NoClaims", "NoThing", "NoWorth", "BadBook", "NoBack", "NoText"] : List Str), mg x = some (.ref (cs x))
  ec : ∀ x ∈ rs, ExcC K (cs x)
  ex : ∀ x ∈ rs, PySem.W.exmOne K (.ref (cs x)) (.ref (cs "CountError")) = some true
  kt : ∀ x ∈ rs, ∀ y ∈ (["NotOf", "NoLand", "NoPath", "TooMany", "NoClaims", "NoThing", "NoWorth", "BadBook", "NoBack", "NoText"] : List Str), PySem.W.kitOne K (.ref (cs x)) (.ref (cs y)) = some (decide (x = y))
  ve : ∀ x ∈ rs, PySem.W.kitOne K (.ref (cs x)) (.type "ValueError") = some true
  sub : ∀ x ∈ rs, x ∈ (["NoLand", "NoPath", "TooMany", "NoClaims", "NoThing", "NoWorth", "BadBook", "NoBack", "NoText"] : List Str)
def heardW (x : Str) : Str :=
  if x = "NoLand" then "no land" else if x = "NoPath" then "no path" else if x = "TooMany" then "too many" else if x = "NoClaims" then "no claims" else if x = "NoThing" then "no thing" else if x = "NoWorth" then "no worth" else if x = "BadBook" then "no book" else if x = "NoBack" then "no back" else "no text"
abbrev NH : List Str := ["deed", "refused", "found", "e", "some", "names", "word"]
structure HTail (K : PySem.W.Frag) (cs : Str → Addr) (rs : List Str) (den : SD) : Prop where
  told : ∀ v h D E, D.rt (.tup [.str "told", v]) h → den [none, some .non, some v, none, none, none, none] h D E
  exc : ∀ nm a h D E, nm ∈ rs → h a = none → (∀ h2, Lss h2 h → D.rt (.tup [.str (heardW nm)]) h2) → den [none, some (.ref a), none, none, none, none, none] (put h a (.exc (cs nm))) D E
section
variable {X : Cx} {sg : Scope} {g : Addr} {cdg : Value} {q : Str} {cs : Str → Addr} {rs : List Str} {den : SD} {s1 : Stmt} {rest : List Stmt} {p1 p2 p3 p4 p5 p6 p7 p8 p9 p10 p11 : Pos}
theorem pe_mono {X : Cx} {e : Expr} {t : TE} (p : PE X e t) : PE X e (fun σ H Q => ∃ Qx : VK, t σ H Qx ∧ ∀ x H', Qx x H' → Q x H') :=
  ⟨fun pins s σ H Q I ⟨Qx, h, m⟩ => wpAny_mono (p.run pins s σ H Qx I h) (fun v s' ⟨x, H', I', r, q⟩ => ⟨x, H', I', r, m x H' q⟩) fun e s' z => z⟩
end
end DL
namespace DL
open PySem PySem.Spec PyProof.Rows L2
abbrev lamQ (n : Str) : Str := (n ++ ".<locals>.") ++ "<lambda>"
abbrev LQ : Str := lamQ "law"
structure Gx where
  ns : List Str
  T : Str → Addr
  C : Str → Addr
  w : World
def Gx.Ts (G : Gx) : List (Addr × Str) := G.ns.map fun n => (G.T n, lamQ n)
theorem Gx.mem {G : Gx} {n : Str} (h : n ∈ G.ns) : (G.T n, lamQ n) ∈ G.Ts := List.mem_map.mpr ⟨n, h, rfl⟩
end DL
namespace DL
open PySem PySem.Spec PyProof.Rows L2
section
variable {K : PySem.W.Frag} {H : Hp} {h : Hv}
end
end DL
namespace DL
open PySem PySem.Spec PyProof.Rows L2
def putFA (f : Str) (v : Val) : List (Str × Val) → List (Str × Val)
  | [] => [(f, v)]
  | (g, x) :: r => if g = f then (g, v) :: r else (g, x) :: putFA f v r
section
variable {K : PySem.W.Frag} {H : Hp} {h : Hv}
theorem RKs.look {f : Str} : ∀ {fs : List (Str × Val)} {xs : List (Str × V)}, RKs K H h fs xs → (fs.lookup f = none ∧ xs.lookup f = none) ∨ ∃ v x, fs.lookup f = some v ∧ xs.lookup f = some x ∧ RV K H h v x
  | [], xs, r => by rw [show xs = [] from r]; exact .inl ⟨rfl, rfl⟩
  | (g, v) :: fs, xs, r => by
    obtain ⟨y, ys, e, r1, r2⟩ := r
    subst e
    rw [List.lookup_cons, List.lookup_cons]
    cases f == g with
    | true => exact .inr ⟨v, y, rfl, rfl, r1⟩
    | false => exact RKs.look r2
theorem RKs.putF {f : Str} {v : Val} {y : V} (rv : RV K H h v y) : ∀ {fs : List (Str × Val)} {xs : List (Str × V)}, RKs K H h fs xs → RKs K H h (putFA f v fs) (L2.putF f y xs)
  | [], xs, r => by rw [show xs = [] from r]; exact ⟨y, [], rfl, rv, rfl⟩
  | (g, u) :: fs, xs, r => by
    obtain ⟨z, ys, e, r1, r2⟩ := r
    subst e
    unfold putFA L2.putF
    by_cases hg : g = f
    · rw [if_pos hg, if_pos hg]; exact ⟨y, ys, rfl, rv, r2⟩
    · rw [if_neg hg, if_neg hg]; exact ⟨z, _, rfl, r1, RKs.putF rv r2⟩
end
section
variable {X : Cx} {B : Bs} {o e : Expr} {es : List Expr} {d dv : ED} {aa : AD} {f m x : Str} {C : Addr} {pos pos' apos p : Pos}
@[simp] def dFld (C : Addr) (f : Str) (d : ED) : ED := fun ρ h Q E => d ρ h (fun v h1 => match v with
  | .ref a => (match h1 a with
    | some (.ins C' fs) => C' = C ∧ (match fs.lookup f with
      | some u => Q u h1
      | none => False)
    | _ => False)
  | _ => False) E
theorem de_fld (c : Cls X.K C) (n : NoAttr X.K C f) (ho : DE X B o d) (hb : attributeBase o f X.env (eval o X.env) = eval o X.env := by rfl) : DE X B (.Attribute o f pos) (dFld C f d) :=
  PEi (pe_fld ho hb) fun σ H Q ⟨ρ, h, Q', S, q, Cn⟩ => ⟨ρ, h, _, S, q, fun v h1 x H1 q1 s1 rv1 r1 => by
    split at q1
    · rename_i a
      rw [RV] at rv1
      split at q1
      · rename_i C' fs ha
        obtain ⟨rfl, q1⟩ := q1
        obtain ⟨dx, xs, e1, e2, n2, rs⟩ := r1 a _ ha
        split at q1
        · rename_i u hu
          rcases rs.look (f := f) with ⟨z, _⟩ | ⟨v, y, l1, l2, ry⟩
          · rw [hu] at z; cases z
          · rw [hu] at l1; cases l1
            exact ⟨a, _, dx, xs, y, rv1, e1, c, n, l2, (Cn.trans s1).val r1 ry q1⟩
        · exact q1.elim
      · exact q1.elim
    · exact q1.elim⟩
@[simp] def sFldA (C : Addr) (f : Str) (d dv : ED) : SD := fun ρ h D E => dv ρ h (fun v h1 => d ρ h1 (fun o h2 => match o with
  | .ref a => (match h2 a with
    | some (.ins C' fs) => C' = C ∧ fs.length < 1000 ∧ D.nx ρ (put h2 a (.ins C (putFA f v fs)))
    | _ => False)
  | _ => False) E) E
theorem ds_fld {value : Expr} (c : Cls X.K C) (n : NoAttr X.K C f) (ho : DE X B o d) (hv : DE X B value dv) (hs : swapsWith value (some (.Attribute o f pos')) pos.line X.env = pure false := by rfl) : DS X B (.Assign [.Attribute o f pos'] value pos) (sFldA C f d dv) :=
  PSi (ps_fld ho hv hs) fun D σ H ⟨ρ, h, D', S, q, Cn⟩ => ⟨ρ, h, _, S, q, fun v h1 y H1 q1 s1 rv1 r1 => ⟨ρ, h1, _, S.step s1 r1, q1, fun ov h2 x H2 q2 s2 rv2 r2 => by
    split at q2
    · rename_i a
      rw [RV] at rv2
      split at q2
      · rename_i C' fs ha
        obtain ⟨rfl, fl, q2⟩ := q2
        obtain ⟨dx, xs, e1, e2, n2, rs⟩ := r2 a _ ha
        have nb : Ob.ins C' fs ≠ .busy := fun z => nomatch z
        have st : Step h2 H2 (put h2 a (.ins C' (putFA f v fs))) (upd H2 a (.ins C' dx (L2.putF f y xs))) := Step.write ha nb
        have ne : dx ≠ a := fun z => by rw [z, e1] at e2; cases e2
        have r3 : RH X.K (upd H2 a (.ins C' dx (L2.putF f y xs))) (put h2 a (.ins C' (putFA f v fs))) := r2.write ha nb ⟨dx, _, upd_same, by rw [upd_ne ne]; exact e2, by rw [put_ne ne]; exact n2, (rs.putF (rv1.step s2)).step st⟩
        exact ⟨a, _, dx, xs, rv2, e1, c, n, by rw [← rs.len]; exact fl, Cn.nx _ _ _ _ q2 (s1.trans (s2.trans st)) (S.step (s1.trans (s2.trans st)) r3)⟩
      · exact q2.elim
    · exact q2.elim⟩⟩
@[simp] def dMeth (C : Addr) (m : Str) (n : Nat) (fs : SpF) (d : ED) (aa : AD) : ED := fun ρ h Q E => d ρ h (fun v h1 => match v with
  | .ref a => (match h1 a with
    | some (.ins C' fl) => C' = C ∧ fl.lookup m = none ∧ aa ρ h1 (fun vs h2 => vs.length + 1 = n ∧ fs (.ref a :: vs) h2 Q (fun nm pl h' => E nm pl ρ h')) E
    | _ => False)
  | _ => False) E
def MtF (P : Program) (w : World) (K : PySem.W.Frag) (mg : Str → Option Value) (base : Heap) (A : Around) (C : Addr) (m : Str) (n : Nat) (fs : SpF) : Prop :=
  ∃ (k : Nat) (f : Addr) (fd : FuncData) (ps : List Str), FnOk P w K mg base (L2.CX P w) k f fd ps (spA K mg n fs) ∧ Room k A ∧ Meth K C m f ∧ L2.Binds K fd ps []
theorem de_meth {n : Nat} {fs : SpF} {pl : Sem Bool} (c : Cls X.K C) (F : MtF X.prog X.w X.K X.mg X.base X.A C m n fs) (tk : TakesB X B) (ho : DE X B o d) (ha : DA X B (e :: es) aa)
    (hst : starEach (e :: es) X.env = (false, eval e X.env) :: starEach es X.env := by rfl) (hpl : (backTo pos (starEach es X.env)).any (·.1) = false := by rfl)
    (ht : eval (.Call (.Attribute o m apos) (e :: es) [] pos) X.env = (do
      let ov ← eval o X.env
      standAt apos.atName
      let (f, first) ← holding [ov] (getMethod ov m pl)
      callWith pos f first (backTo pos (starEach (e :: es) X.env)) (backToKw pos (keywordEach [] X.env))) := by rfl) :
    DE X B (.Call (.Attribute o m apos) (e :: es) [] pos) (dMeth C m n fs d aa) := by
  obtain ⟨k, f, fd, ps, G, hr, hm, hb⟩ := F
  refine ⟨fun pins s σ H Q I ⟨ρ, h, Q', S, q, Cn⟩ => ?_⟩
  refine PySem.W.methodCall_KW (pl := pl) (thn (ho.run pins s σ H (fun x H1 => ∃ a dx xs, x = .ref a ∧ H1 a = some (.ins C dx xs) ∧ xs.lookup m = none ∧ rdA X.K B aa σ H1 fun vs H2 => spA X.K X.mg n fs (x :: vs) H2 Q (WE (wx X.mg X.K B) σ)) I ⟨ρ, h, _, S, q, fun v h1 x H1 q1 s1 rv1 r1 => ?_⟩) fun u s1 ⟨x, H1, I1, rx, a, dx, xs, ex, ea, l, q⟩ => ?_) ht
  · split at q1
    · rename_i a
      rw [RV] at rv1
      split at q1
      · rename_i C' fl hfl
        obtain ⟨rfl, hl, q1⟩ := q1
        obtain ⟨dx, xs, e1, e2, n2, rs⟩ := r1 a _ hfl
        have l2 : xs.lookup m = none := by
          rcases rs.look (f := m) with ⟨_, z⟩ | ⟨v, y, l1, _⟩
          · exact z
          · rw [hl] at l1; cases l1
        refine ⟨a, dx, xs, rv1, e1, l2, ρ, h1, _, S.step s1 r1, q1, fun vs h2 ys H2 q2 s2 rv2 r2 => ?_⟩
        refine ⟨.ref a :: vs, h2, Q', fun nm pl h' => B.E nm pl ρ h', RVs.cons (by rw [RV]; exact rv1) rv2, r2, q2.1, q2.2, Cn.trans (s1.trans s2), fun nm pl h' cls dd H' hE s3 r3 hm pld => ⟨nm, pl, ρ, h', hm, S.step (s1.trans (s2.trans s3)) r3, pld, hE⟩⟩
      · exact q1.elim
    · exact q1.elim
  · subst ex
    obtain rfl : u = Value.ref a := rx
    refine getmeth_ok I1 ea c hm l ?_
    refine PySem.W.callWith_K (first := [.ref a]) (h₀ := X.base) I.ok.mod.kin hm.kp (thn (ha.run pos pins s1 σ H1 _ I1 q) fun us s2 ⟨vs, H2, I2, r, q2⟩ => ⟨I2.kIn, ?_⟩) hst hpl
    exact run_fnS (us := .ref a :: us) (vs := .ref a :: vs) (E := WE (wx X.mg X.K B)) G hr hb (passAt tk σ) I2 (.cons rfl r) q2
@[simp] def dNew (C : Addr) (n : Nat) (fs : SpF) (aa : AD) : ED := fun ρ h Q E => aa ρ h (fun vs h1 => ∀ a, h1 a = none → vs.length + 1 = n ∧ fs (.ref a :: vs) (put h1 a (.ins C [])) (fun v h2 => v = .non ∧ Q (.ref a) h2) (fun nm pl h' => E nm pl ρ h')) E
theorem run_makeS {CX : CXT} {k : Nat} {f : Addr} {fd : FuncData} {ps : List Str} {sp : Sp} {E : XK} {pins : List (Addr × Obj)} {σ : L2.St} {H : Hp} {s : Shared} {Q : VK} {us : List Value} {vs : List V} (M : Mk X.K C f) (F : FnOk X.prog X.w X.K X.mg X.base CX k f fd ps sp) (hr : Room (k + 1) X.A) (hb : L2.Binds X.K fd ps [])
    (hx : PassesAt CX X σ E) (I : Inv X pins σ H s) (r : Vals vs us)
    (h : ∀ x dx, H x = none → H dx = none → dx ≠ x → sp (.ref x :: vs) (upd (upd H dx (.own x)) x (.ins C dx [])) (fun v H2 => v = .non ∧ Q (.ref x) H2) E) :
    wpAny (model X.prog X.w) X.A (call (.ref C) us) (EP X pins σ Q) X.xe s := by
  have hq := h (s.heap.objs.size + 1) s.heap.objs.size (I.hok.fresh (Nat.le_succ _)) (I.hok.fresh (Nat.le_refl _)) (Nat.ne_of_lt (Nat.lt_succ_self _))
  have I2 := Inv.made (C := C) I
  have r2 : Vals (V.ref (s.heap.objs.size + 1) :: vs) (Value.ref (s.heap.objs.size + 1) :: us) := .cons rfl r
  have hl : (Value.ref (s.heap.objs.size + 1) :: us ++ []).length = ps.length := by
    have e := r2.length
    rw [F.len _ _ _ _ hq] at e
    rw [List.append_nil]
    exact e.symm
  have b := hb _ (Value.ref (s.heap.objs.size + 1) :: us) I2.kIn hl
  rw [List.append_nil] at b
  refine wpAny_call (make_map (f := f) I.kIn M.makes M.init (beq_iff_eq.mp M.fn) (codeAny_mono (F.run _ X.stack _ _ ⟨Value.ref (s.heap.objs.size + 1) :: us, []⟩ (Value.ref (s.heap.objs.size + 1) :: us) _ _ E (hr.make C us [])
    (I2.env0.make C us []) b r2 hq) fun r s' hq' => ?_))
  cases r with
  | error e => exact hx pins _ _ e s' I2 hq'
  | ok fl =>
    cases fl with
    | ret u =>
      obtain ⟨v, H', I3, rv, ev, q3⟩ := I2.after hq'
      subst ev
      exact ⟨rv, ⟨V.ref (s.heap.objs.size + 1), H', I3, rfl, q3⟩⟩
    | next => exact False.elim hq'
    | brk => exact False.elim hq'
    | cont => exact False.elim hq'
def MkF (P : Program) (w : World) (K : PySem.W.Frag) (mg : Str → Option Value) (base : Heap) (A : Around) (x : Str) (C : Addr) (n : Nat) (fs : SpF) : Prop :=
  ∃ (k : Nat) (f : Addr) (fd : FuncData) (ps : List Str), FnOk P w K mg base (L2.CX P w) k f fd ps (spA K mg n fs) ∧ Room (k + 1) A ∧ Mk K C f ∧ mg x = some (.ref C) ∧ L2.Binds K fd ps []
theorem de_new {n : Nat} {fs : SpF} (F : MkF X.prog X.w X.K X.mg X.base X.A x C n fs) (tk : TakesB X B) (ha : DA X B (e :: es) aa) (hg : Gl X x := by rfl) (hdb : (x == ("__debug__" : Str)) = false := by decide)
    (he : starEach (e :: es) X.env = (false, eval e X.env) :: starEach es X.env := by rfl) (hpl : (backTo pos (starEach es X.env)).any (·.1) = false := by rfl) : DE X B (.Call (.Name x p) (e :: es) [] pos) (dNew C n fs aa) := by
  obtain ⟨k, f, fd, ps, G, hr, M, hm, hb⟩ := F
  refine ⟨fun pins s σ H Q I ⟨ρ, h, Q', S, q, Cn⟩ => ?_⟩
  refine wpAny_Call_Name_kw (ld_glob I hg hm ?_ hdb)
  refine PySem.W.callWith_K (h₀ := X.base) I.ok.mod.kin M.kp (thn (ha.run pos pins s σ H (fun vs H1 => ∀ x dx, H1 x = none → H1 dx = none → dx ≠ x → spA X.K X.mg n fs (.ref x :: vs) (upd (upd H1 dx (.own x)) x (.ins C dx [])) (fun v H2 => v = .non ∧ Q (.ref x) H2) (WE (wx X.mg X.K B) σ)) I ⟨ρ, h, _, S, q, fun vs h1 xs H1 q1 s1 rv1 r1 a dx na nd ne => ?_⟩) fun us s1 ⟨vs, H1, I1, r, q⟩ => ⟨I1.kIn, ?_⟩) he hpl
  · have q2 := q1 a (r1.nof na)
    have sa : Step h1 H1 h1 (upd H1 dx (.own a)) := Step.fresh nd
    have na' : upd H1 dx (.own a) a = none := by rw [upd_ne (Ne.symm ne)]; exact na
    have ra := r1.fresh (o := .own a) nd
    have sb : Step h1 (upd H1 dx (.own a)) (put h1 a (.ins C [])) (upd (upd H1 dx (.own a)) a (.ins C dx [])) := Step.new na'
    have rb : RH X.K (upd (upd H1 dx (.own a)) a (.ins C dx [])) (put h1 a (.ins C [])) := ra.new na' ⟨dx, [], upd_same, by rw [upd_ne ne, upd_same], by rw [put_ne ne]; exact r1.nof nd, rfl⟩
    have s12 := sa.trans sb
    refine ⟨.ref a :: vs, put h1 a (.ins C []), _, fun nm pl h' => B.E nm pl ρ h', RVs.cons (by rw [RV]) (rv1.step s12), rb, q2.1, q2.2, fun v h2 y H2 q3 s3 rv3 r3 => ?_, fun nm pl h' cls dd H' hE s3 r3 hm pld => ⟨nm, pl, ρ, h', hm, S.step (s1.trans (s12.trans s3)) r3, pld, hE⟩⟩
    obtain ⟨rfl, q3⟩ := q3
    rw [RV] at rv3
    exact ⟨rv3, Cn _ _ _ _ q3 (s1.trans (s12.trans s3)) (by rw [RV]) r3⟩
  · exact run_makeS (E := WE (wx X.mg X.K B) σ) M G hr hb (passAt tk σ) I1 r q
end
end DL
namespace DL
open PySem PySem.Spec PyProof.Rows L2
section
variable {X : Cx} {pins : List (Addr × Obj)} {σ : L2.St} {H : Hp} {s : Shared}
end
section
variable {X : Cx} {pins : List (Addr × Obj)} {σ : L2.St} {H : Hp} {s : Shared} {h : Hv}
end
end DL
namespace DL
open PySem PySem.Spec PyProof.Rows L2
def S_lawN (NS : List Str) (G : Gx) : SpF := fun as h Q _ => ∃ ns, as = [.scr ns] ∧ ns.length ≤ 63 ∧ G.ns = NS ∧ Tbs G.Ts h ∧ ∀ h', Q (.bl true) h'
def spLawT (K : PySem.W.Frag) (Ts : List Addr) : Sp := fun vs H Q E => ∃ (a : Addr) (ns : List Int), vs = [.ref a] ∧ SqL K H a (ns.map V.int) ∧ ns.length ≤ 63 ∧ (∀ T ∈ Ts, H T = some (.tbl #[])) ∧ ∀ H', Q (.bl true) H'
def tabH (Ts : List (Addr × Str)) : Hv := fun b => (Ts.lookup b).map Ob.tab
theorem tabH_ok : ∀ {Ts : List (Addr × Str)}, (Ts.map (·.1)).Nodup → Tbs Ts (tabH Ts)
  | [], _ => ⟨fun _ h => absurd h (by simp), fun b q h => by simp [tabH] at h⟩
  | (a, q0) :: Ts, nd => by
    rw [List.map_cons, List.nodup_cons] at nd
    have ih := tabH_ok nd.2
    refine ⟨fun p hp => ?_, fun b q hb => ?_⟩
    · unfold tabH
      rw [List.lookup_cons]
      rcases List.mem_cons.mp hp with z | z
      · subst z; simp
      · have ne : (p.1 == a) = false := by
          rw [beq_eq_false_iff_ne]; intro e; refine nd.1 ?_; rw [← e]; exact List.mem_map_of_mem (f := (·.1)) z
        rw [ne]
        exact ih.has p z
    · unfold tabH at hb
      rw [List.lookup_cons] at hb
      cases e : b == a with
      | true =>
        rw [e] at hb
        have := beq_iff_eq.mp e
        subst this
        cases hb
        exact List.mem_cons_self
      | false =>
        rw [e] at hb
        exact List.mem_cons_of_mem _ (ih.all b q hb)
theorem ok_endT {P : Program} {w : World} {K : PySem.W.Frag} {mg : Str → Option Value} {base : Heap} {CX : CXT} {k : Nat} {f : Addr} {G : Gx} {NS : List Str} {fd : FuncData} {ps : List Str} (hns : G.ns = NS) (nd : (G.Ts.map (·.1)).Nodup) (F : FnOk P w K mg base CX k f fd ps (spA K mg 1 (S_lawN NS G))) : FnOk P w K mg base CX k f fd ps (spLawT K (G.Ts.map (·.1))) := by
  refine F.imp ?_
  generalize hTs : G.Ts = Ts at *
  rintro vs H Q E ⟨a, ns, rfl, sq, hl, hT, q⟩
  have tb := tabH_ok nd
  refine ⟨[.scr ns], tabH Ts, fun v _ => v = .bl true, fun _ _ _ => False, ?_, ?_, rfl, ⟨ns, rfl, hl, hns, by rw [hTs]; exact tb, fun _ => rfl⟩, ?_, fun _ _ _ _ _ _ z => z.elim⟩
  · rw [RVs]
    refine ⟨.ref a, [], rfl, ?_, rfl⟩
    rw [RV]
    refine ⟨a, rfl, ?_⟩
    rcases sq with z | z
    · refine .inl ⟨?_, z⟩
      cases e : tabH Ts a with
      | none => rfl
      | some o =>
        have : ∃ q, o = .tab q := by
          unfold tabH at e
          cases e2 : Ts.lookup a with
          | none => rw [e2] at e; cases e
          | some q => rw [e2] at e; cases e; exact ⟨q, rfl⟩
        obtain ⟨q0, rfl⟩ := this
        have hm := tb.all a q0 e
        have := hT a (List.mem_map_of_mem (f := (·.1)) hm)
        rcases z with z | ⟨o, z⟩ <;> rw [this] at z <;> cases z
    · exact .inr z
  · intro b o e
    have : ∃ q, o = .tab q := by
      unfold tabH at e
      cases e2 : Ts.lookup b with
      | none => rw [e2] at e; cases e
      | some q => rw [e2] at e; cases e; exact ⟨q, rfl⟩
    obtain ⟨q0, rfl⟩ := this
    have hm := tb.all b q0 e
    exact ⟨#[], hT b (List.mem_map_of_mem (f := (·.1)) hm), True.intro, fun pos cv hc => by
      have z : codeAmong pos [] = some cv := hc
      simp [codeAmong] at z⟩
  · rintro v h' x H' rfl _ rv _
    rw [RV] at rv
    rw [rv]; exact q H'
theorem fn_mkC {P : Program} {w : World} {K : PySem.W.Frag} {mg : Str → Option Value} {base : Heap} {x qual : Str} {st : Stmt} {f : Addr} {fd : FuncData} {N ps : List Str} {k : Nat} {fs : SpF} {den : SD} (F : Fun K x qual st f fd) (S : FnScope N ps (defScope st))
    (hd : ∀ (cdv : Value) (A : Around) (outer : List Env) (s : Shared) (H : Hp) (E : XK) (B : Bs), fd.code = cdv → Room k (A.deeper (envOfC qual (defScope st) s.heap.objs.size f cdv)) → TakesB (cxOf (L2.CX P w) P w K mg base N qual (defScope st) f cdv A outer s H E) B →
      DSs (cxOf (L2.CX P w) P w K mg base N qual (defScope st) f cdv A outer s H E) B (defBody st) den)
    (hs : ∀ as h Q E, as.length = ps.length → fs as h Q E → den (startA N as) h ⟨fun _ h' => ∃ h2, Lss h' h2 ∧ Q .non h2, fun v h' => ∃ v2 h2, Conv v h' v2 h2 ∧ Q v2 h2, fun _ _ => False, fun _ _ => False⟩ (fun nm pl _ h' => ∃ h2, Lss h' h2 ∧ E nm pl h2)) :
    FnOk P w K mg base (L2.CX P w) (k + 1) f fd ps (spA K mg ps.length fs) := by
  obtain ⟨oc, od, kV, doc, pm, an, cdv0, ct, osl, efd, lk, hcd⟩ := F.ex
  have hcode : fd.code = cdv0 := by rw [efd]
  rw [efd] at lk ⊢
  refine fn_of lk hcd S (fun vs H Q E h => ?_) (fun A outer s H vs Q E hr h => ?_)
  · obtain ⟨as, h, Q', E', rs, _, e, _⟩ := h
    rw [← rs.len]; exact e
  · obtain ⟨as, h, Q', E', rs, r, e, q, C, CX⟩ := h
    refine ⟨_, hd cdv0 A outer s H E ⟨fun nm pl _ h' => ∃ h2, Lss h' h2 ∧ E' nm pl h2, h, H⟩ hcode hr ?_, startA N as, h, _, ⟨rs.getS N, r, Step.refl _ _⟩, hs as h Q' E' e q, ?_⟩
    · have tk : Takes (cxOf (L2.CX P w) P w K mg base N qual (defScope st) f cdv0 A outer s H E) (fun cls d _ H => E cls d H) := takes_of rfl rfl rfl rfl
      refine tk.imp fun cls d σ H1 hw => ?_
      obtain ⟨nm, pl, ρ, h1, hm, S1, pld, h2, l2, hE⟩ := hw
      exact CX nm pl h2 cls d H1 hE (S1.b.trans l2.step) (S1.r.less l2.l) hm (pld.step l2.step)
    · refine ⟨fun ρ1 h1 σ1 H1 q1 s1 S1 => ?_, fun v h1 x H1 q1 s1 rv1 r1 => ?_, fun _ _ _ _ z => z.elim, fun _ _ _ _ z => z.elim⟩
      · obtain ⟨h2, l2, q2⟩ := q1
        exact C _ _ _ _ q2 (s1.trans l2.step) rv_non (S1.r.less l2.l)
      · obtain ⟨v2, h2, c2, q2⟩ := q1
        exact C _ _ _ _ q2 (s1.trans c2.1.step) (c2.2 K H1 x r1 rv1) (r1.less c2.1.l)
theorem fun_of {K : PySem.W.Frag} {x qual : Str} {st : Stmt} {f : Addr} {fd : FuncData} (F : FunD K x qual (defArgs st) (defBody st) (defScope st) [] [] f fd) : Fun K x qual st f fd := by
  obtain ⟨oc, od, dV, kV, doc, pm, an, cdv, ct, osl, e, lk, hcd, hd, _⟩ := F.ex
  have : dV = .none := hd.elim (fun z => z.2) fun z => absurd rfl z.1
  subst this
  exact ⟨⟨oc, od, kV, doc, pm, an, cdv, ct, osl, e, lk, hcd⟩, F.kp⟩
def clsN : List Str := ["NotOf", "NoLand", "NoPath", "TooMany", "NoClaims", "NoThing", "NoWorth", "BadBook", "NoBack", "NoText"]
def excCB (K : PySem.W.Frag) (D : Addr) : Bool :=
  decide (PySem.W.findIn K (.ref D) "__getattribute__" = some (some (.builtin "BaseException.__getattribute__"))) && (decide (PySem.W.findIn K (.ref D) "__getattr__" = some none) && (decide (PySem.W.subIn K (.ref D) (.type "BaseException") = some true) && (PySem.W.hasDictIn K D &&
  (decide (PySem.W.findIn K (.ref D) "__class__" = some (some (.builtin "object.__class__"))) && (decide (PySem.W.specialIn K (.builtin "object.__class__") "__get__" = some (some (.builtin "getset_descriptor.__get__"))) && (decide (PySem.W.takesIn K (.builtin "object.__class__") = some true) && decide (PySem.W.mroIn K D (.type "object") = some true)))))))
theorem excCB_ok {K : PySem.W.Frag} {D : Addr} (h : excCB K D = true) : ExcC K D := by
  unfold excCB at h
  simp only [Bool.and_eq_true, decide_eq_true_eq] at h
  obtain ⟨a, b, c, d, e, f, g, i⟩ := h
  exact ⟨a, b, c, d, e, f, g, i⟩
def excRB (K : PySem.W.Frag) (x : Str) : Bool := PySem.W.excIn K (He.ga K x) He.veBase "ValueError.__new__" && (PySem.W.keepIn K (.ref (He.ga K x)) && (decide (PySem.W.subIn K (.ref (He.ga K x)) (.type "BaseException") = some true) && decide (PySem.W.typeIn K (.ref (He.ga K x)) = some (.type "type"))))
def exB (rs : List Str) (K : PySem.W.Frag) : Bool :=
  (("CountError" : Str) :: clsN).all (fun x => He.eqO (PySem.W.nsIn K mainGlobals x) (some (some (.ref (He.ga K x))))) &&
  rs.all fun x => excCB K (He.ga K x) && (decide (PySem.W.exmOne K (.ref (He.ga K x)) (.ref (He.ga K "CountError")) = some true) && (clsN.all (fun y => decide (PySem.W.kitOne K (.ref (He.ga K x)) (.ref (He.ga K y)) = some (decide (x = y)))) &&
    (decide (PySem.W.kitOne K (.ref (He.ga K x)) (.type "ValueError") = some true) && excRB K x)))
theorem exB_ok {rs : List Str} {K : PySem.W.Frag} {h : Heap} {mg : Str → Option Value} (X : K.In h) (G : h.Ns mainGlobals mg) (e : exB rs K = true) (hs : ∀ x ∈ rs, x ∈ (["NoLand", "NoPath", "TooMany", "NoClaims", "NoThing", "NoWorth", "BadBook", "NoBack", "NoText"] : List Str)) :
    HCls K mg (He.ga K) rs ∧ ∀ x ∈ rs, XcR K mg x := by
  unfold exB at e
  simp only [Bool.and_eq_true, List.all_eq_true, decide_eq_true_eq] at e
  obtain ⟨e1, e2⟩ := e
  have gm : ∀ x ∈ ("CountError" : Str) :: clsN, mg x = some (.ref (He.ga K x)) := fun x hx => PySem.W.mg_of X G (He.eqO_ok (e1 x hx))
  refine ⟨⟨gm, fun x hx => excCB_ok (e2 x hx).1, fun x hx => (e2 x hx).2.1, fun x hx y hy => (e2 x hx).2.2.1 y hy, fun x hx => (e2 x hx).2.2.2.1, hs⟩, fun x hx => ?_⟩
  have r := (e2 x hx).2.2.2.2
  unfold excRB at r
  simp only [Bool.and_eq_true, decide_eq_true_eq] at r
  exact ⟨He.ga K x, gm x (List.mem_cons_of_mem _ (List.mem_cons_of_mem _ (hs x hx))), r.1, r.2.1, r.2.2.1, r.2.2.2⟩
def exT (rs : List Str) (tf : List He.Defn) (K : PySem.W.Frag) : Bool := exB rs K && decide ((tf.map fun p => (He.cT K p).2).Nodup)
theorem exT_ok {rs : List Str} {tf : List He.Defn} {K : PySem.W.Frag} (h : exT rs tf K = true) : exB rs K = true ∧ (tf.map fun p => (He.cT K p).2).Nodup := by
  unfold exT at h
  rw [Bool.and_eq_true, decide_eq_true_eq] at h
  exact h
theorem walkT {l : PySem.W.OpenLaw} {k : Nat} {q : Program} {loose : List Str} {XP : (Str → Option Value) → Heap → Prop} {d : DefRec} {fa : List He.Fa} {fn : List He.DefD} {tf : List He.Defn} {ex : PySem.W.Frag → Bool} (hn : l.most = some 63) (hdf : d.params.defaults = []) (hnm : d.name = "law") (hr : Room k callerA)
    (F : ∀ (w : World) (K : PySem.W.Frag) (mg : Str → Option Value) (f : Addr) (h : Heap), K.In h → h.Ns mainGlobals mg → mg "law" = some (.ref f) → He.SaysX fa fn [] tf ex w h K →
      ∃ fd : FuncData, (∀ (s : Shared) (u : Value), BindsTo s fd ⟨[u], []⟩ [("script", u)]) ∧ ∀ base : Heap, K.In base → base.Ns mainGlobals mg → (∀ p ∈ tf, LamX.TabB base mg (He.cT K p).1 (He.cT K p).2) → FnOk l.prog w K mg base (L2.CX l.prog w) k f fd ["script"] (spLawT K (tf.map fun p => (He.cT K p).2))) :
    PySem.W.WalkO q loose XP (He.hookX 4 fa fn [] tf ex).says l.row.toRowW d [] (fun f vs => PySem.call f vs) := by
  refine LamX.walk_ofTsE (l := l) (n := 63) (k := k) (x := "script") (CX := fun w => L2.CX l.prog w) hn (by decide) hdf hr (fun w mg f h Y G hmg0 => ?_) (fun _ _ _ _ _ z => ?_)
  · obtain ⟨K, KX, c⟩ := Y
    have hmg : mg "law" = some (.ref f) := by rw [← hnm]; exact hmg0
    obtain ⟨fd, hb, hF⟩ := F w K mg f h KX G hmg c
    refine ⟨K, KX, fd, tf.map (He.cT K), spLawT K (tf.map fun p => (He.cT K p).2), fun p hp => ?_, fun p hp => ?_, fun p hp => ?_, hb, fun H a ns hl _ hT hS => ⟨a, ns, rfl, hS, hl, fun T hT' => ?_, fun _ => rfl⟩, fun base KB GB TB => hF base KB GB fun p hp => TB _ (List.mem_map_of_mem hp)⟩
    · obtain ⟨z, hz, rfl⟩ := List.mem_map.mp hp; exact c.empty _ hz
    · obtain ⟨z, hz, rfl⟩ := List.mem_map.mp hp; exact c.out _ hz
    · obtain ⟨z, hz, rfl⟩ := List.mem_map.mp hp; exact PySem.W.codeHd_of_K KX (c.hd _ hz)
    · obtain ⟨z, hz, rfl⟩ := List.mem_map.mp hT'; exact hT _ (List.mem_map_of_mem hz)
  · obtain ⟨_, _, _, _, _, _, _, _, _, _, _, _, hE⟩ := z
    exact hE
theorem code_law {K : PySem.W.Frag} {x qual : Str} {st : Stmt} {fd : FuncData} {cdv : Value} {p : Str × Option Str} (F : Fun K x qual st (He.fAd K p) fd) (e : fd.code = cdv) : cdv = .ref (He.cT K p).1 := by
  obtain ⟨oc, od, kV, doc, pm, an, cdv0, ct, osl, efd, lk, hcd⟩ := F.ex
  obtain ⟨c, ec⟩ := He.codeIn_ref hcd
  have hc : fd.code = .ref c := by rw [efd]; exact ec
  rw [← e, hc]
  exact congrArg Value.ref (He.codeOf_eq lk hc).symm
end DL
namespace DL
open PySem PySem.Spec PyProof.Rows L2
def den__law_heardP (K : PySem.W.Frag) (cs : Str → Addr) (s2 : SD) : SD := (sSeq (sIf (dTest (dBin fIsN (dVar 1) (dC .non))) (sRet (dTup (aCons (dC (.str "told")) (aCons (dVar 2) aNil)))) sNext) (sSeq (sIf (dTruth (dCB (fIsK K) (aCons (dVar 1) (aCons (dC (.ref (cs "NotOf"))) aNil)))) s2 sNext) (sSeq (sSet 4 (dDisp [((dC (.str "no land")), (dCB (fIsK K) (aCons (dVar 1) (aCons (dC (.ref (cs "NoLand"))) aNil)))), ((dC (.str "no path")), (dCB (fIsK K) (aCons (dVar 1) (aCons (dC (.ref (cs "NoPath"))) aNil))))])) (sSeq (sExpr (dBM "dict" fUpd (dVar 4) (aCons (dDisp [((dC (.str "too many")), (dCB (fIsK K) (aCons (dVar 1) (aCons (dC (.ref (cs "TooMany"))) aNil)))), ((dC (.str "no claims")), (dCB (fIsK K) (aCons (dVar 1) (aCons (dC (.ref (cs "NoClaims"))) aNil))))]) aNil))) (sSeq (sExpr (dBM "dict" fUpd (dVar 4) (aCons (dDisp [((dC (.str "no thing")), (dCB (fIsK K) (aCons (dVar 1) (aCons (dC (.ref (cs "NoThing"))) aNil)))), ((dC (.str "no worth")), (dCB (fIsK K) (aCons (dVar 1) (aCons (dC (.ref (cs "NoWorth"))) aNil))))]) aNil))) (sSeq (sExpr (dBM "dict" fUpd (dVar 4) (aCons (dDisp [((dC (.str "no book")), (dCB (fIsK K) (aCons (dVar 1) (aCons (dC (.ref (cs "BadBook"))) aNil)))), ((dC (.str "no back")), (dCB (fIsK K) (aCons (dVar 1) (aCons (dC (.ref (cs "NoBack"))) aNil))))]) aNil))) (sSeq (sDPut (dVar 4) (dC (.str "no text")) (dCB (fIsK K) (aCons (dVar 1) (aCons (dC (.ref (cs "NoText"))) aNil)))) (sSeq (sSet 5 (dLc (dKeys (dVar 4)) (.nm 6) (dTruth (dDGet (dVar 4) (dVar 6))) (dVar 6) [6])) (sRet (dIfE (dAnd (dTest (dBin fEq (dCB fLen (aCons (dVar 5) aNil)) (dC (.int 1)))) (dTruth (dCB (fIsK K) (aCons (dVar 1) (aCons (dC (.ty "ValueError")) aNil))))) (dTup (aCons (dBin fIx (dVar 5) (dC (.int 0))) aNil)) (dTup (aCons (dC (.str "is wrong")) aNil))))))))))))
end DL
namespace DL
open PySem PySem.Spec PyProof.Rows L2
theorem bt_ValueError : bootBuiltins "ValueError" = some (.type "ValueError") := by decide +kernel
theorem lc_keys {i : Nat} {t : Tg} {tt : TD} {te : ED} {vs : List Nat} {ρ : Sl} {h : Hv} {Q : PV} {E : PX} {d : Addr} {kvs : List (Key × Val)} (e : ρ[i]? = some (some (.ref d))) (hd : h d = some (.dK kvs))
    (q : ∀ o xs, dLc (dKeys (dVar i)) t tt te vs ρ (put h d (.dF o xs kvs)) Q E) : dLc (dKeys (dVar i)) t tt te vs ρ h Q E := by
  unfold dLc dKeys dVar at q ⊢
  simp only [e, put_same, hd] at q ⊢
  exact q
theorem is_k {K : PySem.W.Frag} {cs : Str → Addr} {D a : Addr} {h : Hv} {Q : PV} {cv : Val} {v : Value} {b : Bool} (ha : h a = some (.exc D)) (C : ExcC K D) (e : cvOf cv = some v) (k : PySem.W.kitOne K (.ref D) v = some b) (q : Q (.bl b) h) : fIsK K [.ref a, cv] h Q := by
  unfold fIsK
  simp only [ha]
  exact ⟨C, b, v, e, k, q⟩
theorem disp2 {K : PySem.W.Frag} {cs : Str → Addr} {D a : Addr} {h : Hv} {Q : PV} {E : PX} {ρ : Sl} {x z y1 y2 : Str} {b1 b2 : Bool} (e : ρ[1]? = some (some (.ref a))) (hA : h a = some (.exc D)) (C : ExcC K D) (hx : (Sum.inr x : Key) ≠ Sum.inr z)
    (k1 : PySem.W.kitOne K (.ref D) (.ref (cs y1)) = some b1) (k2 : PySem.W.kitOne K (.ref D) (.ref (cs y2)) = some b2) (q : ∀ p, h p = none → Q (.ref p) (put h p (.dK [(.inr x, .bl b1), (.inr z, .bl b2)]))) :
    dDisp [((dC (.str x)), (dCB (fIsK K) (aCons (dVar 1) (aCons (dC (.ref (cs y1))) aNil)))), ((dC (.str z)), (dCB (fIsK K) (aCons (dVar 1) (aCons (dC (.ref (cs y2))) aNil))))] ρ h Q E := by
  simp only [dDisp]
  intro p hp
  have pa : a ≠ p := fun z => by rw [z, hp] at hA; cases hA
  have hA1 : put h p .busy a = some (.exc D) := by rw [put_ne pa]; exact hA
  simp only [dPairs, sSet, sFor, sIf, sRet, sExpr, sPar, sAsg, sSeq, sNext, sAug, dIt, dTup, dLst, dLstH, dCB, dCall, dCallK, dBin, dUn, dTest, dChain, dIfE, aCons, aNil, dVar, dC, dTruth, dNot, dAnd, dOr, vAnd, vOr, vNot, dBM, dSl, dRev, oSome, oNone, e]
  refine is_k (cs := cs) hA1 C rfl k1 ?_
  refine is_k (cs := cs) hA1 C rfl k2 ?_
  have em : mergeA [] [((Sum.inr x : Key), Val.bl b1), (Sum.inr z, .bl b2)] = [(Sum.inr x, .bl b1), (Sum.inr z, .bl b2)] := by
    simp only [mergeA, List.foldl_cons, List.foldl_nil, putA, List.any_nil, List.nil_append, List.any_cons, List.any_nil, Bool.or_false, Bool.false_eq_true, if_false]
    rw [if_neg (by simpa using hx)]
    rfl
  simp only [kvsOf, keyOf]
  rw [em, put_put]
  exact ⟨(show 2 ≤ 15 by decide), q p hp⟩
theorem upd2 {K : PySem.W.Frag} {cs : Str → Addr} {D a d : Addr} {h : Hv} {Q : PV} {E : PX} {ρ : Sl} {x z y1 y2 : Str} {b1 b2 : Bool} {kvs : List (Key × Val)} (e : ρ[1]? = some (some (.ref a))) (e4 : ρ[4]? = some (some (.ref d))) (hA : h a = some (.exc D)) (hd : h d = some (.dK kvs)) (C : ExcC K D) (hx : (Sum.inr x : Key) ≠ Sum.inr z) (hl : kvs.length ≤ 20)
    (k1 : PySem.W.kitOne K (.ref D) (.ref (cs y1)) = some b1) (k2 : PySem.W.kitOne K (.ref D) (.ref (cs y2)) = some b2)
    (q : ∀ p, h p = none → Q .non (put (put h p (.dK [(.inr x, .bl b1), (.inr z, .bl b2)])) d (.dK (mergeA kvs [(.inr x, .bl b1), (.inr z, .bl b2)])))) :
    dBM "dict" fUpd (dVar 4) (aCons (dDisp [((dC (.str x)), (dCB (fIsK K) (aCons (dVar 1) (aCons (dC (.ref (cs y1))) aNil)))), ((dC (.str z)), (dCB (fIsK K) (aCons (dVar 1) (aCons (dC (.ref (cs y2))) aNil))))]) aNil) ρ h Q E := by
  unfold dBM
  simp only [dVar, e4]
  refine ⟨by unfold tyA; simp only [hd], ?_⟩
  simp only [aCons, aNil]
  refine disp2 e hA C hx k1 k2 fun p hp => ?_
  have pd : d ≠ p := fun z => by rw [z, hp] at hd; cases hd
  unfold fUpd
  simp only [put_same, put_ne pd, hd]
  refine ⟨pd, ?_, q p hp⟩
  show kvs.length + 2 ≤ sizeLine
  rw [sizeLine_eq]; omega
def kv9 (b1 b2 b3 b4 b5 b6 b7 b8 b9 : Bool) : List (Key × Val) := [(.inr "no land", .bl b1), (.inr "no path", .bl b2), (.inr "too many", .bl b3), (.inr "no claims", .bl b4), (.inr "no thing", .bl b5), (.inr "no worth", .bl b6), (.inr "no book", .bl b7), (.inr "no back", .bl b8), (.inr "no text", .bl b9)]
def pv9 (kvs : List (Key × Val)) : Val → Bool := fun v => match v with
  | .str z => (match valA kvs (.inr z) with
    | some (.bl b) => b
    | _ => false)
  | _ => false
theorem kv9_all (b1 b2 b3 b4 b5 b6 b7 b8 b9 : Bool) : ∀ v ∈ (kv9 b1 b2 b3 b4 b5 b6 b7 b8 b9).map fun p => keyV p.1, ∃ z b, v = .str z ∧ valA (kv9 b1 b2 b3 b4 b5 b6 b7 b8 b9) (.inr z) = some (.bl b) := by
  intro v hv
  simp only [kv9, List.map_cons, List.map_nil, List.mem_cons, List.not_mem_nil, or_false, keyV] at hv
  rcases hv with e | e | e | e | e | e | e | e | e
  · exact ⟨_, b1, e, rfl⟩
  · exact ⟨_, b2, e, rfl⟩
  · exact ⟨_, b3, e, rfl⟩
  · exact ⟨_, b4, e, rfl⟩
  · exact ⟨_, b5, e, rfl⟩
  · exact ⟨_, b6, e, rfl⟩
  · exact ⟨_, b7, e, rfl⟩
  · exact ⟨_, b8, e, rfl⟩
  · exact ⟨_, b9, e, rfl⟩
theorem tail_exc {K : PySem.W.Frag} {cs : Str → Addr} {D a : Addr} {h : Hv} {Dd : AE} {E : PX} {w : Str} {s2 : SD} {b1 b2 b3 b4 b5 b6 b7 b8 b9 : Bool} (C : ExcC K D) (ha : h a = none)
    (k0 : PySem.W.kitOne K (.ref D) (.ref (cs "NotOf")) = some false) (k1 : PySem.W.kitOne K (.ref D) (.ref (cs "NoLand")) = some b1) (k2 : PySem.W.kitOne K (.ref D) (.ref (cs "NoPath")) = some b2) (k3 : PySem.W.kitOne K (.ref D) (.ref (cs "TooMany")) = some b3)
    (k4 : PySem.W.kitOne K (.ref D) (.ref (cs "NoClaims")) = some b4) (k5 : PySem.W.kitOne K (.ref D) (.ref (cs "NoThing")) = some b5) (k6 : PySem.W.kitOne K (.ref D) (.ref (cs "NoWorth")) = some b6) (k7 : PySem.W.kitOne K (.ref D) (.ref (cs "BadBook")) = some b7)
    (k8 : PySem.W.kitOne K (.ref D) (.ref (cs "NoBack")) = some b8) (k9 : PySem.W.kitOne K (.ref D) (.ref (cs "NoText")) = some b9) (kv : PySem.W.kitOne K (.ref D) (.type "ValueError") = some true)
    (hw : ((((kv9 b1 b2 b3 b4 b5 b6 b7 b8 b9).map fun p => keyV p.1).filter (pv9 (kv9 b1 b2 b3 b4 b5 b6 b7 b8 b9))).map id) = [.str w]) (q : ∀ h2, Lss h2 h → Dd.rt (.tup [.str w]) h2) :
    den__law_heardP K cs s2 [none, some (.ref a), none, none, none, none, none] (put h a (.exc D)) Dd E := by
  have hA : put h a (.exc D) a = some (.exc D) := put_same
  have l0 : Lss (put h a (.exc D)) h := Lss.put ha (fun z => nomatch z)
  generalize put h a (.exc D) = h0 at hA l0 ⊢
  unfold den__law_heardP
  refine seq_o fun K1 hK => ?_
  simp only [sSet, sFor, sIf, sRet, sExpr, sPar, sAsg, sSeq, sNext, sAug, dIt, dTup, dLst, dLstH, dCB, dCall, dCallK, dBin, dUn, dTest, dChain, dIfE, aCons, aNil, dVar, dC, dTruth, dNot, dAnd, dOr, vAnd, vOr, vNot, dBM, dSl, dRev, oSome, oNone]
  simp only [List.getElem?_cons_succ, List.getElem?_cons_zero, fIsN, Bool.false_eq_true, if_false]
  subst hK
  refine seq_o fun K1 hK => ?_
  simp only [sSet, sFor, sIf, sRet, sExpr, sPar, sAsg, sSeq, sNext, sAug, dIt, dTup, dLst, dLstH, dCB, dCall, dCallK, dBin, dUn, dTest, dChain, dIfE, aCons, aNil, dVar, dC, dTruth, dNot, dAnd, dOr, vAnd, vOr, vNot, dBM, dSl, dRev, oSome, oNone]
  simp only [List.getElem?_cons_succ, List.getElem?_cons_zero]
  refine is_k (cs := cs) hA C rfl k0 ?_
  simp only [truA, Bool.false_eq_true, if_false]
  subst hK
  refine seq_o fun K1 hK => ?_
  simp only [sSet]
  refine disp2 (by rfl) hA C (by decide +kernel) k1 k2 fun p hp => ?_
  have pa : a ≠ p := fun z => by rw [z, hp] at hA; cases hA
  subst hK
  have hA1 : put h0 p (.dK [(.inr "no land", .bl b1), (.inr "no path", .bl b2)]) a = some (.exc D) := by rw [put_ne pa]; exact hA
  have hd1 : put h0 p (.dK [(.inr "no land", .bl b1), (.inr "no path", .bl b2)]) p = some (.dK [(.inr "no land", .bl b1), (.inr "no path", .bl b2)]) := put_same
  have l1 : Lss (put h0 p (.dK [(.inr "no land", .bl b1), (.inr "no path", .bl b2)])) h := (Lss.put (o := .dK _) hp (fun z => nomatch z)).trans l0
  have hp' : h p = none := by
    rcases l0.l p with z | z
    · exact z
    · rw [z]; exact hp
  -- what is known of the dict's place, from now on
  have step : ∀ {h1 h2 : Hv} {kvs kvs' : List (Key × Val)} {o : Ob} {p2 : Addr}, o ≠ .busy → h1 a = some (.exc D) → h1 p = some (.dK kvs) → Lss h1 h → h1 p2 = none → h2 = put (put h1 p2 o) p (.dK kvs') → h2 a = some (.exc D) ∧ h2 p = some (.dK kvs') ∧ Lss h2 h := by
    intro h1 h2 kvs kvs' o p2 no e1 e2 l e3 eh
    have n1 : a ≠ p2 := fun z => by rw [z, e3] at e1; cases e1
    subst eh
    refine ⟨by rw [put_ne pa, put_ne n1]; exact e1, put_same, ⟨fun b => ?_, fun b hb => ?_⟩⟩
    · by_cases hb : b = p
      · subst hb; exact .inl hp'
      · rw [put_ne hb]
        exact ((Lss.put e3 no).trans l).l b
    · by_cases hb2 : b = p
      · subst hb2; rw [put_same] at hb; cases hb
      · rw [put_ne hb2] at hb
        exact ((Lss.put e3 no).trans l).b b hb
  generalize put h0 p (.dK [(.inr "no land", .bl b1), (.inr "no path", .bl b2)]) = h1 at hA1 hd1 l1 ⊢
  refine seq_o fun K1 hK => ?_
  simp only [sExpr]
  refine upd2 (d := p) (by rfl) (by rfl) hA1 hd1 C (by decide +kernel) (show 2 ≤ 20 by decide) k3 k4 fun p2 hp2 => ?_
  subst hK
  have em : mergeA [((Sum.inr "no land" : Key), Val.bl b1), (.inr "no path", .bl b2)] [(.inr "too many", .bl b3), (.inr "no claims", .bl b4)] = [(.inr "no land", .bl b1), (.inr "no path", .bl b2), (.inr "too many", .bl b3), (.inr "no claims", .bl b4)] := rfl
  rw [em]
  generalize hh : put (put h1 p2 _) p _ = h2
  obtain ⟨hA2, hd2, l2⟩ := step (o := .dK _) (fun z => nomatch z) hA1 hd1 l1 hp2 hh.symm
  refine seq_o fun K1 hK => ?_
  simp only [sExpr]
  refine upd2 (d := p) (by rfl) (by rfl) hA2 hd2 C (by decide +kernel) (show 4 ≤ 20 by decide) k5 k6 fun p3 hp3 => ?_
  subst hK
  have em : mergeA [((Sum.inr "no land" : Key), Val.bl b1), (.inr "no path", .bl b2), (.inr "too many", .bl b3), (.inr "no claims", .bl b4)] [(.inr "no thing", .bl b5), (.inr "no worth", .bl b6)] = [(.inr "no land", .bl b1), (.inr "no path", .bl b2), (.inr "too many", .bl b3), (.inr "no claims", .bl b4), (.inr "no thing", .bl b5), (.inr "no worth", .bl b6)] := rfl
  rw [em]
  generalize hh : put (put h2 p3 _) p _ = h3
  obtain ⟨hA3, hd3, l3⟩ := step (o := .dK _) (fun z => nomatch z) hA2 hd2 l2 hp3 hh.symm
  refine seq_o fun K1 hK => ?_
  simp only [sExpr]
  refine upd2 (d := p) (by rfl) (by rfl) hA3 hd3 C (by decide +kernel) (show 6 ≤ 20 by decide) k7 k8 fun p4 hp4 => ?_
  subst hK
  have em : mergeA [((Sum.inr "no land" : Key), Val.bl b1), (.inr "no path", .bl b2), (.inr "too many", .bl b3), (.inr "no claims", .bl b4), (.inr "no thing", .bl b5), (.inr "no worth", .bl b6)] [(.inr "no book", .bl b7), (.inr "no back", .bl b8)] = [(.inr "no land", .bl b1), (.inr "no path", .bl b2), (.inr "too many", .bl b3), (.inr "no claims", .bl b4), (.inr "no thing", .bl b5), (.inr "no worth", .bl b6), (.inr "no book", .bl b7), (.inr "no back", .bl b8)] := rfl
  rw [em]
  generalize hh : put (put h3 p4 _) p _ = h4
  obtain ⟨hA4, hd4, l4⟩ := step (o := .dK _) (fun z => nomatch z) hA3 hd3 l3 hp4 hh.symm
  refine seq_o fun K1 hK => ?_
  simp only [sSet, sFor, sIf, sRet, sExpr, sPar, sAsg, sSeq, sNext, sAug, dIt, dTup, dLst, dLstH, dCB, dCall, dCallK, dBin, dUn, dTest, dChain, dIfE, aCons, aNil, dVar, dC, dTruth, dNot, dAnd, dOr, vAnd, vOr, vNot, dBM, dSl, dRev, oSome, oNone, sDPut, List.getElem?_set_ne, List.getElem?_cons_succ, List.getElem?_cons_zero, List.set_cons_succ, List.set_cons_zero]
  refine is_k (cs := cs) hA4 C rfl k9 ?_
  have ep : dputA (.ref p) (.str "no text") (.bl b9) h4 = some (put h4 p (.dK (kv9 b1 b2 b3 b4 b5 b6 b7 b8 b9))) := by
    unfold dputA
    simp only [hd4, keyOf]
    have h8 : 8 < sizeLine := by rw [sizeLine_eq]; omega
    exact if_pos h8
  rw [ep]
  have hA5 : put h4 p (.dK (kv9 b1 b2 b3 b4 b5 b6 b7 b8 b9)) a = some (.exc D) := by rw [put_ne pa]; exact hA4
  have hd5 : put h4 p (.dK (kv9 b1 b2 b3 b4 b5 b6 b7 b8 b9)) p = some (.dK (kv9 b1 b2 b3 b4 b5 b6 b7 b8 b9)) := put_same
  have wr : ∀ {h1 : Hv} {o o2 : Ob}, h1 p = some o2 → o2 ≠ .busy → o ≠ .busy → Lss h1 h → Lss (put h1 p o) h := fun {h1 o o2} e n2 n l => ⟨fun b => by
      by_cases hb : b = p
      · subst hb; exact .inl hp'
      · rw [put_ne hb]; exact l.l b, fun b hb => by
      by_cases hb2 : b = p
      · subst hb2; rw [put_same] at hb; exact absurd (Option.some.inj hb) n
      · rw [put_ne hb2] at hb; exact l.b b hb⟩
  have l5 : Lss (put h4 p (.dK (kv9 b1 b2 b3 b4 b5 b6 b7 b8 b9))) h := wr hd4 (fun z => nomatch z) (fun z => nomatch z) l4
  generalize put h4 p (.dK (kv9 b1 b2 b3 b4 b5 b6 b7 b8 b9)) = h5 at hA5 hd5 l5 ⊢
  dsimp only
  subst hK
  refine seq_o fun K1 hK => ?_
  simp only [sSet]
  refine lc_keys (d := p) (by rfl) hd5 fun o xs => ?_
  have hA6 : put h5 p (.dF o xs (kv9 b1 b2 b3 b4 b5 b6 b7 b8 b9)) a = some (.exc D) := by rw [put_ne pa]; exact hA5
  have hd6 : put h5 p (.dF o xs (kv9 b1 b2 b3 b4 b5 b6 b7 b8 b9)) p = some (.dF o xs (kv9 b1 b2 b3 b4 b5 b6 b7 b8 b9)) := put_same
  have l6 : Lss (put h5 p (.dF o xs (kv9 b1 b2 b3 b4 b5 b6 b7 b8 b9))) h := wr hd5 (fun z => nomatch z) (fun z => nomatch z) l5
  generalize put h5 p (.dF o xs (kv9 b1 b2 b3 b4 b5 b6 b7 b8 b9)) = h6 at hA6 hd6 l6 ⊢
  refine lc_filt (items := (kv9 b1 b2 b3 b4 b5 b6 b7 b8 b9).map fun p => keyV p.1) (ok := fun h2 => h2 p = some (.dF o xs (kv9 b1 b2 b3 b4 b5 b6 b7 b8 b9))) (pv9 (kv9 b1 b2 b3 b4 b5 b6 b7 b8 b9)) id (fun R hR => ?_) (fun h' sb => sb p _ hd6) (show 9 ≤ sizeLine by rw [sizeLine_eq]; omega) (fun v hv => ?_) ?_
  · unfold dKeys
    simp only [dVar, List.getElem?_cons_succ, List.getElem?_cons_zero, List.set_cons_succ, List.set_cons_zero, hd6]
    exact hR
  · obtain ⟨z, b, rfl, ez⟩ := kv9_all b1 b2 b3 b4 b5 b6 b7 b8 b9 v hv
    refine ⟨_, rfl, fun h' Q' sb q' => ?_, fun _ h' Q' sb q' => q'⟩
    have e6 := sb p _ hd6
    have pb : pv9 (kv9 b1 b2 b3 b4 b5 b6 b7 b8 b9) (.str z) = b := by unfold pv9; simp only [ez]
    rw [pb] at q'
    show dTruth (dDGet (dVar 4) (dVar 6)) [none, some (.ref a), none, none, some (.ref p), none, some (.str z)] h' Q' EF
    simp only [dTruth, dDGet, dVar, List.getElem?_cons_succ, List.getElem?_cons_zero, dgetA, e6, keyOf, ez, truA]
    exact q'
  · rw [hw]
    subst hK
    simp only [sSet, sFor, sIf, sRet, sExpr, sPar, sAsg, sSeq, sNext, sAug, dIt, dTup, dLst, dLstH, dCB, dCall, dCallK, dBin, dUn, dTest, dChain, dIfE, aCons, aNil, dVar, dC, dTruth, dNot, dAnd, dOr, vAnd, vOr, vNot, dBM, dSl, dRev, oSome, oNone, List.getElem?_cons_succ, List.getElem?_cons_zero, List.set_cons_succ, List.set_cons_zero]
    simp
    refine is_k (cs := cs) hA6 C rfl kv ?_
    simp
    rw [atI_zero]
    exact ⟨by rw [sizeLine_eq]; omega, q h6 l6⟩
end DL
namespace DL
open PySem PySem.Spec PyProof.Rows L2
def odd (b : Book) (v : Val) : Prop := flatA v = true ∧ inA v (b.names.map .str) = false
def S_look_land : SpF := fun as h Q E => ∃ (b : Book) (v : Val), as = [encB b, v] ∧ b.lands.length ≤ 4 ∧ ((∃ z, v = .str z ∧ z ∈ b.names ∧ Q .non h) ∨ (odd b v ∧ E "NoLand" none h))
end DL
namespace DL
open PySem PySem.Spec PyProof.Rows L2
def den_is_number : SD := (sRet (vAnd (dCB fIsi (aCons (dVar 0) (aCons (dC (.ty "int")) aNil))) (vAnd (vNot (dCB fIsi (aCons (dVar 0) (aCons (dC (.ty "bool")) aNil)))) (dChain fLe fLe (dVar 1) (dVar 0) (dVar 2)))))
def den_is_name : SD := (sRet (vAnd (dCB fIsi (aCons (dVar 0) (aCons (dC (.ty "str")) aNil))) (vAnd (dChain fLe fLe (dC (.int 1)) (dCB fLen (aCons (dVar 0) aNil)) (dC (.int 8))) (dCB fAll (aCons (dLc (dIt (dVar 0)) (.nm 1) tTrue (dBin fInS (dVar 1) (dC (.str "abcdefghijklmnopqrstuvwxyz"))) [1]) aNil)))))
def den_is_rising : SD := (sRet (dCB fAll (aCons (dLc (dZip (aCons (dVar 0) (aCons (dSl fSl (dVar 0) (oSome (dC (.int 1))) oNone) aNil))) (.tp [(.nm 1), (.nm 2)]) tTrue (dBin fLt (dVar 1) (dVar 2)) [1, 2]) aNil)))
def den_is_land : SD := (sSeq (sIf (dOr (dNot (dTruth (dCB fIsi (aCons (dVar 0) (aCons (dC (.ty "tuple")) aNil))))) (dOr (dTest (dBin fNe (dCB fLen (aCons (dVar 0) aNil)) (dC (.int 4)))) (dNot (dTruth (dCall 1 S_is_name (aCons (dBin fIx (dVar 0) (dC (.int 0))) aNil)))))) (sRet (dC (.bl false))) sNext) (sRet (vAnd (dCall 3 S_is_number (aCons (dBin fIx (dVar 0) (dC (.int 2))) (aCons (dC (.int 1)) (aCons (dC (.int 99)) aNil)))) (vAnd (dCall 3 S_is_number (aCons (dBin fIx (dVar 0) (dC (.int 1))) (aCons (dC (.int 1)) (aCons (dBin fIx (dVar 0) (dC (.int 2))) aNil)))) (dCall 3 S_is_number (aCons (dBin fIx (dVar 0) (dC (.int 3))) (aCons (dC (.int 0)) (aCons (dC (.int 999)) aNil))))))))
def den_is_pact : SD := (sSeq (sIf (dOr (dNot (dTruth (dCB fIsi (aCons (dVar 0) (aCons (dC (.ty "tuple")) aNil))))) (dOr (dTest (dBin fNe (dCB fLen (aCons (dVar 0) aNil)) (dC (.int 2)))) (dNot (dTruth (dCB fAll (aCons (dLc (dIt (dVar 0)) (.nm 2) tTrue (dCB fIsi (aCons (dVar 2) (aCons (dC (.ty "str")) aNil))) [2]) aNil)))))) (sRet (dC (.bl false))) sNext) (sRet (vAnd (dBin fIn (dBin fIx (dVar 0) (dC (.int 0))) (dVar 1)) (vAnd (dBin fIn (dBin fIx (dVar 0) (dC (.int 1))) (dVar 1)) (dBin fNe (dBin fIx (dVar 0) (dC (.int 0))) (dBin fIx (dVar 0) (dC (.int 1))))))))
def den_is_book : SD := (sSeq (sIf (dOr (dNot (dTruth (dCB fIsi (aCons (dVar 0) (aCons (dC (.ty "tuple")) aNil))))) (dOr (dTest (dBin fNe (dCB fLen (aCons (dVar 0) aNil)) (dC (.int 2)))) (dNot (dTruth (dCB fIsi (aCons (dBin fIx (dVar 0) (dC (.int 0))) (aCons (dC (.ty "tuple")) aNil))))))) (sRet (dC (.bl false))) sNext) (sSeq (sAsg (.tp [(.nm 1), (.nm 2)]) (dVar 0)) (sSeq (sIf (dOr (dNot (dTest (dChain fLe fLe (dC (.int 1)) (dCB fLen (aCons (dVar 1) aNil)) (dC (.int 4))))) (dNot (dTruth (dCB fAll (aCons (dLc (dIt (dVar 1)) (.nm 4) tTrue (dCall 1 S_is_land (aCons (dVar 4) aNil)) [4]) aNil))))) (sRet (dC (.bl false))) sNext) (sSeq (sSet 3 (dLc (dIt (dVar 1)) (.nm 4) tTrue (dBin fIx (dVar 4) (dC (.int 0))) [4])) (sSeq (sIf (dOr (dNot (dTruth (dCall 1 S_is_rising (aCons (dVar 3) aNil)))) (dOr (dNot (dTruth (dCB fIsi (aCons (dVar 2) (aCons (dC (.ty "tuple")) aNil))))) (dNot (dTruth (dCB fAll (aCons (dLc (dIt (dVar 2)) (.nm 5) tTrue (dCall 2 S_is_pact (aCons (dVar 5) (aCons (dVar 3) aNil))) [5]) aNil)))))) (sRet (dC (.bl false))) sNext) (sRet (dCall 1 S_is_rising (aCons (dVar 2) aNil))))))))
def den_names_of : SD := (sRet (dLc (dIt (dBin fIx (dVar 0) (dC (.int 0)))) (.nm 1) tTrue (dBin fIx (dVar 1) (dC (.int 0))) [1]))
end DL
namespace DL
open PySem PySem.Spec PyProof.Rows L2
theorem bo_is_number (N : List Str) (hN : N.length = 3) : ∀ as h Q E, as.length = 3 → S_is_number as h Q E → den_is_number (startA N as) h (endsR Q) (RX E) := by
  rintro as h Q E - ⟨v, lo, hi, rfl, ok, q⟩
  have q := RT.same q
  cases v <;> first | (simp [okD] at ok; done) | skip
  all_goals simp [den_is_number, isNum, hN] at q ⊢
  all_goals first | exact q | (split <;> simp_all)
theorem bo_is_name (N : List Str) (hN : N.length = 2) : ∀ as h Q E, as.length = 1 → S_is_name as h Q E → den_is_name (startA N as) h (endsR Q) (RX E) := by
  rintro as h Q E - ⟨v, rfl, ok, q⟩
  have q := RT.same q
  unfold den_is_name
  simp only [startA, hN]
  generalize hd : dCB fAll (aCons (dLc (dIt (dVar 0)) (.nm 1) tTrue (dBin fInS (dVar 1) (dC (.str "abcdefghijklmnopqrstuvwxyz"))) [1]) aNil) = da
  cases v with
  | str z =>
    simp only [okD, decide_eq_true_eq] at ok
    have hz := sl1000 ok
    have key : ∀ {h : Hv} {Q : PV} {E : PX}, Q (.bl (z.cps.toList.all fun c => decide (c ∈ letters))) h → da [some (.str z), none] h Q E := fun {h Q E} q => by
      subst hd
      refine all_lc (items := z.cps.toList.map fun c => Val.str ⟨#[c]⟩) (ok := fun _ => True) (fun v => match v with | .str ⟨⟨[c]⟩⟩ => decide (c ∈ letters) | _ => false) (fun R r => by simpa using r) (fun _ _ => trivial) (by simpa [Str.length] using hz) (fun v hv => ?_) ?_
      · obtain ⟨c, -, rfl⟩ := List.mem_map.mp hv
        refine ⟨_, rfl, fun h' Q' _ q' => ?_⟩
        simpa [letters] using q'
      · rw [List.all_map]
        exact q
    by_cases h1 : 1 ≤ z.length
    · have h1' : (1 : Int) ≤ z.length := by omega
      by_cases h2 : z.length ≤ 8
      · have h2' : (z.length : Int) ≤ 8 := by omega
        simp [hz, h1', h2'] at q ⊢
        exact key (Qb q (by simp [isName, h1, h2]))
      · have h2' : ¬ (z.length : Int) ≤ 8 := by omega
        simp [hz, h1', h2'] at q ⊢
        exact Qb q (by simp [isName, h2])
    · have h1' : ¬ (1 : Int) ≤ z.length := by omega
      simp [hz, h1'] at q ⊢
      exact Qb q (by simp [isName, h1])
  | non => simpa [isName] using q
  | bl b => simpa [isName] using q
  | int b => simpa [isName] using q
  | tup b => simpa [isName] using q
  | lst b => simpa [isName] using q
  | _ => simp [okD] at ok
theorem cut1 (vs : List Val) : cutA vs (some 1) none = vs.drop 1 := by
  unfold cutA
  rw [show HT.sIx vs.length 0 (some 1) = min 1 vs.length from HT.sIx_nat vs.length 0 1, HT.sIx_none]
  cases vs with
  | nil => rfl
  | cons x r =>
    rw [show min 1 (x :: r).length = 1 by rw [List.length_cons]; omega]
    show (List.take ((x :: r).length - 1) r) = r
    rw [List.length_cons, Nat.add_sub_cancel]
    exact List.take_length
theorem risA_zip : ∀ {vs : List Val} {b : Bool}, risA vs = some b → (∀ p ∈ vs.zip (vs.drop 1), ∃ k, ltA p.1 p.2 = some k) ∧ ((vs.zip (vs.drop 1)).all fun p => (ltA p.1 p.2).getD false) = b
  | [], b, e => by cases e; exact ⟨fun p hp => by simp at hp, rfl⟩
  | [_], b, e => by cases e; exact ⟨fun p hp => by simp at hp, rfl⟩
  | x :: y :: r, b, e => by
    unfold risA at e
    split at e
    · rename_i k c h1 h2
      cases e
      obtain ⟨i1, i2⟩ := risA_zip h2
      have z : (x :: y :: r).zip ((x :: y :: r).drop 1) = (x, y) :: (y :: r).zip ((y :: r).drop 1) := rfl
      rw [z]
      refine ⟨fun p hp => ?_, ?_⟩
      · rcases List.mem_cons.mp hp with e | e
        · rw [e]; exact ⟨k, h1⟩
        · exact i1 p e
      · rw [List.all_cons, i2, h1]; rfl
    · cases e
theorem bo_is_rising (N : List Str) (hN : N.length = 3) : ∀ as h Q E, as.length = 1 → S_is_rising as h Q E → den_is_rising (startA N as) h (endsR Q) (RX E) := by
  rintro as h Q E - ⟨v, vs, b, rfl, hv, hl, e, q⟩
  have q := RT.same q
  obtain ⟨i1, i2⟩ := risA_zip e
  unfold den_is_rising
  simp only [startA, hN]
  show dCB fAll _ _ _ _ _
  refine all_lc (items := (vs.zip (vs.drop 1)).map fun p => Val.tup [p.1, p.2]) (ok := fun _ => True) (fun v => match v with | .tup [a, b] => (ltA a b).getD false | _ => false) (fun R r => ?_) (fun _ _ => trivial) ?_ (fun v hv => ?_) ?_
  · rcases hv with rfl | rfl <;> simpa [cut1] using r
  · rw [List.length_map, List.length_zip]
    exact sl1000 (by omega)
  · obtain ⟨p, hp, rfl⟩ := List.mem_map.mp hv
    obtain ⟨k, hk⟩ := i1 p hp
    refine ⟨_, rfl, fun h' Q' _ q' => ?_⟩
    simp only [hk, Option.getD_some] at q'
    simp [fLt, -ltA, hk]
    exact q'
  · rw [List.all_map]
    exact Qb q (by rw [← i2]; rfl)
theorem str_beq (x y : Str) : (x == y) = decide (x = y) := by rw [Bool.eq_iff_iff]; simp
theorem bo_is_land (N : List Str) (hN : N.length = 1) : ∀ as h Q E, as.length = 1 → S_is_land as h Q E → den_is_land (startA N as) h (endsR Q) (RX E) := by
  rintro as h Q E - ⟨v, rfl, ok, q⟩
  have q := RT.same q
  unfold den_is_land
  simp only [startA, hN]
  cases v with
  | tup vs =>
    have ok' : okDs vs = true := by rw [okD, Bool.and_eq_true] at ok; exact ok.1
    match vs, ok', q with
    | [a, b, c, d], ok', q =>
      simp only [okDs, Bool.and_eq_true] at ok'
      obtain ⟨oa, ob, oc, od, -⟩ := ok'
      simp [atI, ixN]
      refine ⟨a, rfl, oa, ?_⟩
      cases hn : isName a with
      | false => simpa [isLand, hn] using q
      | true =>
        simp
        refine ⟨c, 1, 99, rfl, oc, ?_⟩
        cases hc : isNum c 1 99 with
        | false => simpa [isLand, hn, hc] using q
        | true =>
          simp
          cases c with
          | int qq =>
            refine ⟨b, 1, qq, rfl, ob, ?_⟩
            cases hb : isNum b 1 qq with
            | false => simpa [isLand, hn, hc, hb] using q
            | true =>
              simp
              refine ⟨d, 0, 999, rfl, od, ?_⟩
              simpa [isLand, hn, hc, hb] using q
          | _ => simp [isNum] at hc
    | [], _, q => simpa [isLand] using q
    | [_], _, q => simpa [isLand] using q
    | [_, _], _, q => simpa [isLand] using q
    | [_, _, _], _, q => simpa [isLand] using q
    | _ :: _ :: _ :: _ :: _ :: r, _, q =>
      have : ((r.length : Int) + 1 + 1 + 1 + 1 + 1 == 4) = false := by rw [beq_eq_false_iff_ne]; omega
      simpa [isLand, this] using q
  | non => simpa [isLand] using q
  | bl b => simpa [isLand] using q
  | int b => simpa [isLand] using q
  | str b => simpa [isLand] using q
  | lst b => simpa [isLand] using q
  | _ => simp [okD] at ok
theorem inA_str {z : Str} {names : List Str} : inA (.str z) (names.map .str) = decide (z ∈ names) := by
  unfold inA
  rw [List.any_map, Bool.eq_iff_iff, List.any_eq_true]
  simp only [decide_eq_true_eq]
  constructor
  · rintro ⟨x, hx, e⟩
    have : (x == z) = true := e
    rw [← eq_of_beq this]; exact hx
  · intro h
    exact ⟨z, h, (by show (z == z) = true; simp)⟩
theorem flat_strs (names : List Str) : (names.map Val.str).all flatA = true := by
  rw [List.all_map, List.all_eq_true]; intro x _; rfl
theorem bo_is_pact (N : List Str) (hN : N.length = 3) : ∀ as h Q E, as.length = 2 → S_is_pact as h Q E → den_is_pact (startA N as) h (endsR Q) (RX E) := by
  rintro as h Q E - ⟨v, names, rfl, ok, q⟩
  have q := RT.same q
  unfold den_is_pact
  simp only [startA, hN]
  generalize hd : dCB fAll (aCons (dLc (dIt (dVar 0)) (.nm 2) tTrue (dCB fIsi (aCons (dVar 2) (aCons (dC (.ty "str")) aNil))) [2]) aNil) = da
  cases v with
  | tup vs =>
    have ok' : okDs vs = true := by rw [okD, Bool.and_eq_true] at ok; exact ok.1
    match vs, ok', q with
    | [a, b], ok', q =>
      simp only [okDs, Bool.and_eq_true] at ok'
      obtain ⟨oa, ob, -⟩ := ok'
      let isS : Val → Bool := fun v => match v with | .str _ => true | _ => false
      have key : ∀ {h : Hv} {Q : PV} {E : PX}, Q (.bl (isS a && isS b)) h → da [some (.tup [a, b]), some (.lst (names.map .str)), none] h Q E := fun {h Q E} q => by
        subst hd
        refine all_lc (items := [a, b]) (ok := fun _ => True) isS (fun R r => by simpa using r) (fun _ _ => trivial) (by show 2 ≤ sizeLine; decide) (fun v hv => ?_) ?_
        · have ov : okD v = true := by
            rcases List.mem_cons.mp hv with e | e
            · rw [e]; exact oa
            · rw [List.mem_singleton.mp e]; exact ob
          refine ⟨_, rfl, fun h' Q' _ q' => ?_⟩
          cases v <;> first | (simp [okD] at ov; done) | (simpa [isS] using q')
        · simpa using q
      simp [atI, ixN]
      refine key ?_
      cases a with
      | str x =>
        cases b with
        | str y =>
          simp [isS, inA_str, flat_strs]
          by_cases hx : x ∈ names
          · by_cases hy : y ∈ names
            · simpa [hx, hy, isPact, str_beq] using q
            · simpa [hx, hy, isPact] using q
          · simpa [hx, isPact] using q
        | _ => simpa [isS, isPact] using q
      | _ => simpa [isS, isPact] using q
    | [], _, q => simpa [isPact] using q
    | [_], _, q => simpa [isPact] using q
    | _ :: _ :: _ :: r, _, q =>
      have : ((r.length : Int) + 1 + 1 + 1 == 2) = false := by rw [beq_eq_false_iff_ne]; omega
      simpa [isPact, this] using q
  | non => simpa [isPact] using q
  | bl b => simpa [isPact] using q
  | int b => simpa [isPact] using q
  | str b => simpa [isPact] using q
  | lst b => simpa [isPact] using q
  | _ => simp [okD] at ok
theorem okD_tup {vs : List Val} (h : okD (.tup vs) = true) : okDs vs = true ∧ vs.length ≤ 1000 := by
  rw [okD, Bool.and_eq_true, decide_eq_true_eq] at h; exact h
theorem isLand_nm {v : Val} (h : isLand v = true) : ∃ z r, v = .tup (.str z :: r) ∧ nmOf v = z := by
  unfold isLand at h
  split at h
  · rename_i a b c d
    simp only [Bool.and_eq_true] at h
    have ha := h.1.1.1
    cases a with
    | str z => exact ⟨z, _, rfl, rfl⟩
    | _ => simp [isName] at ha
  · cases h
theorem isPact_str {v : Val} {names : List Str} (h : isPact v names = true) : ∃ a b, v = .tup [.str a, .str b] := by
  unfold isPact at h
  split at h
  · exact ⟨_, _, rfl⟩
  · cases h
theorem ris_strs : ∀ zs : List Str, ∃ b, risA (zs.map Val.str) = some b
  | [] => ⟨_, rfl⟩
  | [_] => ⟨_, rfl⟩
  | x :: y :: r => by
    obtain ⟨b, hb⟩ := ris_strs (y :: r)
    refine ⟨decide (x.cps.toList < y.cps.toList) && b, ?_⟩
    show (match ltA (.str x) (.str y), risA ((y :: r).map Val.str) with | some b, some c => some (b && c) | _, _ => none) = _
    rw [hb]; rfl
theorem lt_pair (a b c d : Str) : ∃ k, ltA (.tup [.str a, .str b]) (.tup [.str c, .str d]) = some k := by
  unfold ltA
  dsimp only
  rw [if_pos (by rfl)]
  unfold ltL
  split
  · unfold ltL
    split
    · exact ⟨_, rfl⟩
    · exact ⟨_, rfl⟩
  · exact ⟨_, rfl⟩
theorem ris_pacts : ∀ vs : List Val, (∀ v ∈ vs, ∃ a b, v = Val.tup [.str a, .str b]) → ∃ b, risA vs = some b
  | [], _ => ⟨_, rfl⟩
  | [_], _ => ⟨_, rfl⟩
  | x :: y :: r, h => by
    obtain ⟨b, hb⟩ := ris_pacts (y :: r) fun v hv => h v (List.mem_cons_of_mem _ hv)
    obtain ⟨a1, a2, rfl⟩ := h x List.mem_cons_self
    obtain ⟨b1, b2, rfl⟩ := h y (List.mem_cons_of_mem _ List.mem_cons_self)
    obtain ⟨k, hk⟩ := lt_pair a1 a2 b1 b2
    refine ⟨k && b, ?_⟩
    unfold risA
    rw [hb, hk]
theorem bo_is_book (N : List Str) (hN : N.length = 6) : ∀ as h Q E, as.length = 1 → S_is_book as h Q E → den_is_book (startA N as) h (endsR Q) (RX E) := by
  rintro as h Q E - ⟨v, rfl, ok, q⟩
  have q := RT.same q
  unfold den_is_book
  simp only [startA, hN]
  generalize hd : dCB fAll (aCons (dLc (dIt (dVar 1)) (.nm 4) tTrue (dCall 1 S_is_land (aCons (dVar 4) aNil)) [4]) aNil) = dl
  generalize hp : dCB fAll (aCons (dLc (dIt (dVar 2)) (.nm 5) tTrue (dCall 2 S_is_pact (aCons (dVar 5) (aCons (dVar 3) aNil))) [5]) aNil) = dp
  generalize hm : dLc (dIt (dVar 1)) (.nm 4) tTrue (dBin fIx (dVar 4) (dC (.int 0))) [4] = dm
  cases v with
  | tup vs =>
    have ok' := (okD_tup ok).1
    match vs, ok', q with
    | [l, ps], ok', q =>
      simp only [okDs, Bool.and_eq_true] at ok'
      obtain ⟨ol, op, -⟩ := ok'
      cases l with
      | tup lands =>
        obtain ⟨ols, oll⟩ := okD_tup ol
        have hlen := sl1000 oll
        have kl : ∀ {h : Hv} {Q : PV} {E : PX}, Q (.bl (lands.all isLand)) h → dl [some (.tup [.tup lands, ps]), some (.tup lands), some ps, none, none, none] h Q E := fun {h Q E} q => by
          subst hd
          refine all_lc (items := lands) (ok := fun _ => True) isLand (fun R r => by simpa using r) (fun _ _ => trivial) hlen (fun v hv => ⟨_, rfl, fun h' Q' _ q' => ?_⟩) q
          exact ⟨rfl, v, rfl, okDs_mem ols hv, q'⟩
        by_cases h1 : 1 ≤ lands.length
        · have h1' : (1 : Int) ≤ lands.length := by omega
          by_cases h4 : lands.length ≤ 4
          · have h4' : (lands.length : Int) ≤ 4 := by omega
            simp [atI, ixN, h1', h4']
            refine kl ?_
            cases ha : lands.all isLand with
            | false => simpa [isBook, ha] using q
            | true =>
              simp
              have km : ∀ {h : Hv} {Q : PV} {E : PX}, Q (.lst ((lands.map nmOf).map .str)) h → dm [some (.tup [.tup lands, ps]), some (.tup lands), some ps, none, none, none] h Q E := fun {h Q E} q => by
                subst hm
                refine lc_map (items := lands) (ok := fun _ => True) (fun v => .str (nmOf v)) (fun R r => by simpa using r) (fun _ _ => trivial) hlen (fun v hv => ⟨_, rfl, fun h' Q' _ q' => ?_⟩) (by rw [List.map_map] at q; exact q)
                obtain ⟨z, r, rfl, -⟩ := isLand_nm (List.all_eq_true.mp ha v hv)
                have : ixN (r.length + 1) 0 = some 0 := by simp [ixN]
                simp [atI, this]
                simpa [nmOf] using q'
              refine km ?_
              obtain ⟨b1, hb1⟩ := ris_strs (lands.map nmOf)
              refine ⟨_, _, b1, rfl, .inl rfl, by simpa using oll, hb1, ?_⟩
              have hb1' : risA (lands.map fun l => Val.str (nmOf l)) = some b1 := by rw [List.map_map] at hb1; exact hb1
              cases b1 with
              | false => simpa [isBook, ha, hb1'] using q
              | true =>
                simp
                cases ps with
                | tup ps =>
                  obtain ⟨ops, opl⟩ := okD_tup op
                  have plen := sl1000 opl
                  have kp : ∀ {h : Hv} {Q : PV} {E : PX}, Q (.bl (ps.all fun p => isPact p (lands.map nmOf))) h → dp [some (.tup [.tup lands, .tup ps]), some (.tup lands), some (.tup ps), some (.lst ((lands.map nmOf).map .str)), none, none] h Q E := fun {h Q E} q => by
                    subst hp
                    refine all_lc (items := ps) (ok := fun _ => True) (fun p => isPact p (lands.map nmOf)) (fun R r => by simpa using r) (fun _ _ => trivial) plen (fun v hv => ⟨_, rfl, fun h' Q' _ q' => ?_⟩) q
                    exact ⟨rfl, v, _, rfl, okDs_mem ops hv, q'⟩
                  simp
                  rw [← List.map_map]
                  refine kp ?_
                  cases hap : (ps.all fun p => isPact p (lands.map nmOf)) with
                  | false => simpa [isBook, ha, hb1', hap] using q
                  | true =>
                    simp
                    obtain ⟨b2, hb2⟩ := ris_pacts ps fun v hv => isPact_str (List.all_eq_true.mp hap v hv)
                    refine ⟨_, _, b2, rfl, .inr rfl, opl, hb2, ?_⟩
                    simpa [isBook, ha, hb1', hap, hb2, h1, h4] using q
                | non => simpa [isBook, ha, hb1'] using q
                | bl b => simpa [isBook, ha, hb1'] using q
                | int b => simpa [isBook, ha, hb1'] using q
                | str b => simpa [isBook, ha, hb1'] using q
                | lst b => simpa [isBook, ha, hb1'] using q
                | _ => simp [okD] at op
          · have h4' : ¬ (lands.length : Int) ≤ 4 := by omega
            simp [atI, ixN, h1', h4']
            simpa [isBook, h4] using q
        · have h1' : ¬ (1 : Int) ≤ lands.length := by omega
          simp [atI, ixN, h1']
          simpa [isBook, h1] using q
      | non => simpa [isBook, atI, ixN] using q
      | bl b => simpa [isBook, atI, ixN] using q
      | int b => simpa [isBook, atI, ixN] using q
      | str b => simpa [isBook, atI, ixN] using q
      | lst b => simpa [isBook, atI, ixN] using q
      | _ => simp [okD] at ol
    | [], _, q => simpa [isBook] using q
    | [_], _, q => simpa [isBook] using q
    | _ :: _ :: _ :: r, _, q =>
      have : ((r.length : Int) + 1 + 1 + 1 == 2) = false := by rw [beq_eq_false_iff_ne]; omega
      simpa [isBook, this] using q
  | non => simpa [isBook] using q
  | bl b => simpa [isBook] using q
  | int b => simpa [isBook] using q
  | str b => simpa [isBook] using q
  | lst b => simpa [isBook] using q
  | _ => simp [okD] at ok
theorem bo_names_of (N : List Str) (hN : N.length = 2) : ∀ as h Q E, as.length = 1 → S_names_of as h Q E → den_names_of (startA N as) h (endsR Q) (RX E) := by
  rintro as h Q E - ⟨b, rfl, hl, q⟩
  have q := RT.same q
  unfold den_names_of
  simp only [startA, hN]
  show dLc _ _ _ _ _ _ _ _ _
  refine lc_map (items := b.lands.map encL) (ok := fun _ => True) (fun v => .str (nmOf v)) (fun R r => by simpa [encB, atI, ixN] using r) (fun _ _ => trivial) (by rw [List.length_map]; exact sl1000 (by omega)) (fun v hv => ?_) ?_
  · obtain ⟨l, -, rfl⟩ := List.mem_map.mp hv
    refine ⟨_, rfl, fun h' Q' _ q' => ?_⟩
    simpa [encL, atI, ixN, nmOf] using q'
  · refine Qv q ?_
    simp [Book.names, encL, nmOf]
end DL
namespace DL
open PySem PySem.Spec PyProof.Rows L2
def den__law_draw : SD := (sSeq (sDPut (dVar 1) (dC (.str "count")) (dBin fAdd (dDGet (dVar 1) (dC (.str "count"))) (dC (.int 1)))) (sSeq (sSet 3 (dIfE (dTruth (dVar 0)) (dBin fMod (dDGet (dVar 1) (dC (.str "count"))) (dCB fLen (aCons (dVar 0) aNil))) (dC (.int 0)))) (sSeq (sSet 4 (dDGet2 (dDGet (dVar 1) (dC (.str "rests"))) (dVar 3) (dIfE (dTruth (dVar 0)) (dBin fIx (dVar 0) (dVar 3)) (dC (.int 0))))) (sSeq (sIf (dTest (dBin fGe (dVar 4) (dBin fPow (dC (.int 10)) (dC (.int 18))))) (sSeq (sDPut (dDGet (dVar 1) (dC (.str "rests"))) (dVar 3) (dBin fDiv (dVar 4) (dVar 2))) (sRet (dBin fMod (dVar 4) (dVar 2)))) sNext) (sSeq (sSet 5 (dBin fMod (dBin fAdd (dVar 4) (dBin fMulA (dC (.int 104729)) (dDGet (dVar 1) (dC (.str "count"))))) (dC (.int 4294967291)))) (sSeq (sSet 5 (dBin fMod (dBin fPow (dVar 5) (dC (.int 5))) (dC (.int 4294967279)))) (sRet (dBin fMod (dBin fDiv (dBin fMod (dBin fAdd (dBin fMulA (dBin fDiv (dVar 5) (dC (.int 64))) (dC (.int 69621))) (dVar 5)) (dC (.int 4294967231))) (dC (.int 8))) (dVar 2)))))))))
def den__law_begun : SD := (sRet (dDisp [((dC (.str "count")), (dC (.int 0))), ((dC (.str "rests")), dNewK)]))
def den__law_a_book : SD := (sSeq (sPar [2, 3, 4] (aCons (dSl fSl (dTup (aCons (dC (.str "ash")) (aCons (dC (.str "elm")) (aCons (dC (.str "fir")) aNil)))) oNone (oSome (dBin fAdd (dC (.int 1)) (dCall 3 S__law_draw (aCons (dVar 0) (aCons (dVar 1) (aCons (dC (.int 3)) aNil))))))) (aCons (dLstH aNil) (aCons (dLstH aNil) aNil)))) (sSeq (sFor (dIt (dVar 2)) (.nm 5) (sSeq (sSet 6 (dBin fAdd (dC (.int 1)) (dCall 3 S__law_draw (aCons (dVar 0) (aCons (dVar 1) (aCons (dC (.int 6)) aNil)))))) (sExpr (dBM "list" fAppend (dVar 3) (aCons (dTup (aCons (dVar 5) (aCons (dBin fAdd (dC (.int 1)) (dCall 3 S__law_draw (aCons (dVar 0) (aCons (dVar 1) (aCons (dVar 6) aNil))))) (aCons (dVar 6) (aCons (dCall 3 S__law_draw (aCons (dVar 0) (aCons (dVar 1) (aCons (dC (.int 9)) aNil)))) aNil))))) aNil))))) (sSeq (sFor (dIt (dVar 2)) (.nm 7) (sFor (dIt (dVar 2)) (.nm 8) (sIf (dAnd (dTest (dBin fNe (dVar 7) (dVar 8))) (dTest (dBin fEq (dCall 3 S__law_draw (aCons (dVar 0) (aCons (dVar 1) (aCons (dC (.int 3)) aNil)))) (dC (.int 0))))) (sExpr (dBM "list" fAppend (dVar 4) (aCons (dTup (aCons (dVar 7) (aCons (dVar 8) aNil))) aNil))) sNext))) (sRet (dTup (aCons (dCB fTuple (aCons (dVar 3) aNil)) (aCons (dCB fTuple (aCons (dVar 4) aNil)) aNil)))))))
end DL
namespace DL
open PySem PySem.Spec PyProof.Rows L2
theorem nd_len : ∀ (n : Nat) (l : List Nat), l.Nodup → (∀ x ∈ l, x < n) → l.length ≤ n
  | 0, [], _, _ => Nat.le_refl _
  | 0, x :: l, _, h => absurd (h x List.mem_cons_self) (Nat.not_lt_zero _)
  | n + 1, l, nd, h => by
    by_cases hm : n ∈ l
    · have := nd_len n (l.erase n) (nd.erase n) fun x hx => by
        have := (nd.mem_erase_iff).mp hx
        have := h x this.2
        have : x ≠ n := ‹x ≠ n ∧ _›.1
        omega
      rw [List.length_erase_of_mem hm] at this
      omega
    · have := nd_len n l nd fun x hx => by
        have := h x hx
        have : x ≠ n := fun e => hm (e ▸ hx)
        omega
      omega
theorem RsOk.len {rs : List (Key × Val)} (k : RsOk rs) : rs.length ≤ 64 := by
  obtain ⟨ks, e, nd, lt, -⟩ := k
  have := congrArg List.length e
  rw [List.length_map, List.length_map] at this
  rw [this]
  exact nd_len 64 ks nd lt
theorem RsOk.put {rs : List (Key × Val)} (k : RsOk rs) {i : Nat} (hi : i < 64) (z : Int) : RsOk (putA rs (.inl (i : Int)) (.int z)) := by
  obtain ⟨ks, e, nd, lt, iv⟩ := k
  unfold putA
  split
  · refine ⟨ks, ?_, nd, lt, ?_⟩
    · rw [List.map_map, ← e]
      refine List.map_congr_left fun kv _ => ?_
      show (if kv.1 = _ then (kv.1, _) else kv).1 = kv.1
      split <;> rfl
    · intro kv hkv
      obtain ⟨kw, hw, rfl⟩ := List.mem_map.mp hkv
      split
      · exact ⟨_, rfl⟩
      · exact iv kw hw
  · rename_i hn
    refine ⟨ks ++ [i], by rw [List.map_append, List.map_append, e]; rfl, ?_, ?_, ?_⟩
    · rw [List.nodup_append]
      refine ⟨nd, by simp, ?_⟩
      intro a ha b hb hab
      rw [List.mem_singleton] at hb
      subst hb; subst hab
      apply hn
      have : (Sum.inl (a : Int) : Key) ∈ rs.map (·.1) := by rw [e]; exact List.mem_map.mpr ⟨a, ha, rfl⟩
      obtain ⟨kv, hkv, ek⟩ := List.mem_map.mp this
      exact List.any_eq_true.mpr ⟨kv, hkv, by rw [ek]; simp⟩
    · intro k hk
      rcases List.mem_append.mp hk with h | h
      · exact lt k h
      · rw [List.mem_singleton] at h; omega
    · intro kv hkv
      rcases List.mem_append.mp hkv with h | h
      · exact iv kv h
      · rw [List.mem_singleton] at h; subst h; exact ⟨_, rfl⟩
theorem RsOk.val {rs : List (Key × Val)} (k : RsOk rs) (i : Int) : valA rs (.inl i) = none ∨ ∃ z, valA rs (.inl i) = some (.int z) := by
  obtain ⟨ks, e, nd, lt, iv⟩ := k
  unfold valA
  cases hf : rs.find? fun kv => decide (kv.1 = Sum.inl i) with
  | none => exact .inl rfl
  | some kv =>
    obtain ⟨z, hz⟩ := iv kv (List.mem_of_find?_eq_some hf)
    exact .inr ⟨z, by rw [Option.map_some, hz]⟩
theorem put_count (c z : Int) (r : Addr) : putA [((.inr "count" : Key), Val.int c), (.inr "rests", .ref r)] (.inr "count") (.int z) = [(.inr "count", .int z), (.inr "rests", .ref r)] := by
  simp [putA, show ¬ Str.ofString "rests" = Str.ofString "count" by decide]
theorem val_count (c : Int) (r : Addr) : valA [((.inr "count" : Key), Val.int c), (.inr "rests", .ref r)] (.inr "count") = some (.int c) := by
  simp [valA]
theorem val_rests (c : Int) (r : Addr) : valA [((.inr "count" : Key), Val.int c), (.inr "rests", .ref r)] (.inr "rests") = some (.ref r) := by
  simp [valA, show ¬ Str.ofString "count" = Str.ofString "rests" by decide]
theorem bo__law_draw (N : List Str) (hN : N.length = 6) : ∀ as h Q E, as.length = 3 → S__law_draw as h Q E → den__law_draw (startA N as) h (endsR Q) (RX E) := by
  rintro as h Q E - ⟨ns, t, r, m, rfl, m1, m2, nl, T, q⟩
  obtain ⟨c, c0, ht⟩ := T.tc
  obtain ⟨rs, hr, ro⟩ := T.rc
  have ne := T.ne
  -- the town behind the first deed
  have h1 : ∃ h1, h1 = put h t (.dK [(.inr "count", .int (c + 1)), (.inr "rests", .ref r)]) := ⟨_, rfl⟩
  obtain ⟨h1, e1⟩ := h1
  have h1t : h1 t = some (.dK [(.inr "count", .int (c + 1)), (.inr "rests", .ref r)]) := by rw [e1, put_same]
  have h1r : h1 r = some (.dK rs) := by rw [e1, put_ne ne.symm]; exact hr
  have o1 : Only t r h h1 := fun a x y => by rw [e1, put_ne x]
  have T1 : Town t r h1 := ⟨ne, ⟨c + 1, by omega, h1t⟩, ⟨rs, h1r, ro⟩⟩
  have p1 : dputA (.ref t) (.str "count") (.int (c + 1)) h = some h1 := by
    simp only [dputA, ht, keyOf]
    rw [if_pos (by show 2 < sizeLine; decide), put_count, e1]
  -- what is drawn
  have fin : ∀ (at' : Nat) (z : Int), at' < 64 → sSeq (sIf (dTest (dBin fGe (dVar 4) (dBin fPow (dC (.int 10)) (dC (.int 18))))) (sSeq (sDPut (dDGet (dVar 1) (dC (.str "rests"))) (dVar 3) (dBin fDiv (dVar 4) (dVar 2))) (sRet (dBin fMod (dVar 4) (dVar 2)))) sNext) (sSeq (sSet 5 (dBin fMod (dBin fAdd (dVar 4) (dBin fMulA (dC (.int 104729)) (dDGet (dVar 1) (dC (.str "count"))))) (dC (.int 4294967291)))) (sSeq (sSet 5 (dBin fMod (dBin fPow (dVar 5) (dC (.int 5))) (dC (.int 4294967279)))) (sRet (dBin fMod (dBin fDiv (dBin fMod (dBin fAdd (dBin fMulA (dBin fDiv (dVar 5) (dC (.int 64))) (dC (.int 69621))) (dVar 5)) (dC (.int 4294967231))) (dC (.int 8))) (dVar 2))))) [some (.scr ns), some (.ref t), some (.int m), some (.int at'), some (.int z), none] h1 (endsR Q) (RX E) := fun at' z ha => by
    by_cases hz : 10 ^ 18 ≤ z
    · have pw : CPow 10 18 := ⟨by decide, by decide, by decide⟩
      have dv : CDiv z m := ⟨m1, m2⟩
      have p2 : dputA (.ref r) (.int at') (.int (z / m)) h1 = some (put h1 r (.dK (putA rs (.inl (at' : Int)) (.int (z / m))))) := by
        simp only [dputA, h1r, keyOf]
        rw [if_pos (by have := ro.len; rw [sizeLine_eq]; omega)]
      have hz' : (1000000000000000000 : Int) ≤ z := hz
      have fg : ∀ P : Val → Hv → Prop, P (.bl true) h1 → fGe (.int z) (.int 1000000000000000000) h1 P := fun P p => by
        show P (.bl (decide _)) h1
        rw [show decide ((1000000000000000000 : Int) ≤ z) = true from decide_eq_true hz']
        exact p
      simp [pw, dv, h1t, val_rests, p2, m1, hz']
      refine RT.same (q _ _ (Int.emod_nonneg _ (by omega)) (Int.emod_lt_of_pos _ m1) ⟨ne, ⟨c + 1, by omega, by rw [put_ne ne]; exact h1t⟩, ⟨_, put_same, ro.put ha _⟩⟩ fun a x y => by rw [put_ne y]; exact o1 a x y)
    · have pw : CPow 10 18 := ⟨by decide, by decide, by decide⟩
      have hz' : ¬ (1000000000000000000 : Int) ≤ z := hz
      obtain ⟨u, eu⟩ : ∃ u, u = (z + 104729 * (c + 1)) % 4294967291 := ⟨_, rfl⟩
      have u0 : 0 ≤ u := by rw [eu]; exact Int.emod_nonneg _ (by decide)
      have u1 : u < 4294967291 := by rw [eu]; exact Int.emod_lt_of_pos _ (by decide)
      have pw2 : CPow u 5 := ⟨by decide, by decide, by
        have : (2:Nat) ^ 64 = 18446744073709551616 := by decide
        omega⟩
      obtain ⟨w, ew⟩ : ∃ w, w = u ^ 5 % 4294967279 := ⟨_, rfl⟩
      have w0 : 0 ≤ w := by rw [ew]; exact Int.emod_nonneg _ (by decide)
      have cm : CMul 104729 (c + 1) := .inl ⟨by decide, by decide⟩
      have cm2 : CMul (w / 64) 69621 := .inr ⟨by decide, by decide⟩
      have cd1 : CDiv w 64 := ⟨by decide, by decide⟩
      have cd2 : ∀ x, CDiv x 8 := fun _ => ⟨by decide, by decide⟩
      simp [pw, hz', h1t, val_count, cm, ← eu, pw2, ← ew, cd1, cm2, cd2, m1]
      exact RT.same (q _ _ (Int.emod_nonneg _ (by omega)) (Int.emod_lt_of_pos _ m1) T1 o1)
  unfold den__law_draw
  simp only [startA, hN]
  generalize hg : sSeq (sIf (dTest (dBin fGe (dVar 4) (dBin fPow (dC (.int 10)) (dC (.int 18))))) (sSeq (sDPut (dDGet (dVar 1) (dC (.str "rests"))) (dVar 3) (dBin fDiv (dVar 4) (dVar 2))) (sRet (dBin fMod (dVar 4) (dVar 2)))) sNext) (sSeq (sSet 5 (dBin fMod (dBin fAdd (dVar 4) (dBin fMulA (dC (.int 104729)) (dDGet (dVar 1) (dC (.str "count"))))) (dC (.int 4294967291)))) (sSeq (sSet 5 (dBin fMod (dBin fPow (dVar 5) (dC (.int 5))) (dC (.int 4294967279)))) (sRet (dBin fMod (dBin fDiv (dBin fMod (dBin fAdd (dBin fMulA (dBin fDiv (dVar 5) (dC (.int 64))) (dC (.int 69621))) (dVar 5)) (dC (.int 4294967231))) (dC (.int 8))) (dVar 2))))) = dd at fin ⊢
  cases ns with
  | nil =>
    have := fun z => fin 0 z (by decide)
    simp only [sSeq, sDPut, dBin, dDGet, dVar, dC, sSet, dIfE, dTruth, dDGet2]
    rcases ro.val 0 with e | ⟨z, e⟩
    · simp [ht, h1t, h1r, val_count, val_rests, p1, e]
      exact this 0
    · simp [ht, h1t, h1r, val_count, val_rests, p1, e]
      exact this z
  | cons n ns =>
    rw [List.length_cons] at nl
    obtain ⟨k, ek⟩ : ∃ k : Nat, (c + 1) % ((ns.length : Int) + 1) = k := ⟨((c + 1) % ((ns.length : Int) + 1)).toNat, by
      have := Int.emod_nonneg (c + 1) (b := (ns.length : Int) + 1) (by omega)
      omega⟩
    have hk : k < ns.length + 1 := by
      have := Int.emod_lt_of_pos (c + 1) (b := (ns.length : Int) + 1) (by omega)
      omega
    have := fun z => fin k z (by omega)
    have at1 : ∃ z, atI ((n :: ns).map Val.int) (k : Int) = some (.int z) := by
      have hk' : k < ((n :: ns).map Val.int).length := by simpa using hk
      refine ⟨(n :: ns)[k]'(by simpa using hk), ?_⟩
      rw [atI_nat hk', List.getElem_map]
    obtain ⟨z0, ez0⟩ := at1
    rw [List.map_cons] at ez0
    have lp : (0 : Int) < (ns.length : Int) + 1 := by omega
    simp only [sSeq, sDPut, dBin, dDGet, dVar, dC, sSet, dIfE, dTruth, dDGet2]
    rcases ro.val k with e | ⟨z, e⟩
    · simp [ht, h1t, h1r, val_count, val_rests, p1, e, ek, ez0, lp]
      exact this z0
    · simp [ht, h1t, h1r, val_count, val_rests, p1, e, ek, ez0, lp]
      exact this z
theorem bo__law_begun (N : List Str) (hN : N.length = 0) : ∀ as h Q E, as.length = 0 → S__law_begun as h Q E → den__law_begun (startA N as) h (endsR Q) (RX E) := by
  rintro as h Q E - ⟨rfl, q⟩
  unfold den__law_begun
  simp only [startA, hN]
  simp [dDisp, dPairs]
  intro t ht r hr
  have ne : t ≠ r := fun e => by rw [e, put_same] at hr; cases hr
  have e : putA (putA [] (Sum.inr (Str.ofString "count")) (Val.int 0)) (Sum.inr (Str.ofString "rests")) (Val.ref r) = [((.inr "count" : Key), Val.int 0), (.inr "rests", .ref r)] := by
    simp [putA, show ¬ Str.ofString "count" = Str.ofString "rests" by decide]
  rw [e]
  refine RT.same (q t r _ ht (by rw [put_ne ne.symm] at hr; exact hr) ⟨ne, ⟨0, by decide, put_same⟩, ⟨[], by rw [put_ne ne.symm, put_same], [], rfl, List.nodup_nil, by simp, by simp⟩⟩ fun a x y => by rw [put_ne x, put_ne y, put_ne x])
def dropAll (ps : List Addr) (h : Hv) : Hv := fun a => if a ∈ ps then none else h a
theorem dropAll_less {ps : List Addr} {h : Hv} (nb : ∀ p ∈ ps, h p ≠ some .busy) : Lss h (dropAll ps h) := ⟨fun a => by
  unfold dropAll; split
  · exact .inl rfl
  · exact .inr rfl, fun a e => by
  unfold dropAll; split
  · rename_i m; exact absurd e (nb a m)
  · exact e⟩
def Ext (t r : Addr) (ps : List Addr) (h h' : Hv) : Prop := ∀ a, a ≠ t → a ≠ r → a ∉ ps → h' a = h a
theorem Ext.only {t r : Addr} {ps : List Addr} {h h' : Hv} (e : Ext t r ps h h') (f : ∀ p ∈ ps, h p = none) : Only t r h (dropAll ps h') := fun a x y => by
  unfold dropAll
  split
  · rename_i m; exact (f a m).symm
  · rename_i m; exact e a x y m
theorem Town.dropAll {t r : Addr} {ps : List Addr} {h : Hv} (T : Town t r h) (n1 : t ∉ ps) (n2 : r ∉ ps) : Town t r (dropAll ps h) :=
  ⟨T.ne, by
    obtain ⟨c, c0, e⟩ := T.tc
    exact ⟨c, c0, by unfold DL.dropAll; rw [if_neg n1]; exact e⟩, by
    obtain ⟨rs, e, k⟩ := T.rc
    exact ⟨rs, by unfold DL.dropAll; rw [if_neg n2]; exact e, k⟩⟩
theorem Town.put {t r p : Addr} {o : Ob} {h : Hv} (T : Town t r h) (n1 : p ≠ t) (n2 : p ≠ r) : Town t r (DL.put h p o) :=
  ⟨T.ne, by
    obtain ⟨c, c0, e⟩ := T.tc
    exact ⟨c, c0, by rw [put_ne n1.symm]; exact e⟩, by
    obtain ⟨rs, e, k⟩ := T.rc
    exact ⟨rs, by rw [put_ne n2.symm]; exact e, k⟩⟩
theorem Town.some {t r : Addr} {h : Hv} (T : Town t r h) : h t ≠ none ∧ h r ≠ none := by
  obtain ⟨c, c0, e⟩ := T.tc
  obtain ⟨rs, e2, k⟩ := T.rc
  exact ⟨by rw [e]; simp, by rw [e2]; simp⟩
theorem Town.fresh {t r p : Addr} {h : Hv} (T : Town t r h) (e : h p = none) : p ≠ t ∧ p ≠ r :=
  ⟨fun q => T.some.1 (q ▸ e), fun q => T.some.2 (q ▸ e)⟩
def threeN (names : List Str) : Prop := ∃ k, 1 ≤ k ∧ k ≤ 3 ∧ names = (["ash", "elm", "fir"] : List Str).take k
theorem take3 {n : Int} (h0 : 0 ≤ n) (h3 : n < 3) : ∃ names, threeN names ∧ cutA [Val.str "ash", .str "elm", .str "fir"] none (some (1 + n)) = names.map .str := by
  rcases (show n = 0 ∨ n = 1 ∨ n = 2 by omega) with rfl | rfl | rfl
  · exact ⟨_, ⟨1, by omega, by omega, rfl⟩, rfl⟩
  · exact ⟨_, ⟨2, by omega, by omega, rfl⟩, rfl⟩
  · exact ⟨_, ⟨3, by omega, by omega, rfl⟩, rfl⟩
theorem threeN.len {names : List Str} (h : threeN names) : 1 ≤ names.length ∧ names.length ≤ 3 := by
  obtain ⟨k, h1, h3, rfl⟩ := h
  rw [List.length_take]
  show 1 ≤ min k 3 ∧ min k 3 ≤ 3
  omega
def prs (names : List Str) (x : Str) : List (Str × Str) := (names.filter fun y => decide (x ≠ y)).map fun y => (x, y)
def pairsOf (names : List Str) : List (Str × Str) := names.flatMap (prs names)
theorem drawn_wf {b : Book} (nm : threeN b.names) (sh : ∀ l ∈ b.lands, 1 ≤ l.p ∧ l.p ≤ l.q ∧ l.q ≤ 6 ∧ 0 ≤ l.pr ∧ l.pr ≤ 8) (ps : b.pacts.Sublist (pairsOf b.names)) : Drawn b := by
  have hl : b.lands.length = b.names.length := by unfold Book.names; rw [List.length_map]
  have h3 := nm.len
  have ln := ps.length_le
  obtain ⟨k, k1, k3, ek⟩ := nm
  have pu : (pairsOf b.names).Pairwise fun x y => x.1.cps.toList < y.1.cps.toList ∨ (x.1 = y.1 ∧ x.2.cps.toList < y.2.cps.toList) := by
    rw [ek]
    rcases (show k = 1 ∨ k = 2 ∨ k = 3 by omega) with rfl | rfl | rfl <;> decide
  have pl : (pairsOf b.names).length ≤ 16 := by
    rw [ek]
    rcases (show k = 1 ∨ k = 2 ∨ k = 3 by omega) with rfl | rfl | rfl <;> decide
  refine ⟨⟨by omega, by omega, ?_, fun l hl => ?_, ?_, fun p hp => ?_, pu.sublist ps, by omega⟩, ⟨k, k1, k3, ek⟩, sh⟩
  · intro l hl
    have : l.nm ∈ (["ash", "elm", "fir"] : List Str) := by
      have : l.nm ∈ b.names := List.mem_map.mpr ⟨l, hl, rfl⟩
      rw [ek] at this
      exact List.mem_of_mem_take this
    rcases List.mem_cons.mp this with e | this
    · rw [e]; decide
    rcases List.mem_cons.mp this with e | this
    · rw [e]; decide
    rw [List.mem_singleton.mp this]; decide
  · have := sh l hl; omega
  · rw [ek]
    rcases (show k = 1 ∨ k = 2 ∨ k = 3 by omega) with rfl | rfl | rfl <;> decide
  · obtain ⟨x, hx, hy⟩ := List.mem_flatMap.mp (ps.subset hp)
    obtain ⟨y, hy', rfl⟩ := List.mem_map.mp hy
    have := List.mem_filter.mp hy'
    exact ⟨hx, this.1, of_decide_eq_true this.2⟩
theorem draw_ask {ns : List Int} {t r : Addr} {m : Int} {h : Hv} {Q : PV} {E : PF} (nl : ns.length ≤ 63) (m0 : 0 < m) (m1 : m < 1073741824) (T : Town t r h) (q : ∀ n h', 0 ≤ n → n < m → Town t r h' → Only t r h h' → Q (.int n) h') : S__law_draw [.scr ns, .ref t, .int m] h Q E := ⟨ns, t, r, m, rfl, m0, m1, nl, T, q⟩
theorem bo__law_a_book (N : List Str) (hN : N.length = 9) : ∀ as h Q E, as.length = 2 → S__law_a_book as h Q E → den__law_a_book (startA N as) h (endsR Q) (RX E) := by
  rintro as h0 Q E - ⟨ns, t, r, rfl, nl, T0, q⟩
  unfold den__law_a_book
  simp only [startA, hN]
  generalize hL1 : sFor (dIt (dVar 2)) (.nm 5) _ = L1
  generalize hL2 : sFor (dIt (dVar 2)) (.nm 7) _ = L2
  generalize hR : sRet (dTup _) = R
  simp
  refine ⟨by decide, draw_ask nl (by decide) (by decide) T0 fun n h1 n0 n3 T1 o1 => ?_⟩
  obtain ⟨names, tn, en⟩ := take3 n0 n3
  have nlen := tn.len
  simp [en]
  intro pl hpl pp hpp
  obtain ⟨l1, l2⟩ := T1.fresh hpl
  have T2 := T1.put (o := .lst []) l1 l2
  obtain ⟨p1, p2⟩ := T2.fresh hpp
  have T3 := T2.put (o := .lst []) p1 p2
  have lp : pl ≠ pp := fun e => by rw [e, put_same] at hpp; cases hpp
  have hpp1 : h1 pp = none := by rw [put_ne lp.symm] at hpp; exact hpp
  have h0l : h0 pl = none := by rw [← o1 pl l1 l2]; exact hpl
  have h0p : h0 pp = none := by rw [← o1 pp p1 p2]; exact hpp1
  have x3 : Ext t r [pl, pp] h0 (put (put h1 pl (.lst [])) pp (.lst [])) := fun a x y z => by
    simp at z
    rw [put_ne z.2, put_ne z.1]; exact o1 a x y
  -- the first loop
  subst hL1
  refine for_ind (fun vs ρ h => ∃ (done : List Land) (rest : List Str) (x5 x6 : Option Val), vs = rest.map .str ∧ names = done.map (·.nm) ++ rest ∧ ρ = [some (.scr ns), some (.ref t), some (.tup (names.map .str)), some (.ref pl), some (.ref pp), x5, x6, none, none] ∧ h pl = some (.lst (done.map encL)) ∧ h pp = some (.lst []) ∧ Town t r h ∧ Ext t r [pl, pp] h0 h ∧ ∀ l ∈ done, 1 ≤ l.p ∧ l.p ≤ l.q ∧ l.q ≤ 6 ∧ 0 ≤ l.pr ∧ l.pr ≤ 8) ?_ ?_ _ _ _ ⟨[], names, none, none, rfl, rfl, rfl, by rw [put_ne lp, put_same]; rfl, put_same, T3, x3, by simp⟩
  · rintro ρ h ⟨done, rest, x5, x6, e1, e2, rfl, gl, gp, T, x, sh⟩
    refine ⟨trivial, ?_⟩
    have : rest = [] := by cases rest with
      | nil => rfl
      | cons _ _ => cases e1
    subst this
    rw [List.append_nil] at e2
    show L2 _ _ _ _
    -- the second loop
    subst hL2
    have eT : dIt (dVar 2) = dIt (dVar 2) := rfl
    refine for_ind (fun vs ρ h => ∃ (pre rest : List Str) (ps : List (Str × Str)) (x5 x6 x7 x8 : Option Val), vs = rest.map .str ∧ names = pre ++ rest ∧ ρ = [some (.scr ns), some (.ref t), some (.tup (names.map .str)), some (.ref pl), some (.ref pp), x5, x6, x7, x8] ∧ h pl = some (.lst (done.map encL)) ∧ h pp = some (.lst (ps.map encP)) ∧ Town t r h ∧ Ext t r [pl, pp] h0 h ∧ ps.Sublist (pre.flatMap (prs names)) ∧ ps.length ≤ 3 * pre.length) ?_ ?_ _ _ _ ⟨[], names, [], x5, x6, none, none, rfl, rfl, rfl, gl, gp, T, x, List.nil_sublist _, Nat.zero_le _⟩
    · rintro ρ h ⟨pre, rest, ps, x5, x6, x7, x8, e1, e3, rfl, gl, gp, T, x, sl, pln⟩
      have : rest = [] := by cases rest with
        | nil => rfl
        | cons _ _ => cases e1
      subst this
      rw [List.append_nil] at e3
      refine ⟨trivial, ?_⟩
      subst hR
      dsimp only
      simp [gl, gp]
      refine ⟨by decide, RT.less (dropAll_less (ps := [pl, pp]) ?_) (q ⟨done, ps⟩ _ (drawn_wf (b := ⟨done, ps⟩) ?_ sh ?_) (T.dropAll ?_ ?_) (x.only ?_))⟩
      · intro p hp
        simp at hp
        rcases hp with rfl | rfl
        · rw [gl]; simp
        · rw [gp]; simp
      · show threeN (done.map (·.nm))
        rw [← e2]; exact tn
      · show ps.Sublist (pairsOf (done.map (·.nm)))
        rw [← e2]
        rw [← e3] at sl
        exact sl
      · simp [l1.symm, p1.symm]
      · simp [l2.symm, p2.symm]
      · intro p hp
        simp at hp
        rcases hp with rfl | rfl
        · exact h0l
        · exact h0p
    · rintro v vs ρ h ⟨pre, rest, ps, x5, x6, x7, x8, e1, e3, rfl, gl, gp, T, x, sl, pln⟩
      cases rest with
      | nil => cases e1
      | cons z rest =>
        rw [List.map_cons, List.cons.injEq] at e1
        obtain ⟨rfl, rfl⟩ := e1
        refine ⟨trivial, _, rfl, fun N hN => ?_⟩
        show forL _ _ _ _ _ _ _ _
        refine for_ind (fun vs ρ h => ∃ (gpre grest : List Str) (ps : List (Str × Str)) (x5 x6 x8 : Option Val), vs = grest.map .str ∧ names = gpre ++ grest ∧ ρ = [some (.scr ns), some (.ref t), some (.tup (names.map .str)), some (.ref pl), some (.ref pp), x5, x6, some (.str z), x8] ∧ h pl = some (.lst (done.map encL)) ∧ h pp = some (.lst (ps.map encP)) ∧ Town t r h ∧ Ext t r [pl, pp] h0 h ∧ ps.Sublist (pre.flatMap (prs names) ++ prs gpre z) ∧ ps.length ≤ 3 * pre.length + gpre.length) ?_ ?_ _ _ _ ⟨[], names, ps, x5, x6, x8, rfl, rfl, rfl, gl, gp, T, x, by simpa [prs] using sl, pln⟩
        · rintro ρ h ⟨gpre, grest, ps, x5, x6, x8, e1, e4, rfl, gl, gp, T, x, sl, pln⟩
          have : grest = [] := by cases grest with
            | nil => rfl
            | cons _ _ => cases e1
          subst this
          rw [List.append_nil] at e4
          refine ⟨trivial, hN _ _ ⟨pre ++ [z], rest, ps, x5, x6, some (.str z), x8, rfl, by rw [e3]; simp, rfl, gl, gp, T, x, ?_⟩⟩
          have : names.length = gpre.length := by rw [e4]
          rw [← e4] at sl
          exact ⟨by simpa using sl, by rw [List.length_append, List.length_singleton]; omega⟩
        · rintro v vs ρ h ⟨gpre, grest, ps, x5, x6, x8, e1, e4, rfl, gl, gp, T, x, sl, pln⟩
          cases grest with
          | nil => cases e1
          | cons y grest =>
            rw [List.map_cons, List.cons.injEq] at e1
            obtain ⟨rfl, rfl⟩ := e1
            refine ⟨trivial, _, rfl, fun N hN => ?_⟩
            have l3 := congrArg List.length e3
            rw [List.length_append, List.length_cons] at l3
            have l4 := congrArg List.length e4
            rw [List.length_append, List.length_cons] at l4
            have gl5 : (ps.map encP).length < sizeLine := by rw [List.length_map, sizeLine_eq]; omega
            have sub1 : ps.Sublist (pre.flatMap (prs names) ++ prs (gpre ++ [y]) z) := by
              refine sl.trans ?_
              unfold prs
              rw [List.filter_append, List.map_append]
              exact List.Sublist.append_left (List.sublist_append_left _ _) _
            have e4' : names = (gpre ++ [y]) ++ grest := by rw [e4]; simp
            have lg : (gpre ++ [y]).length = gpre.length + 1 := by simp
            by_cases hzy : z = y
            · subst hzy
              simp
              exact hN _ _ ⟨gpre ++ [z], grest, ps, x5, x6, some (.str z), rfl, e4', rfl, gl, gp, T, x, sub1, by omega⟩
            · have hzy' : (z == y) = false := by simpa using hzy
              simp [dBM, hzy, hzy']
              refine draw_ask nl (by decide) (by decide) T fun n1 h1 a0 a1 T1 o1 => ?_
              have gl1 : h1 pl = some (.lst (done.map encL)) := by rw [o1 pl l1 l2]; exact gl
              have gp1 : h1 pp = some (.lst (ps.map encP)) := by rw [o1 pp p1 p2]; exact gp
              have x1 : Ext t r [pl, pp] h0 h1 := fun a u v w => (o1 a u v).trans (x a u v w)
              by_cases hn : n1 = 0
              · subst hn
                simp [tyA, fAppend, gp1]
                refine ⟨by decide, by simpa using gl5, hN _ _ ⟨gpre ++ [y], grest, ps ++ [(z, y)], x5, x6, some (.str y), rfl, e4', rfl, by rw [put_ne lp]; exact gl1, by rw [put_same]; simp [encP], T1.put p1 p2, ?_, ?_, by rw [List.length_append, List.length_singleton]; omega⟩⟩
                · intro a u v w
                  have : a ≠ pp := fun e => w (by rw [e]; simp)
                  rw [put_ne this]; exact x1 a u v w
                · unfold prs
                  rw [List.filter_append, List.map_append, ← List.append_assoc]
                  refine List.Sublist.append sl ?_
                  simp [hzy]
              · have hn' : (n1 == 0) = false := by simpa using hn
                simp [hn, hn']
                exact hN _ _ ⟨gpre ++ [y], grest, ps, x5, x6, some (.str y), rfl, e4', rfl, gl1, gp1, T1, x1, sub1, by omega⟩
  · rintro v vs ρ h ⟨done, rest, x5, x6, e1, e2, rfl, gl, gp, T, x, sh⟩
    refine ⟨trivial, ?_⟩
    cases rest with
    | nil => cases e1
    | cons z rest =>
      rw [List.map_cons, List.cons.injEq] at e1
      obtain ⟨rfl, rfl⟩ := e1
      refine ⟨_, rfl, fun N hN => ?_⟩
      simp [dBM]
      refine draw_ask nl (by decide) (by decide) T fun n1 h1 a0 a1 T1 o1 => ?_
      dsimp only
      have gl1 : h1 pl = some (.lst (done.map encL)) := by rw [o1 pl l1 l2]; exact gl
      refine ⟨by simp [tyA, gl1], draw_ask nl (by omega) (by omega) T1 fun n2 h2 b0 b1 T2 o2 => ?_⟩
      dsimp only
      refine draw_ask nl (by decide) (by decide) T2 fun n3 h3 c0 c1 T3 o3 => ⟨by decide, ?_⟩
      have o13 := o1.trans (o2.trans o3)
      have gl3 : h3 pl = some (.lst (done.map encL)) := by rw [o13 pl l1 l2]; exact gl
      have gp3 : h3 pp = some (.lst []) := by rw [o13 pp p1 p2]; exact gp
      have dl : done.length ≤ 3 := by
        have := congrArg List.length e2
        rw [List.length_append, List.length_map] at this
        omega
      simp only [fAppend, gl3]
      refine ⟨by rw [List.length_map, sizeLine_eq]; omega, hN _ _ ⟨done ++ [⟨z, 1 + n2, 1 + n1, n3⟩], rest, some (.str z), some (.int (1 + n1)), rfl, by rw [e2]; simp, rfl, ?_, ?_, T3.put l1 l2, ?_, ?_⟩⟩
      · rw [put_same, List.map_append]; rfl
      · rw [put_ne lp.symm]; exact gp3
      · intro a u v w
        have : a ≠ pl := fun e => w (by rw [e]; simp)
        rw [put_ne this, o13 a u v]; exact x a u v w
      · intro l hl
        rcases List.mem_append.mp hl with e | e
        · exact sh l e
        · rw [List.mem_singleton.mp e]
          show 1 ≤ 1 + n2 ∧ 1 + n2 ≤ 1 + n1 ∧ 1 + n1 ≤ 6 ∧ 0 ≤ n3 ∧ n3 ≤ 8
          omega
end DL
namespace DL
open PySem PySem.Spec PyProof.Rows L2
theorem Drawn.short {b : Book} (d : Drawn b) : ∀ z ∈ b.names, z ∈ (["ash", "elm", "fir"] : List Str) := fun z hz => by
  obtain ⟨k, -, -, e⟩ := d.nm
  rw [e] at hz
  exact List.mem_of_mem_take hz
theorem okDs_of {vs : List Val} (h : ∀ v ∈ vs, okD v = true) : okDs vs = true := by
  induction vs with
  | nil => rfl
  | cons v vs ih => rw [okDs, h v List.mem_cons_self, ih fun w hw => h w (List.mem_cons_of_mem _ hw)]; rfl
theorem ix_lands {b : Book} {h : Hv} {Q : PV} : fIx (encB b) (.int 0) h Q = Q (.tup (b.lands.map encL)) h := rfl
end DL
namespace DL
open PySem PySem.Spec PyProof.Rows L2
def den_row_of : SD := (sRet (dBin fIx (dLc (dIt (dBin fIx (dVar 0) (dC (.int 0)))) (.nm 2) (dTest (dBin fEq (dBin fIx (dVar 2) (dC (.int 0))) (dVar 1))) (dVar 2) [2]) (dC (.int 0))))
def den__law_row : SD := (sRet (dBin fIx (dLc (dIt (dBin fIx (dVar 0) (dC (.int 0)))) (.nm 2) (dTest (dBin fEq (dBin fIx (dVar 2) (dC (.int 0))) (dVar 1))) (dVar 2) [2]) (dC (.int 0))))
end DL
namespace DL
open PySem PySem.Spec PyProof.Rows L2
theorem row_lc {h : Hv} {Q : PV} {E : PX} {b : Book} {z : Str} {l : Land} (bl : b.lands.length ≤ 4) (hl : rowA b z = some l) (q : Q (encL l) h) :
    dBin fIx (dLc (dIt (dBin fIx (dVar 0) (dC (.int 0)))) (.nm 2) (dTest (dBin fEq (dBin fIx (dVar 2) (dC (.int 0))) (dVar 1))) (dVar 2) [2]) (dC (.int 0)) [some (encB b), some (.str z), none] h Q E := by
  show dLc _ _ _ _ _ _ _ _ _
  refine lc_filt (items := b.lands.map encL) (ok := fun _ => True) (fun v => decide (nmOf v = z)) (fun v => v) (fun R r => by simp only [sSet, sFor, sIf, sRet, sExpr, sPar, sAsg, sSeq, sNext, sAug, dIt, dTup, dLst, dLstH, dCB, dCall, dCallK, dBin, dUn, dTest, dChain, dIfE, aCons, aNil, dVar, dC, dTruth, dNot, dAnd, dOr, vAnd, vOr, vNot, dBM, dSl, dRev, oSome, oNone]; simpa [↓ix_lands] using r) (fun _ _ => trivial) (by rw [List.length_map]; exact sl1000 (by omega)) (fun v hv => ?_) ?_
  · obtain ⟨l, -, rfl⟩ := List.mem_map.mp hv
    refine ⟨_, rfl, fun h' Q' _ q' => ?_, fun _ h' Q' _ q' => by simpa using q'⟩
    simp only [sSet, sFor, sIf, sRet, sExpr, sPar, sAsg, sSeq, sNext, sAug, dIt, dTup, dLst, dLstH, dCB, dCall, dCallK, dBin, dUn, dTest, dChain, dIfE, aCons, aNil, dVar, dC, dTruth, dNot, dAnd, dOr, vAnd, vOr, vNot, dBM, dSl, dRev, oSome, oNone]
    simp [encL, atI, ixN]
    simp only [encL, nmOf] at q'
    by_cases e : l.nm = z
    · simpa [e] using q'
    · have : (l.nm == z) = false := by simpa using e
      simpa [e, this] using q'
  · have e : ((b.lands.map encL).filter fun v => decide (nmOf v = z)).map (fun v => v) = (b.lands.filter fun l => decide (l.nm = z)).map encL := by
      rw [List.map_id', List.filter_map]; rfl
    rw [e]
    unfold rowA at hl
    cases hf : b.lands.filter fun l => decide (l.nm = z) with
    | nil => rw [hf] at hl; cases hl
    | cons x r =>
      rw [hf] at hl
      cases hl
      simp only [sSet, sFor, sIf, sRet, sExpr, sPar, sAsg, sSeq, sNext, sAug, dIt, dTup, dLst, dLstH, dCB, dCall, dCallK, dBin, dUn, dTest, dChain, dIfE, aCons, aNil, dVar, dC, dTruth, dNot, dAnd, dOr, vAnd, vOr, vNot, dBM, dSl, dRev, oSome, oNone]
      simp [atI_zero]
      exact q
theorem bo_row_of (N : List Str) (hN : N.length = 3) : ∀ as h Q E, as.length = 2 → S_row_of as h Q E → den_row_of (startA N as) h (endsR Q) (RX E) := by
  rintro as h Q E - ⟨b, z, l, rfl, bl, hl, q⟩
  unfold den_row_of
  simp only [startA, hN]
  exact row_lc bl hl (RT.same q)
theorem bo__law_row (N : List Str) (hN : N.length = 3) : ∀ as h Q E, as.length = 2 → S__law_row as h Q E → den__law_row (startA N as) h (endsR Q) (RX E) := by
  rintro as h Q E - ⟨b, z, l, rfl, bl, hl, q⟩
  unfold den__law_row
  simp only [startA, hN]
  exact row_lc bl hl (RT.same q)
end DL
namespace DL
open PySem PySem.Spec PyProof.Rows L2
theorem enc_node (z : Str) (ts : List Tree) : (Tree.node z ts).enc = .tup [.str z, .tup (ts.map Tree.enc)] := by rw [Tree.enc, encTs_map]
theorem things_node (z : Str) (ts : List Tree) : (Tree.node z ts).things = ts.flatMap Tree.things := by rw [Tree.things, thingsTs_map]
theorem lands_node (z : Str) (ts : List Tree) : (Tree.node z ts).lands = z :: ts.flatMap Tree.lands := by rw [Tree.lands, landsTs_map]
theorem ht_node {z : Str} {ts : List Tree} {d : Nat} (h : (Tree.node z ts).ht < d + 1) : ∀ t ∈ ts, t.ht < d := fun t ht => by
  have := htTs_mem ht
  rw [Tree.ht] at h
  omega
theorem rowA_some {b : Book} {z : Str} (h : z ∈ b.names) : ∃ l, rowA b z = some l ∧ l ∈ b.lands ∧ l.nm = z := by
  obtain ⟨l, hl, e⟩ := List.mem_map.mp h
  unfold rowA
  cases hf : b.lands.filter fun l => decide (l.nm = z) with
  | nil =>
    have : l ∈ b.lands.filter fun l => decide (l.nm = z) := List.mem_filter.mpr ⟨hl, by simpa using e⟩
    rw [hf] at this; cases this
  | cons x r =>
    have : x ∈ b.lands.filter fun l => decide (l.nm = z) := by rw [hf]; exact List.mem_cons_self
    have := List.mem_filter.mp this
    exact ⟨x, rfl, this.1, by simpa using this.2⟩
end DL
namespace DL
open PySem PySem.Spec PyProof.Rows L2
theorem Town.only {t r : Addr} {h h' : Hv} (T : Town t r h) (o : ∀ a, (a = t ∨ a = r) → h' a = h a) : Town t r h' :=
  ⟨T.ne, by rw [o t (.inl rfl)]; exact T.tc, by rw [o r (.inr rfl)]; exact T.rc⟩
structure Lefts (b : Book) (ths : List Int) (turns : Nat) (left : List Tree) : Prop where
  pm : (left.flatMap Tree.things).Perm ths
  n1 : 1 ≤ left.length
  ok : ∀ tr ∈ left, tr.okT b.names ∧ tr.ht ≤ turns ∧ okN (2 * turns) tr.enc = true
  ld : (left.flatMap Tree.lands).length = turns
  tb : turns ≤ 4 ∨ turns + left.length ≤ 4 + ths.length
  ll : left.length ≤ ths.length
theorem flat_perm {α β : Type} {f : α → List β} : ∀ {l m : List α}, l.Perm m → (l.flatMap f).Perm (m.flatMap f) := fun p => by
  induction p with
  | nil => exact List.Perm.refl _
  | cons x _ ih => rw [List.flatMap_cons, List.flatMap_cons]; exact ih.append_left _
  | swap x y l =>
    rw [List.flatMap_cons, List.flatMap_cons, List.flatMap_cons, List.flatMap_cons, ← List.append_assoc, ← List.append_assoc]
    exact List.perm_append_comm.append_right _
  | trans _ _ i j => exact i.trans j
theorem Lefts.next {b : Book} {ths : List Int} {turns : Nat} {left got rest : List Tree} {z : Str} (L : Lefts b ths turns left) (pm : (got ++ rest).Perm left) (hz : z ∈ b.names) (nz : ∀ z ∈ b.names, okN 0 (.str z) = true) (g1 : 1 ≤ got.length) (g2 : 4 ≤ turns → 2 ≤ got.length) (l8 : ths.length ≤ 8) : Lefts b ths (turns + 1) (rest ++ [.node z got]) := by
  have pl := pm.length_eq
  rw [List.length_append] at pl
  have okg : ∀ tr ∈ got ++ rest, tr.okT b.names ∧ tr.ht ≤ turns ∧ okN (2 * turns) tr.enc = true := fun tr h => L.ok tr (pm.subset h)
  have ne : got ≠ [] := fun e => by rw [e] at g1; simp at g1
  refine ⟨?_, by simp, fun tr htr => ?_, ?_, ?_, ?_⟩
  · rw [List.flatMap_append, List.flatMap_cons, List.flatMap_nil, List.append_nil, things_node]
    refine List.perm_append_comm.trans ?_
    have := flat_perm (f := Tree.things) pm
    rw [List.flatMap_append] at this
    exact this.trans L.pm
  · rcases List.mem_append.mp htr with e | e
    · have := okg tr (List.mem_append_right _ e)
      exact ⟨this.1, by omega, okN_le this.2.2 (by omega)⟩
    · rw [List.mem_singleton.mp e]
      refine ⟨by rw [Tree.okT, okTs_iff]; exact ⟨hz, ne, fun t ht => (okg t (List.mem_append_left _ ht)).1⟩, ?_, ?_⟩
      · rw [Tree.ht]
        have := htTs_le (ts := got) (k := turns) fun t ht => (okg t (List.mem_append_left _ ht)).2.1
        omega
      · rw [enc_node, show 2 * (turns + 1) = (2 * turns + 1) + 1 by omega, okN_tup]
        refine ⟨fun v hv => ?_, (by decide : 2 ≤ 1000)⟩
        rcases List.mem_cons.mp hv with e | e
        · rw [e]; exact okN_le (nz z hz) (Nat.zero_le _)
        · rw [List.mem_singleton.mp e, okN_tup]
          refine ⟨fun v hv => ?_, by rw [List.length_map]; have := L.ll; omega⟩
          obtain ⟨t, ht, rfl⟩ := List.mem_map.mp hv
          exact (okg t (List.mem_append_left _ ht)).2.2
  · rw [List.flatMap_append, List.flatMap_cons, List.flatMap_nil, List.append_nil, lands_node, List.length_append, List.length_cons]
    have := (flat_perm (f := Tree.lands) pm).length_eq
    rw [List.flatMap_append, List.length_append, L.ld] at this
    omega
  · have := L.tb
    have := L.ll
    rw [List.length_append, List.length_singleton]
    by_cases h4 : 4 ≤ turns
    · have := g2 h4
      right
      omega
    · left; omega
  · have := L.ll
    rw [List.length_append, List.length_singleton]
    omega
end DL
namespace DL
open PySem PySem.Spec PyProof.Rows L2
def den_takes : SD := (sRet (dCB fTuple (aCons (dCB fSorted (aCons (dBin fAdd (dLst (aCons (dVar 1) aNil)) (dLc (dIt (dBin fIx (dVar 0) (dC (.int 1)))) (.tp [(.nm 2), (.nm 3)]) (dTest (dBin fEq (dVar 2) (dVar 1))) (dVar 3) [2, 3])) aNil)) aNil)))
def den_is_enough : SD := (sSeq (sAsg (.tp [(.nm 4), (.nm 5), (.nm 6), (.nm 7)]) (dCall 2 S_row_of (aCons (dVar 0) (aCons (dVar 1) aNil)))) (sRet (dBin fGe (dBin fMulA (dVar 2) (dVar 6)) (dBin fMulA (dVar 3) (dVar 5)))))
def den__law_takes : SD := (sRet (dCB fSorted (aCons (dBin fAdd (dLst (aCons (dVar 1) aNil)) (dLc (dIt (dBin fIx (dVar 0) (dC (.int 1)))) (.nm 2) (dTest (dBin fEq (dBin fIx (dVar 2) (dC (.int 0))) (dVar 1))) (dBin fIx (dVar 2) (dC (.int 1))) [2])) aNil)))
def den__law_has_share : SD := (sSeq (sSet 4 (dCall 2 S__law_row (aCons (dVar 0) (aCons (dVar 1) aNil)))) (sRet (dBin fGe (dBin fMulA (dVar 2) (dBin fIx (dVar 4) (dC (.int 2)))) (dBin fMulA (dVar 3) (dBin fIx (dVar 4) (dC (.int 1)))))))
end DL
namespace DL
open PySem PySem.Spec PyProof.Rows L2
theorem ix_pacts {b : Book} {h : Hv} {Q : PV} : fIx (encB b) (.int 1) h Q = Q (.tup (b.pacts.map encP)) h := rfl
theorem takes_len (b : Book) (z : Str) : (takesL b z).length ≤ b.pacts.length + 1 := by
  unfold takesL
  rw [(sortZ_perm _).length_eq, List.length_cons, List.length_map]
  have := List.length_filter_le (fun p : Str × Str => decide (p.1 = z)) b.pacts
  omega
theorem intsOf_str (z : Str) (vs : List Val) : intsOf (.str z :: vs) = none := by simp [intsOf]
theorem sorted_strs {z : Str} {zs : List Str} {h : Hv} {Q : PV} (hl : (z :: zs).length < 64) (q : Q (.lst ((sortZ (z :: zs)).map .str)) h) : fSorted [.lst (.str z :: zs.map .str)] h Q := by
  simp only [fSorted, listOf, Option.bind_some, intsOf_str]
  rw [show (Val.str z :: zs.map Val.str) = (z :: zs).map Val.str from rfl, strsOf_map]
  exact ⟨hl, q⟩
theorem bo_takes (N : List Str) (hN : N.length = 4) : ∀ as h Q E, as.length = 2 → S_takes as h Q E → den_takes (startA N as) h (endsR Q) (RX E) := by
  rintro as h Q E - ⟨b, z, rfl, pl, q⟩
  have q := RT.same q
  unfold den_takes
  simp only [startA, hN]
  generalize hd : dLc _ _ _ _ _ = dn
  revert dn
  refine opq fun dn hd => ?_
  simp only [sSet, sFor, sIf, sRet, sExpr, sPar, sAsg, sSeq, sNext, sAug, dIt, dTup, dLst, dLstH, dCB, dCall, dCallK, dBin, dUn, dTest, dChain, dIfE, aCons, aNil, dVar, dC, dTruth, dNot, dAnd, dOr, vAnd, vOr, vNot, dBM, dSl, dRev, oSome, oNone]
  simp
  subst hd
  refine ⟨by decide, lc_filtT (ok := fun _ => True) b.pacts encP (fun p => decide (p.1 = z)) (fun p => .str p.2) (fun R r => by simp only [sSet, sFor, sIf, sRet, sExpr, sPar, sAsg, sSeq, sNext, sAug, dIt, dTup, dLst, dLstH, dCB, dCall, dCallK, dBin, dUn, dTest, dChain, dIfE, aCons, aNil, dVar, dC, dTruth, dNot, dAnd, dOr, vAnd, vOr, vNot, dBM, dSl, dRev, oSome, oNone]; simpa [↓ix_pacts] using r) (fun _ _ => trivial) (sl1000 (by omega)) (fun p hp => ⟨_, rfl, fun h' Q' _ q' => ?_, fun _ h' Q' _ q' => by simpa using q'⟩) ?_⟩
  · simp only [sSet, sFor, sIf, sRet, sExpr, sPar, sAsg, sSeq, sNext, sAug, dIt, dTup, dLst, dLstH, dCB, dCall, dCallK, dBin, dUn, dTest, dChain, dIfE, aCons, aNil, dVar, dC, dTruth, dNot, dAnd, dOr, vAnd, vOr, vNot, dBM, dSl, dRev, oSome, oNone]
    simp
    by_cases e : p.1 = z
    · simpa [e] using q'
    · have : (p.1 == z) = false := by simpa using e
      simpa [e, this] using q'
  · have tl := takes_len b z
    unfold takesL at tl q
    rw [(sortZ_perm _).length_eq, List.length_cons, List.length_map] at tl
    have sz : 1 + (b.pacts.filter fun p => decide (p.1 = z)).length ≤ sizeLine := sl1000 (by omega)
    simp [sz]
    rw [show (List.map (fun p => Val.str p.2) (List.filter (fun p => decide (p.1 = z)) b.pacts)) = ((b.pacts.filter fun p => decide (p.1 = z)).map (·.2)).map Val.str by rw [List.map_map]; rfl]
    refine sorted_strs (by rw [List.length_cons, List.length_map]; omega) ?_
    simpa using q
theorem bo__law_takes (N : List Str) (hN : N.length = 3) : ∀ as h Q E, as.length = 2 → S__law_takes as h Q E → den__law_takes (startA N as) h (endsR Q) (RX E) := by
  rintro as h Q E - ⟨b, z, rfl, pl, q⟩
  have q := RT.same q
  unfold den__law_takes
  simp only [startA, hN]
  generalize hd : dLc _ _ _ _ _ = dn
  revert dn
  refine opq fun dn hd => ?_
  simp only [sSet, sFor, sIf, sRet, sExpr, sPar, sAsg, sSeq, sNext, sAug, dIt, dTup, dLst, dLstH, dCB, dCall, dCallK, dBin, dUn, dTest, dChain, dIfE, aCons, aNil, dVar, dC, dTruth, dNot, dAnd, dOr, vAnd, vOr, vNot, dBM, dSl, dRev, oSome, oNone]
  simp
  subst hd
  refine ⟨by decide, lc_filtT (ok := fun _ => True) b.pacts encP (fun p => decide (p.1 = z)) (fun p => .str p.2) (fun R r => by simp only [sSet, sFor, sIf, sRet, sExpr, sPar, sAsg, sSeq, sNext, sAug, dIt, dTup, dLst, dLstH, dCB, dCall, dCallK, dBin, dUn, dTest, dChain, dIfE, aCons, aNil, dVar, dC, dTruth, dNot, dAnd, dOr, vAnd, vOr, vNot, dBM, dSl, dRev, oSome, oNone]; simpa [↓ix_pacts] using r) (fun _ _ => trivial) (sl1000 (by omega)) (fun p hp => ⟨_, rfl, fun h' Q' _ q' => ?_, fun _ h' Q' _ q' => ?_⟩) ?_⟩
  · simp only [sSet, sFor, sIf, sRet, sExpr, sPar, sAsg, sSeq, sNext, sAug, dIt, dTup, dLst, dLstH, dCB, dCall, dCallK, dBin, dUn, dTest, dChain, dIfE, aCons, aNil, dVar, dC, dTruth, dNot, dAnd, dOr, vAnd, vOr, vNot, dBM, dSl, dRev, oSome, oNone]
    simp [encP, atI, ixN]
    by_cases e : p.1 = z
    · simpa [e] using q'
    · have : (p.1 == z) = false := by simpa using e
      simpa [e, this] using q'
  · simp only [sSet, sFor, sIf, sRet, sExpr, sPar, sAsg, sSeq, sNext, sAug, dIt, dTup, dLst, dLstH, dCB, dCall, dCallK, dBin, dUn, dTest, dChain, dIfE, aCons, aNil, dVar, dC, dTruth, dNot, dAnd, dOr, vAnd, vOr, vNot, dBM, dSl, dRev, oSome, oNone]
    simpa [encP, atI, ixN] using q'
  · have tl := takes_len b z
    unfold takesL at tl q
    rw [(sortZ_perm _).length_eq, List.length_cons, List.length_map] at tl
    have sz : 1 + (b.pacts.filter fun p => decide (p.1 = z)).length ≤ sizeLine := sl1000 (by omega)
    simp [sz]
    rw [show (List.map (fun p => Val.str p.2) (List.filter (fun p => decide (p.1 = z)) b.pacts)) = ((b.pacts.filter fun p => decide (p.1 = z)).map (·.2)).map Val.str by rw [List.map_map]; rfl]
    exact sorted_strs (by rw [List.length_cons, List.length_map]; omega) q
theorem share_mul {b : Book} {z : Str} (w : WFB b) (hz : z ∈ b.names) : ∃ l, rowA b z = some l ∧ (∀ c : Int, CMul c l.q ∧ CMul c l.p) := by
  obtain ⟨l, h1, h2, -⟩ := rowA_some hz
  have := w.sh l h2
  refine ⟨l, h1, fun c => ⟨.inr ?_, .inr ?_⟩⟩
  · have h : (2 : Int) ^ 64 = 18446744073709551616 := by decide
    omega
  · have h : (2 : Int) ^ 64 = 18446744073709551616 := by decide
    omega
theorem bo_is_enough (N : List Str) (hN : N.length = 8) : ∀ as h Q E, as.length = 4 → S_is_enough as h Q E → den_is_enough (startA N as) h (endsR Q) (RX E) := by
  rintro as h Q E - ⟨b, z, c, w, rfl, wf, hz, q⟩
  have q := RT.same q
  obtain ⟨l, hl, hm⟩ := share_mul wf hz
  unfold den_is_enough
  simp only [startA, hN]
  refine seq_o fun K hK => ?_
  simp only [sSet, sFor, sIf, sRet, sExpr, sPar, sAsg, sSeq, sNext, sAug, dIt, dTup, dLst, dLstH, dCB, dCall, dCallK, dBin, dUn, dTest, dChain, dIfE, aCons, aNil, dVar, dC, dTruth, dNot, dAnd, dOr, vAnd, vOr, vNot, dBM, dSl, dRev, oSome, oNone]
  refine ⟨rfl, b, z, l, rfl, wf.n4, hl, ?_⟩
  simp [encL]
  subst hK
  simp only [sSet, sFor, sIf, sRet, sExpr, sPar, sAsg, sSeq, sNext, sAug, dIt, dTup, dLst, dLstH, dCB, dCall, dCallK, dBin, dUn, dTest, dChain, dIfE, aCons, aNil, dVar, dC, dTruth, dNot, dAnd, dOr, vAnd, vOr, vNot, dBM, dSl, dRev, oSome, oNone]
  simp [hm]
  simpa [enough, hl] using q
theorem bo__law_has_share (N : List Str) (hN : N.length = 5) : ∀ as h Q E, as.length = 4 → S__law_has_share as h Q E → den__law_has_share (startA N as) h (endsR Q) (RX E) := by
  rintro as h Q E - ⟨b, z, c, w, rfl, wf, hz, q⟩
  have q := RT.same q
  obtain ⟨l, hl, hm⟩ := share_mul wf hz
  unfold den__law_has_share
  simp only [startA, hN]
  refine seq_o fun K hK => ?_
  simp only [sSet, sFor, sIf, sRet, sExpr, sPar, sAsg, sSeq, sNext, sAug, dIt, dTup, dLst, dLstH, dCB, dCall, dCallK, dBin, dUn, dTest, dChain, dIfE, aCons, aNil, dVar, dC, dTruth, dNot, dAnd, dOr, vAnd, vOr, vNot, dBM, dSl, dRev, oSome, oNone]
  simp
  refine ⟨b, z, l, rfl, wf.n4, hl, ?_⟩
  subst hK
  simp only [sSet, sFor, sIf, sRet, sExpr, sPar, sAsg, sSeq, sNext, sAug, dIt, dTup, dLst, dLstH, dCB, dCall, dCallK, dBin, dUn, dTest, dChain, dIfE, aCons, aNil, dVar, dC, dTruth, dNot, dAnd, dOr, vAnd, vOr, vNot, dBM, dSl, dRev, oSome, oNone]
  simp [encL, atI, ixN, hm]
  simpa [enough, hl] using q
end DL
namespace DL
open PySem PySem.Spec PyProof.Rows L2
theorem TrOk.mem {b : Book} {hp : Heap'} {z : Str} {ts : List Tree} (k : TrOk b hp (.node z ts)) {t : Tree} (h : t ∈ ts) : TrOk b hp t := by
  have ok := k.ok
  rw [Tree.okT, okTs_iff] at ok
  refine ⟨ok.2.2 t h, fun n hn => k.rg n ?_⟩
  rw [things_node]
  exact List.mem_flatMap.mpr ⟨t, h, hn⟩
theorem TrOk.land {b : Book} {hp : Heap'} {z : Str} {ts : List Tree} (k : TrOk b hp (.node z ts)) : z ∈ b.names := by
  have ok := k.ok
  rw [Tree.okT, okTs_iff] at ok
  exact ok.1
end DL
namespace DL
open PySem PySem.Spec PyProof.Rows L2
end DL
namespace DL
open PySem PySem.Spec PyProof.Rows L2
section
variable {X : Cx} {B : Bs} {kx vx tg iter c : Expr} {ifs : List Expr} {scope : Scope} {own : List (Str × Nat)} {pos spos : Pos} {di : ID} {t : Tg} {tt : TD} {tk tv : ED}
end
section
variable {X : Cx} {B : Bs} {C : Addr} {pos pos' : Pos}
end
def MtR (P : Program) (w : World) (K : PySem.W.Frag) (mg : Str → Option Value) (base : Heap) (k : Nat) (C : Addr) (m : Str) (n : Nat) (fs : SpF) : Prop :=
  ∃ (f : Addr) (fd : FuncData) (ps : List Str), FnOk P w K mg base (L2.CX P w) k f fd ps (spA K mg n fs) ∧ Meth K C m f ∧ L2.Binds K fd ps []
theorem MtR.at {P : Program} {w : World} {K : PySem.W.Frag} {mg : Str → Option Value} {base : Heap} {k j : Nat} {C : Addr} {m : Str} {n : Nat} {fs : SpF} {A : Around} (F : MtR P w K mg base k C m n fs) (hr : Room j A) (h : k ≤ j := by decide) : MtF P w K mg base A C m n fs :=
  let ⟨f, fd, ps, a, b, c⟩ := F; ⟨k, f, fd, ps, a, hr.mono h, b, c⟩
def MkR (P : Program) (w : World) (K : PySem.W.Frag) (mg : Str → Option Value) (base : Heap) (k : Nat) (x : Str) (C : Addr) (n : Nat) (fs : SpF) : Prop :=
  ∃ (f : Addr) (fd : FuncData) (ps : List Str), FnOk P w K mg base (L2.CX P w) k f fd ps (spA K mg n fs) ∧ Mk K C f ∧ mg x = some (.ref C) ∧ L2.Binds K fd ps []
theorem MkR.at {P : Program} {w : World} {K : PySem.W.Frag} {mg : Str → Option Value} {base : Heap} {k j : Nat} {x : Str} {C : Addr} {n : Nat} {fs : SpF} {A : Around} (F : MkR P w K mg base k x C n fs) (hr : Room j A) (h : k + 1 ≤ j := by decide) : MkF P w K mg base A x C n fs :=
  let ⟨f, fd, ps, a, b, c, d⟩ := F; ⟨k, f, fd, ps, a, hr.mono h, b, c, d⟩
end DL
namespace DL
open PySem PySem.Spec PyProof.Rows L2
def fDictP : FA := fun vs h Q => ∃ (v : Val) (kvs : List (Key × Val)), vs = [v] ∧ listOf v h = some (kvs.map fun p => Val.tup [keyV p.1, p.2]) ∧ ∀ p, h p = none → Q (.ref p) (put h p (.dK (mergeA [] kvs)))
theorem keyV_rel {K : PySem.W.Frag} {H : Hp} {h : Hv} {k : Key} {x : V} (r : RV K H h (keyV k) x) : x = kV k := by
  cases k with
  | inl i => unfold keyV at r; rw [RV] at r; exact r
  | inr i => unfold keyV at r; rw [RV] at r; exact r
theorem pairs_rel2 {K : PySem.W.Frag} {H : Hp} {h : Hv} : ∀ {kvs : List (Key × Val)} {xs : List V}, RVs K H h (kvs.map fun p => Val.tup [keyV p.1, p.2]) xs → ∃ (ps : List Addr) (ws : List (Key × V)), xs = ps.map V.ref ∧ Paired (fun p kv => SqT K H p [kV kv.1, kv.2]) ps ws ∧ RKs K H h kvs ws
  | [], xs, r => by
    rw [List.map_nil, RVs] at r
    exact ⟨[], [], r, .nil, rfl⟩
  | (k, v) :: kvs, xs, r => by
    rw [List.map_cons, RVs] at r
    obtain ⟨y, ys, e, r1, r2⟩ := r
    obtain ⟨ps, ws, e2, p2, k2⟩ := pairs_rel2 r2
    rw [RV] at r1
    obtain ⟨a, zs, e1, _, ha, rz⟩ := r1
    obtain ⟨u, w, ez, ru, rw'⟩ := rvs2 rz
    subst ez
    have eu := keyV_rel ru
    subst eu
    exact ⟨a :: ps, (k, w) :: ws, by rw [e, e1, e2]; rfl, .cons (.of ha) p2, w, ws, rfl, rw', k2⟩
theorem cl_dictP {K : PySem.W.Frag} : CaL K fDictP (fun xs H Q => ∃ (a : Addr) (ps : List Addr) (kvs : List (Key × V)), xs = [.ref a] ∧ SqL K H a (ps.map V.ref) ∧ Paired (fun p kv => SqT K H p [kV kv.1, kv.2]) ps kvs ∧ ∀ p, H p = none → Q (.ref p) (upd H p (.dK (mergeK [] kvs)))) := fun vs xs h H Q' Q r rs q c => by
  obtain ⟨v, kvs, rfl, hl, q⟩ := q
  obtain ⟨x, ex, rx⟩ := rvs1 rs
  obtain ⟨a, ys, e1, e2, e3⟩ := listOf_rel r rx hl
  obtain ⟨ps, ws, e4, e5, e6⟩ := pairs_rel2 e3
  subst e1
  rw [e4] at e2
  refine ⟨a, ps, ws, ex, .of e2, e5, fun p np => ?_⟩
  have st : Step h H (put h p (.dK (mergeA [] kvs))) (upd H p (.dK (mergeK [] ws))) := Step.new np
  exact c _ _ _ _ (q p (r.nof np)) st (by rw [RV]) (r.new np ⟨_, upd_same, (merge_rel e6 (show RKs K H h ([] : List (Key × Val)) [] from rfl)).step st⟩)
@[simp] def dDGet1 (dd dk : ED) : ED := fun ρ h Q E => dd ρ h (fun v h1 => (dgetA v (.int 0) h1).isSome = true ∧ dk ρ h1 (fun k h2 => match dgetA v k h2 with
  | some o => Q (o.getD .non) h2
  | none => False) E) E
section
variable {X : Cx} {B : Bs} {elt tg iter tg1 iter1 : Expr} {ifs ifs1 : List Expr} {scope : Scope} {own : List (Str × Nat)} {vs1 : List Nat} {pos spos : Pos} {di di1 : ID} {t t1 : Tg} {tt tt1 : TD} {te : ED}
variable {o e : Expr} {dd de : ED} {apos cpos : Pos}
end
end DL
namespace DL
open PySem PySem.Spec PyProof.Rows L2
def setN (n : Nat) : List Nat := (List.range 8).filter fun i => n.testBit i
def setI (n : Nat) : List Int := (setN n).map fun (i : Nat) => (i : Int)
def encS (n : Nat) : Val := .tup ((setI n).map .int)
def sub (p n : Nat) : Bool := p &&& n == p
theorem sub_iff {p n : Nat} : sub p n = true ↔ ∀ i, p.testBit i = true → n.testBit i = true := by
  unfold sub
  rw [beq_iff_eq]
  constructor
  · intro h i hi
    rw [← h, Nat.testBit_and, Bool.and_eq_true] at hi
    exact hi.2
  · intro h
    apply Nat.eq_of_testBit_eq
    intro i
    rw [Nat.testBit_and]
    cases e : p.testBit i with
    | false => rfl
    | true => rw [h i e]; rfl
theorem sub_le {p n : Nat} (h : sub p n = true) : p ≤ n := by
  unfold sub at h
  rw [beq_iff_eq] at h
  rw [← h]
  exact Nat.and_le_right
def partsN (n : Nat) : List Nat := ((List.range (n + 1)).filter fun p => p != 0 && sub p n).reverse
theorem mem_parts {n p : Nat} : p ∈ partsN n ↔ p ≠ 0 ∧ sub p n = true := by
  unfold partsN
  rw [List.mem_reverse, List.mem_filter, List.mem_range, Bool.and_eq_true, bne_iff_ne]
  constructor
  · exact fun h => h.2
  · exact fun h => ⟨Nat.lt_succ_of_le (sub_le h.2), h⟩
def lowN (n : Nat) : Nat := n &&& (256 - n)
theorem lt_of_sub {n p : Nat} (hn : n < 256) (h : sub p n = true) : p < 256 := Nat.lt_of_le_of_lt (sub_le h) hn
theorem bit_lt {n i : Nat} (hn : n < 256) (h : n.testBit i = true) : i < 8 := by
  apply Nat.lt_of_not_le
  intro hi
  have : n < 2 ^ i := Nat.lt_of_lt_of_le hn (Nat.pow_le_pow_right (by decide) hi : 2 ^ 8 ≤ 2 ^ i)
  rw [Nat.testBit_lt_two_pow this] at h
  cases h
theorem mem_setN {n i : Nat} (hn : n < 256) : i ∈ setN n ↔ n.testBit i = true := by
  unfold setN
  rw [List.mem_filter, List.mem_range]
  exact ⟨fun h => h.2, fun h => ⟨bit_lt hn h, h⟩⟩
theorem setN_up (n : Nat) : (setN n).Pairwise (· < ·) := List.pairwise_lt_range.filter _
theorem setI_len (n : Nat) : (setI n).length ≤ 8 := by
  unfold setI setN
  rw [List.length_map]
  exact Nat.le_trans (List.length_filter_le _ _) (by simp)
theorem setI_up (n : Nat) : (setI n).Pairwise (· < ·) := by
  unfold setI
  rw [List.pairwise_map]
  exact (setN_up n).imp fun h => by omega
def bitsL (ns : List Int) : Nat := (ns.map fun n => 2 ^ n.toNat).sum
theorem bits_all : ((List.range 256).all fun n => bitsL (setI n) == n) = true := by decide +kernel
theorem bits_set {n : Nat} (h : n < 256) : bitsL (setI n) = n := beq_iff_eq.mp (List.all_eq_true.mp bits_all n (List.mem_range.mpr h))
def wt (hp : Heap') (n : Nat) : Int := ((setI n).map (rawW hp)).sum
def inH (hp : Heap') (n : Nat) : Prop := n < 2 ^ hp.length
theorem inH_lt {hp : Heap'} (h8 : hp.length ≤ 8) {n : Nat} (h : inH hp n) : n < 256 := Nat.lt_of_lt_of_le h (Nat.pow_le_pow_right (by decide) h8 : 2 ^ hp.length ≤ 2 ^ 8)
theorem inH_rg {hp : Heap'} {n : Nat} (h : inH hp n) : ∀ i ∈ setI n, 0 ≤ i ∧ i < (hp.length : Int) := fun i hi => by
  unfold setI at hi
  obtain ⟨j, hj, rfl⟩ := List.mem_map.mp hi
  unfold setN at hj
  have := (List.mem_filter.mp hj).2
  have : j < hp.length := by
    apply Nat.lt_of_not_le
    intro hl
    rw [Nat.testBit_lt_two_pow (Nat.lt_of_lt_of_le h (Nat.pow_le_pow_right (by decide) hl))] at this
    cases this
  omega
theorem inH_sub {hp : Heap'} {p n : Nat} (h : inH hp n) (s : sub p n = true) : inH hp p := Nat.lt_of_le_of_lt (sub_le s) h
inductive Jnd (P : Nat → Prop) : Nat → Prop
  | one {n : Nat} : n ≠ 0 → P n → Jnd P n
  | more {n p : Nat} : sub p n = true → p ≠ 0 → p ≠ n → lowN n &&& p ≠ 0 → P p → Jnd P (n - p) → Jnd P n
theorem Jnd.mono {P P' : Nat → Prop} {n : Nat} (j : Jnd P n) (h : ∀ p, P p → P' p) : Jnd P' n := by
  induction j with
  | one n0 hp => exact .one n0 (h _ hp)
  | more s p0 pn l hp _ ih => exact .more s p0 pn l (h _ hp) ih
theorem Jnd.pos {P : Nat → Prop} {n : Nat} (j : Jnd P n) : n ≠ 0 := by
  cases j with
  | one n0 _ => exact n0
  | more s p0 pn _ _ _ => have := sub_le s; omega
def Tk (b : Book) (C : Str → Nat → Prop) (z : Str) (p : Nat) : Prop := ∃ t ∈ takesL b z, C t p
structure Clo (b : Book) (hp : Heap') (C : Str → Nat → Prop) : Prop where
  raw : ∀ (i : Nat) (w : Int) (z : Str), hp[i]? = some (w, some z) → C z (2 ^ i)
  made : ∀ z ∈ b.names, ∀ n, inH hp n → ∀ p, sub p n = true → Jnd (Tk b C z) p → enough b z (wt hp p) (wt hp n) = true → C z n
def Can (b : Book) (hp : Heap') (z : Str) (n : Nat) : Prop := ∀ C, Clo b hp C → C z n
theorem can_clo (b : Book) (hp : Heap') : Clo b hp (Can b hp) := by
  refine ⟨fun i w z h C c => c.raw i w z h, fun z hz n hn p s j e C c => c.made z hz n hn p s (j.mono fun q ⟨t, ht, h⟩ => ⟨t, ht, h C c⟩) e⟩
end DL
namespace DL
open PySem PySem.Spec PyProof.Rows L2
structure TInv (b : Book) (hp : Heap') (D : Nat → Prop) (gs js : Str → List Nat) : Prop where
  g : ∀ z ∈ b.names, ∀ n, n ∈ gs z ↔ D n ∧ Can b hp z n
  j : ∀ z ∈ b.names, ∀ n, n ∈ js z ↔ D n ∧ Jnd (Tk b (Can b hp) z) n
structure MInv (b : Book) (hp : Heap') (D : Nat → Prop) (m : Nat) (gs js : Str → List Nat) : Prop where
  g : ∀ z ∈ b.names, ∀ n, n ≠ m → (n ∈ gs z ↔ D n ∧ Can b hp z n)
  j : ∀ z ∈ b.names, ∀ n, n ≠ m → (n ∈ js z ↔ D n ∧ Jnd (Tk b (Can b hp) z) n)
  gm : ∀ z ∈ b.names, m ∈ gs z → Can b hp z m
theorem TInv.mid {b : Book} {hp : Heap'} {D : Nat → Prop} {g j : Str → List Nat} (t : TInv b hp D g j) {m : Nat} (hm : ¬ D m) : MInv b hp D m g j :=
  ⟨fun z hz n _ => t.g z hz n, fun z hz n _ => t.j z hz n, fun z hz h => ((t.g z hz m).mp h).2⟩
structure FillOk (b : Book) (hp : Heap') (D : Nat → Prop) (m : Nat) : Prop where
  w : WFB b
  ho : HpOk b hp
  m0 : m ≠ 0
  mH : inH hp m
  nd : ¬ D m
  low : ∀ p, p ≠ 0 → p ≠ m → sub p m = true → D p
theorem FillOk.lt {b : Book} {hp : Heap'} {D : Nat → Prop} {m : Nat} (f : FillOk b hp D m) : m < 256 := inH_lt f.ho.n8 f.mH
end DL
namespace DL
open PySem PySem.Spec PyProof.Rows L2
noncomputable def dec (p : Prop) : Bool := @decide p (Classical.propDecidable p)
def encD (xs : List Nat) : List (Key × Val) := xs.map fun n => (.inl ((n : Nat) : Int), .bl true)
structure Ad where
  tk : Addr
  gd : Addr
  jd : Addr
  ga : Str → Addr
  ja : Str → Addr
def refD (b : Book) (f : Str → Addr) : List (Key × Val) := b.names.map fun z => (.inr z, .ref (f z))
structure Small (xs : List Nat) : Prop where
  nd : xs.Nodup
  lt : ∀ n ∈ xs, n < 256
def OffT (b : Book) (A : Ad) (h h' : Hv) : Prop := (∀ c, (∀ z ∈ b.names, c ≠ A.ga z ∧ c ≠ A.ja z) → h' c = h c)
end DL
namespace DL
open PySem PySem.Spec PyProof.Rows L2
set_option maxHeartbeats 0 in
theorem pop_lt_all : ((List.range 256).all fun n => (partsN n).all fun p => p == n || decide ((setI p).length < (setI n).length)) = true := by decide +kernel
theorem pop_lt {p n : Nat} (hn : n < 256) (p0 : p ≠ 0) (h : sub p n = true) (ne : p ≠ n) : (setI p).length < (setI n).length := by
  have := List.all_eq_true.mp (List.all_eq_true.mp pop_lt_all n (List.mem_range.mpr hn)) p (mem_parts.mpr ⟨p0, h⟩)
  rw [Bool.or_eq_true, beq_iff_eq, decide_eq_true_eq] at this
  exact this.resolve_left ne
theorem sub_mem {n p : Nat} (hn : n < 256) (hp : p < 256) : sub p n = true ↔ ∀ i ∈ setI p, i ∈ setI n := by
  rw [sub_iff]
  unfold setI
  constructor
  · intro h i hi
    obtain ⟨j, hj, rfl⟩ := List.mem_map.mp hi
    exact List.mem_map.mpr ⟨j, (mem_setN hn).mpr (h j ((mem_setN hp).mp hj)), rfl⟩
  · intro h i hi
    have := h i (List.mem_map.mpr ⟨i, (mem_setN hp).mpr hi, rfl⟩)
    obtain ⟨j, hj, e⟩ := List.mem_map.mp this
    have : j = i := by omega
    subst this
    exact (mem_setN hn).mp hj
end DL
namespace DL
open PySem PySem.Spec PyProof.Rows L2
def CMade (b : Book) (hp : Heap') (fs : Str → List Nat) (z : Str) (m : Nat) : Prop := ∃ p, sub p m = true ∧ Jnd (Tk b (fun t q => q ∈ fs t) z) p ∧ enough b z (wt hp p) (wt hp m) = true
def rawS (hp : Heap') (z : Str) (n : Nat) : Prop := ∃ (i : Nat) (w : Int), hp[i]? = some (w, some z) ∧ n = 2 ^ i
theorem raw_can {b : Book} {hp : Heap'} {z : Str} {n : Nat} (h : rawS hp z n) : Can b hp z n := by
  obtain ⟨i, w, h, rfl⟩ := h
  exact (can_clo b hp).raw i w z h
structure LInv (b : Book) (hp : Heap') (D : Nat → Prop) (fs : Str → List Nat) : Prop where
  f : ∀ z ∈ b.names, ∀ n, n ∈ fs z ↔ (D n ∧ Can b hp z n) ∨ rawS hp z n
structure LMid (b : Book) (hp : Heap') (D : Nat → Prop) (m : Nat) (fs : Str → List Nat) : Prop where
  f : ∀ z ∈ b.names, ∀ n, n ≠ m → (n ∈ fs z ↔ (D n ∧ Can b hp z n) ∨ rawS hp z n)
  mc : ∀ z ∈ b.names, m ∈ fs z → Can b hp z m
  r : ∀ z ∈ b.names, rawS hp z m → m ∈ fs z
theorem LInv.mid {b : Book} {hp : Heap'} {D : Nat → Prop} {fs : Str → List Nat} (i : LInv b hp D fs) (m : Nat) : LMid b hp D m fs :=
  ⟨fun z hz n _ => i.f z hz n, fun z hz h => ((i.f z hz m).mp h).elim (fun h => h.2) raw_can, fun z hz h => (i.f z hz m).mpr (.inr h)⟩
structure Grw (G : Gx) (h0 h : Hv) : Prop where
  sub : Sub h0 h
  bz : ∀ c, h c = some .busy → h0 c = some .busy
  tb : Tbs G.Ts h
theorem Grw.new {G : Gx} {h0 h : Hv} {p : Addr} {o : Ob} (g : Grw G h0 h) (e : h p = none) (nb : o ≠ .busy) (nt : ∀ q, o ≠ .tab q) : Grw G h0 (put h p o) :=
  ⟨g.sub.trans (Sub.put e), fun c hc => by
    by_cases z : c = p
    · subst z; rw [put_same] at hc; exact absurd (Option.some.inj hc) nb
    · rw [put_ne z] at hc; exact g.bz c hc, g.tb.put e nt⟩
theorem Grw.write {G : Gx} {h0 h : Hv} {p : Addr} {o u : Ob} (g : Grw G h0 h) (e0 : h0 p = none) (e : h p = some u) (nu : ∀ q, u ≠ .tab q) (nb : o ≠ .busy) (nt : ∀ q, o ≠ .tab q) : Grw G h0 (put h p o) :=
  ⟨fun c w hc => by rw [put_ne (fun z => by rw [z, e0] at hc; cases hc)]; exact g.sub c w hc, fun c hc => by
    by_cases z : c = p
    · subst z; rw [put_same] at hc; exact absurd (Option.some.inj hc) nb
    · rw [put_ne z] at hc; exact g.bz c hc, g.tb.write e nu nt⟩
end DL
namespace DL
open PySem PySem.Spec PyProof.Rows L2
def DV (h : Hv) (d : Addr) (kvs : List (Key × Val)) : Prop := h d = some (.dK kvs) ∨ ∃ o xs, h d = some (.dF o xs kvs)
structure FndAt (h : Hv) (d : Addr) (la : Str → Addr) (b : Book) (fs : Str → List Nat) : Prop where
  d : DV h d (refD b la)
  l : ∀ z ∈ b.names, h (la z) = some (.lst ((fs z).map encS))
  nl : ∀ z ∈ b.names, ∀ y ∈ b.names, z ≠ y → la z ≠ la y
  s : ∀ z ∈ b.names, Small (fs z)
  z : ∀ z ∈ b.names, ∀ n ∈ fs z, n ≠ 0
end DL
namespace DL
open PySem PySem.Spec PyProof.Rows L2
def rngI (n : Nat) : List Int := (List.range n).map fun (i : Nat) => (i : Int)
end DL
namespace DL
open PySem PySem.Spec PyProof.Rows L2
end DL
namespace DL
open PySem PySem.Spec PyProof.Rows L2
end DL
namespace DL
open PySem PySem.Spec PyProof.Rows L2
end DL
namespace DL
open PySem PySem.Spec PyProof.Rows L2
def den_look_land : SD := (sIf (dOr (dNot (dTruth (dCB fIsi (aCons (dVar 1) (aCons (dC (.ty "str")) aNil))))) (dTest (dBin fNotIn (dVar 1) (dCall 1 S_names_of (aCons (dVar 0) aNil))))) (sRaise "NoLand") sNext)
end DL
namespace DL
open PySem PySem.Spec PyProof.Rows L2
theorem flats_str {ns : List Str} : (ns.map Val.str).all flatA = true := by
  rw [List.all_map, List.all_eq_true]; intro x _; rfl
theorem bo_look_land (N : List Str) (hN : N.length = 2) : ∀ as h Q E, as.length = 2 → S_look_land as h Q E → den_look_land (startA N as) h (endsR Q) (RX E) := by
  rintro as h Q E - ⟨b, v, rfl, hl, q⟩
  unfold den_look_land
  simp only [startA, hN]
  simp only [sSet, sFor, sIf, sRet, sExpr, sPar, sAsg, sSeq, sNext, sAug, dIt, dTup, dLst, dLstH, dCB, dCall, dCallK, dBin, dUn, dTest, dChain, dIfE, aCons, aNil, dVar, dC, dTruth, dNot, dAnd, dOr, vAnd, vOr, vNot, dBM, dSl, dRev, oSome, oNone]
  rcases q with ⟨z, rfl, hz, q⟩ | ⟨⟨f, i⟩, q⟩
  · have e : inA (.str z) (b.names.map .str) = true := by rw [inA_str]; exact decide_eq_true hz
    simp [isT, tyN]
    refine ⟨b, rfl, hl, ?_⟩
    simp [flats_str, e]
    exact ⟨h, Lss.refl h, q⟩
  · have q : RX E "NoLand" none [some (encB b), some v] h := ⟨h, Lss.refl h, q⟩
    cases v <;> first | (cases f; done) | skip
    · simp [isT, tyN]; exact q
    · simp [isT, tyN]; exact q
    · simp [isT, tyN]; exact q
    · simp [isT, tyN]
      refine ⟨b, rfl, hl, ?_⟩
      simp [flats_str, i]
      exact q
theorem Tbs.only {Ts : List (Addr × Str)} {t r : Addr} {h h' : Hv} (x : Tbs Ts h) (nt : ∀ q, h t ≠ some (.tab q)) (nr : ∀ q, h r ≠ some (.tab q)) (T' : Town t r h') (on : Only t r h h') : Tbs Ts h' := by
  obtain ⟨c', _, e1'⟩ := T'.tc
  obtain ⟨rs', e2', _⟩ := T'.rc
  refine ⟨fun p hp => ?_, fun b q' e => ?_⟩
  · have := x.has p hp
    rw [on p.1 (fun z => nt p.2 (by rw [← z]; exact this)) (fun z => nr p.2 (by rw [← z]; exact this))]; exact this
  · refine x.all b q' ?_
    rw [← on b (fun z => by rw [z, e1'] at e; cases e) (fun z => by rw [z, e2'] at e; cases e)]; exact e
theorem town_nt {t r : Addr} {h : Hv} (T : Town t r h) : (∀ q, h t ≠ some (.tab q)) ∧ ∀ q, h r ≠ some (.tab q) := by
  obtain ⟨c, _, e1⟩ := T.tc
  obtain ⟨rs, e2, _⟩ := T.rc
  exact ⟨fun q z => (by rw [e1] at z; cases z), fun q z => (by rw [e2] at z; cases z)⟩
theorem Tbs.town {Ts : List (Addr × Str)} {t r : Addr} {h h' : Hv} (x : Tbs Ts h) (T : Town t r h) (T' : Town t r h') (on : Only t r h h') : Tbs Ts h' := x.only (town_nt T).1 (town_nt T).2 T' on
theorem Tbs.begin {Ts : List (Addr × Str)} {t r : Addr} {h h' : Hv} (x : Tbs Ts h) (nt : h t = none) (nr : h r = none) (T' : Town t r h') (on : Only t r h h') : Tbs Ts h' := x.only (fun q z => by rw [nt] at z; cases z) (fun q z => by rw [nr] at z; cases z) T' on
end DL
namespace DL
open PySem PySem.Spec PyProof.Rows L2
end DL
namespace DL
open PySem PySem.Spec PyProof.Rows L2
theorem dats_ints (xs : List Int) : dats (xs.map Val.int) = some (xs.map PyData.int) := by
  induction xs with
  | nil => rfl
  | cons x xs ih => rw [List.map_cons, dats, dat, ih]; rfl
theorem eqvAll_ints : ∀ xs ys : List Int, PyData.eqvAll (xs.map PyData.int) (ys.map PyData.int) = decide (xs = ys)
  | [], [] => rfl
  | [], y :: ys => rfl
  | x :: xs, [] => rfl
  | x :: xs, y :: ys => by
    rw [List.map_cons, List.map_cons, PyData.eqvAll, eqvAll_ints xs ys, PyData.eqv, Bool.eq_iff_iff]
    simp
theorem eqD_ints (xs ys : List Int) : eqD (.tup (xs.map .int)) (.tup (ys.map .int)) = decide (xs = ys) := by
  unfold eqD
  rw [dat, dat, dats_ints, dats_ints]
  exact eqvAll_ints xs ys
theorem okN_ints {xs : List Int} (h : xs.length ≤ 1000) (d : Nat) : okN (d + 1) (.tup (xs.map .int)) = true := by
  rw [okN_tup]
  refine ⟨fun v hv => ?_, by rw [List.length_map]; exact h⟩
  obtain ⟨n, -, rfl⟩ := List.mem_map.mp hv
  cases d <;> rfl
theorem sum_perm {xs ys : List Int} (h : xs.Perm ys) (f : Int → Int) : (xs.map f).sum = (ys.map f).sum := by
  induction h with
  | nil => rfl
  | cons x _ ih => rw [List.map_cons, List.map_cons, List.sum_cons, List.sum_cons, ih]
  | swap x y l => simp only [List.map_cons, List.sum_cons]; omega
  | trans _ _ i j => exact i.trans j
end DL
namespace DL
open PySem PySem.Spec PyProof.Rows L2
end DL
namespace DL
open PySem PySem.Spec PyProof.Rows L2
theorem Drawn.nz {b : Book} (d : Drawn b) : ∀ z ∈ b.names, okN 0 (.str z) = true := fun z hz => by
  have := d.short z hz
  rcases List.mem_cons.mp this with e | this
  · rw [e]; decide +kernel
  rcases List.mem_cons.mp this with e | this
  · rw [e]; decide +kernel
  rw [List.mem_singleton.mp this]; decide +kernel
theorem okN_encO {names : List Str} (nz : ∀ z ∈ names, okN 0 (.str z) = true) {o : Option Str} (h : ∀ z, o = some z → z ∈ names) (d : Nat) : okN d (encO o) = true := by
  cases o with
  | none => cases d <;> rfl
  | some z => exact okN_le (nz z (h z rfl)) (Nat.zero_le _)
mutual
theorem land_mem {b : Book} {hp : Heap'} (hf : ∀ x ∈ hp, ∀ z, x.2 = some z → z ∈ b.names) : ∀ t : Tree, t.okT b.names → ∀ z, t.land b hp = some z → z ∈ b.names
  | .leaf n, _, z, h => by
    rw [Tree.land] at h
    unfold rawL at h
    obtain ⟨x, hx, e⟩ := Option.bind_eq_some_iff.mp h
    exact hf x (List.mem_of_getElem? hx) z e
  | .node y ts, ok, z, h => by
    rw [Tree.okT] at ok
    rw [Tree.land] at h
    split at h
    · cases h; exact ok.1
    · cases h
end
end DL
namespace DL
open PySem PySem.Spec PyProof.Rows L2
theorem fEq_encO {o : Option Str} {z : Str} {h : Hv} {Q : PV} (q : Q (.bl (decide (o = some z))) h) : fEq (encO o) (.str z) h Q := by
  cases o with
  | none => exact q
  | some y =>
    show Q (.bl (y == z)) h
    have : (y == z) = decide (some y = some z) := by
      by_cases e : y = z
      · subst e; simp
      · rw [decide_eq_false (by simpa using e)]; simpa using e
    rw [this]; exact q
theorem fNe_encO2 {o : Option Str} {z : Str} {h : Hv} {Q : PV} (q : Q (.bl (!decide (o = some z))) h) : fNe (encO o) (.str z) h Q := by
  cases o with
  | none => exact q
  | some y =>
    show Q (.bl (!(y == z))) h
    have : (y == z) = decide (some y = some z) := by
      by_cases e : y = z
      · subst e; simp
      · rw [decide_eq_false (by simpa using e)]; simpa using e
    rw [this]; exact q
end DL
namespace DL
open PySem PySem.Spec PyProof.Rows L2
end DL
namespace DL
open PySem PySem.Spec PyProof.Rows L2
end DL
namespace DL
open PySem PySem.Spec PyProof.Rows L2
end DL
namespace DL
open PySem PySem.Spec PyProof.Rows L2
end DL
namespace DL
open PySem PySem.Spec PyProof.Rows L2
end DL
namespace DL
open PySem PySem.Spec PyProof.Rows L2
end DL
namespace DL
open PySem PySem.Spec PyProof.Rows L2
end DL
namespace DL
open PySem PySem.Spec PyProof.Rows L2
def EvE (ρ : Sl) (h : Hv) (E : PX) (d : ED) (v : Val) : Prop := ∀ Q : PV, Q v h → d ρ h Q E
def EvT (ρ : Sl) (h : Hv) (E : PX) (d : TD) (k : Bool) : Prop := ∀ Q : Bool → Hv → Prop, Q k h → d ρ h Q E
def EvA (ρ : Sl) (h : Hv) (E : PX) (d : AD) (vs : List Val) : Prop := ∀ Q : List Val → Hv → Prop, Q vs h → d ρ h Q E
def EvI (ρ : Sl) (h : Hv) (E : PX) (d : ID) (it : Itr) : Prop := ∀ Q : Itr → Hv → Prop, Q it h → d ρ h Q E
def EvF (h : Hv) (f : F2) (v w u : Val) : Prop := ∀ Q : PV, Q u h → f v w h Q
def EvC (h : Hv) (f : FA) (vs : List Val) (u : Val) : Prop := ∀ Q : PV, Q u h → f vs h Q
section
variable {ρ : Sl} {h : Hv} {E : PX} {d da db dc : ED} {ta tb : TD} {aa : AD} {v w u : Val} {k l : Bool} {vs : List Val}
theorem EvE.cast (a : EvE ρ h E d v) (e : v = w) : EvE ρ h E d w := e ▸ a
theorem EvT.cast (a : EvT ρ h E ta k) (e : k = l) : EvT ρ h E ta l := e ▸ a
theorem ev_var {i : Nat} (e : ρ[i]? = some (some v) := by rfl) : EvE ρ h E (dVar i) v := fun Q q => by
  show match ρ[i]? with | some (some v) => Q v h | _ => False
  rw [e]; exact q
theorem ev_c : EvE ρ h E (dC v) v := fun Q q => q
theorem ev_bin {f : F2} (ha : EvE ρ h E da v) (hb : EvE ρ h E db w) (hf : EvF h f v w u) : EvE ρ h E (dBin f da db) u := fun Q q => ha _ (hb _ (hf _ q))
theorem evt_test (ha : EvE ρ h E da (.bl k)) : EvT ρ h E (dTest da) k := fun Q q => ha _ q
theorem evt_truth (ha : EvE ρ h E da v) (e : truA v h = some k) : EvT ρ h E (dTruth da) k := fun Q q => ha _ (by
  show match truA v h with | some k => Q k h | none => False
  rw [e]; exact q)
theorem evt_truthB (ha : EvE ρ h E da (.bl k)) : EvT ρ h E (dTruth da) k := evt_truth ha rfl
theorem evt_not (ha : EvT ρ h E ta k) : EvT ρ h E (dNot ta) (!k) := fun Q q => ha _ q
theorem evt_and (ha : EvT ρ h E ta k) (hb : k = true → EvT ρ h E tb l) : EvT ρ h E (dAnd ta tb) (k && l) := fun Q q => ha _ (by
  show if k = true then tb ρ h Q E else Q false h
  cases k with
  | false => rw [if_neg Bool.false_ne_true]; exact q
  | true => rw [if_pos rfl]; exact hb rfl Q q)
theorem evt_or (ha : EvT ρ h E ta k) (hb : k = false → EvT ρ h E tb l) : EvT ρ h E (dOr ta tb) (k || l) := fun Q q => ha _ (by
  show if k = true then Q true h else tb ρ h Q E
  cases k with
  | true => rw [if_pos rfl]; exact q
  | false => rw [if_neg Bool.false_ne_true]; exact hb rfl Q q)
theorem ev_if (ht : EvT ρ h E ta k) (ha : k = true → EvE ρ h E da v) (hb : k = false → EvE ρ h E db v) : EvE ρ h E (dIfE ta da db) v := fun Q q => ht _ (by
  show if k = true then da ρ h Q E else db ρ h Q E
  cases k with
  | true => rw [if_pos rfl]; exact ha rfl Q q
  | false => rw [if_neg Bool.false_ne_true]; exact hb rfl Q q)
theorem ev_vAnd (ha : EvE ρ h E da (.bl k)) (hb : k = true → EvE ρ h E db (.bl l)) : EvE ρ h E (vAnd da db) (.bl (k && l)) := fun Q q => ha _ (by
  show if k = true then db ρ h Q E else Q (.bl k) h
  cases k with
  | false => rw [if_neg Bool.false_ne_true]; exact q
  | true => rw [if_pos rfl]; exact hb rfl Q q)
theorem eva_nil : EvA ρ h E aNil [] := fun Q q => q
theorem eva_cons (ha : EvE ρ h E da v) (hb : EvA ρ h E aa vs) : EvA ρ h E (aCons da aa) (v :: vs) := fun Q q => ha _ (hb _ q)
theorem eva1 (ha : EvE ρ h E da v) : EvA ρ h E (aCons da aNil) [v] := eva_cons ha eva_nil
theorem eva2 (ha : EvE ρ h E da v) (hb : EvE ρ h E db w) : EvA ρ h E (aCons da (aCons db aNil)) [v, w] := eva_cons ha (eva1 hb)
theorem ev_tup (ha : EvA ρ h E aa vs) (hl : vs.length ≤ sizeLine) : EvE ρ h E (dTup aa) (.tup vs) := fun Q q => ha _ ⟨hl, q⟩
theorem ev_lst (ha : EvA ρ h E aa vs) (hl : vs.length ≤ sizeLine) : EvE ρ h E (dLst aa) (.lst vs) := fun Q q => ha _ ⟨hl, q⟩
theorem ev_cb {f : FA} (ha : EvA ρ h E aa vs) (hf : EvC h f vs u) : EvE ρ h E (dCB f aa) u := fun Q q => ha _ (hf _ q)
theorem ev_call {n : Nat} {fs : SpF} (ha : EvA ρ h E aa vs) (hn : vs.length = n) (hf : ∀ Q : PV, Q u h → fs vs h Q (fun nm pl h' => E nm pl ρ h')) : EvE ρ h E (dCall n fs aa) u := fun Q q => ha _ ⟨hn, hf _ q⟩
theorem ev_dget {o : Val} (ha : EvE ρ h E da v) (hb : EvE ρ h E db w) (e : dgetA v w h = some (some o)) : EvE ρ h E (dDGet da db) o := fun Q q => ha _ (hb _ (by
  show match dgetA v w h with | some (some u) => Q u h | _ => False
  rw [e]; exact q))
theorem ev_fld {C a : Addr} {f : Str} {fs : List (Str × Val)} (ha : EvE ρ h E da (.ref a)) (e : h a = some (.ins C fs)) (ef : fs.lookup f = some u) : EvE ρ h E (dFld C f da) u := fun Q q => ha _ (by
  show match h a with | some (.ins C' fs) => C' = C ∧ (match fs.lookup f with | some u => Q u h | none => False) | _ => False
  rw [e]
  refine ⟨rfl, ?_⟩
  rw [ef]; exact q)
def EvO (ρ : Sl) (h : Hv) (E : PX) (d : OD) (i : Option Int) : Prop := ∀ Q : Option Int → Hv → Prop, Q i h → d ρ h Q E
theorem evo_none : EvO ρ h E oNone none := fun Q q => q
theorem evo_some {i : Int} (ha : EvE ρ h E da (.int i)) : EvO ρ h E (oSome da) (some i) := fun Q q => ha _ q
theorem ev_sl {lo hi : OD} {l r : Option Int} (ha : EvE ρ h E da v) (hl : EvO ρ h E lo l) (hr : EvO ρ h E hi r) (hf : ∀ Q : PV, Q u h → fSl v l r h Q) : EvE ρ h E (dSl fSl da lo hi) u := fun Q q => ha _ (hl _ (hr _ (hf _ q)))
theorem evi_it {it : Itr} (ha : EvE ρ h E da v) (e : iterOf v h = some it) : EvI ρ h E (dIt da) it := fun Q q => ha _ (by
  show match iterOf v h with | some it => Q it h | none => False
  rw [e]; exact q)
theorem evi_range1 {n : Nat} (ha : EvE ρ h E da (.int (n : Int))) (hn : n ≤ 1000000) : EvI ρ h E (dRange1 (aCons da aNil)) ⟨(List.range n).map fun (i : Nat) => .int (0 + (i : Nat)), fun _ => True⟩ := fun Q q => (eva1 ha) _ (by
  show -(2 ^ 62) ≤ (n : Int) ∧ (n : Int) < 2 ^ 62 ∧ Q ⟨(List.range ((n : Nat) : Int).toNat).map fun (i : Nat) => .int (0 + (i : Nat)), fun _ => True⟩ h
  refine ⟨by omega, by omega, ?_⟩
  have : ((n : Nat) : Int).toNat = n := by omega
  rw [this]; exact q)
variable {D : AE} {s1 s2 : SD}
theorem s_seq (q : s1 ρ h { D with nx := fun ρ h => s2 ρ h D E } E) : sSeq s1 s2 ρ h D E := q
theorem s_set {i : Nat} (ha : EvE ρ h E da v) (q : D.nx (ρ.set i (some v)) h) : sSet i da ρ h D E := ha _ q
theorem ss_set {i : Nat} (ha : EvE ρ h E da v) (q : s2 (ρ.set i (some v)) h D E) : sSeq (sSet i da) s2 ρ h D E := ha _ q
theorem ss_par2 {i j : Nat} (ha : EvA ρ h E aa [v, w]) (q : s2 ((ρ.set i (some v)).set j (some w)) h D E) : sSeq (sPar [i, j] aa) s2 ρ h D E := ha _ q
theorem s_if (ht : EvT ρ h E ta k) (q1 : k = true → s1 ρ h D E) (q2 : k = false → s2 ρ h D E) : sIf ta s1 s2 ρ h D E := ht _ (by
  show if k = true then s1 ρ h D E else s2 ρ h D E
  cases k with
  | true => rw [if_pos rfl]; exact q1 rfl
  | false => rw [if_neg Bool.false_ne_true]; exact q2 rfl)
theorem s_ret (ha : EvE ρ h E da v) (q : D.rt v h) : sRet da ρ h D E := ha _ q
theorem s_for {di : ID} {t : Tg} {it : Itr} (hi : EvI ρ h E di it) (q : forL it.ok t s1 it.items ρ h D E) : sFor di t s1 ρ h D E := hi _ q
theorem s_dput {h' : Hv} (hv : EvE ρ h E da v) (hd : EvE ρ h E db w) (hk : EvE ρ h E dc u) (e : dputA w u v h = some h') (q : D.nx ρ h') : sDPut db dc da ρ h D E := hv _ (hd _ (hk _ (by
  show match dputA w u v h with | some h' => D.nx ρ h' | none => False
  rw [e]; exact q)))
theorem ss_if (ht : EvT ρ h E ta k) {s3 : SD} (q1 : k = true → s1 ρ h { D with nx := fun ρ h => s3 ρ h D E } E) (q2 : k = false → s2 ρ h { D with nx := fun ρ h => s3 ρ h D E } E) : sSeq (sIf ta s1 s2) s3 ρ h D E := s_seq (s_if ht q1 q2)
theorem ss_for {di : ID} {t : Tg} {it : Itr} (hi : EvI ρ h E di it) (q : ∀ d', d' = s1 → forL it.ok t d' it.items ρ h { D with nx := fun ρ h => s2 ρ h D E } E) : sSeq (sFor di t s1) s2 ρ h D E := s_seq (s_for hi (q s1 rfl))
theorem ev_neg {i : Int} (ha : EvE ρ h E da (.int i)) : EvE ρ h E (dUn fNeg da) (.int (-i)) := fun Q q => ha _ q
theorem s_call {n : Nat} {fs : SpF} (ha : EvA ρ h E aa vs) (hn : vs.length = n) (hf : fs vs h (fun _ h' => D.nx ρ h') (fun nm pl h' => E nm pl ρ h')) : sExpr (dCall n fs aa) ρ h D E := ha _ ⟨hn, hf⟩
theorem e_meth {C a : Addr} {m : Str} {n : Nat} {fs : SpF} {Q : PV} {fl : List (Str × Val)} (ho : EvE ρ h E da (.ref a)) (e : h a = some (.ins C fl)) (nl : fl.lookup m = none) (ha : EvA ρ h E aa vs) (hn : vs.length + 1 = n) (hf : fs (.ref a :: vs) h Q (fun nm pl h' => E nm pl ρ h')) : dMeth C m n fs da aa ρ h Q E := ho _ (by
  show match h a with | some (.ins C' fl) => C' = C ∧ fl.lookup m = none ∧ aa ρ h (fun vs h2 => vs.length + 1 = n ∧ fs (.ref a :: vs) h2 Q (fun nm pl h' => E nm pl ρ h')) E | _ => False
  rw [e]
  exact ⟨rfl, nl, ha _ ⟨hn, hf⟩⟩)
theorem f_add (i j : Int) : EvF h fAdd (.int i) (.int j) (.int (i + j)) := fun Q q => q
theorem f_sub (i j : Int) : EvF h fSub (.int i) (.int j) (.int (i - j)) := fun Q q => q
theorem f_ixL {v : Val} {vs : List Val} {n : Nat} {u : Val} (e : seqOf v h = some vs) (hu : vs[n]? = some u) : EvF h fIx v (.int (n : Int)) u := fun Q q => by
  have hn : n < vs.length := (List.getElem?_eq_some_iff.mp hu).1
  have ea : atI vs (n : Int) = some u := by
    have : ixN vs.length (n : Int) = some n := by unfold ixN; simp; omega
    unfold atI
    rw [this]
    exact hu
  cases v with
  | str z => cases e
  | tup xs => show match seqOf (.tup xs) h with | some vs => (match atI vs (n : Int) with | some u => Q u h | none => False) | none => False; rw [e]; show match atI vs (n : Int) with | some u => Q u h | none => False; rw [ea]; exact q
  | tpo xs => show match seqOf (.tpo xs) h with | some vs => (match atI vs (n : Int) with | some u => Q u h | none => False) | none => False; rw [e]; show match atI vs (n : Int) with | some u => Q u h | none => False; rw [ea]; exact q
  | lst xs => show match seqOf (.lst xs) h with | some vs => (match atI vs (n : Int) with | some u => Q u h | none => False) | none => False; rw [e]; show match atI vs (n : Int) with | some u => Q u h | none => False; rw [ea]; exact q
  | scr xs => show match seqOf (.scr xs) h with | some vs => (match atI vs (n : Int) with | some u => Q u h | none => False) | none => False; rw [e]; show match atI vs (n : Int) with | some u => Q u h | none => False; rw [ea]; exact q
  | ref xs => show match seqOf (.ref xs) h with | some vs => (match atI vs (n : Int) with | some u => Q u h | none => False) | none => False; rw [e]; show match atI vs (n : Int) with | some u => Q u h | none => False; rw [ea]; exact q
  | _ => cases e
theorem c_len {v : Val} {n : Nat} (e : lenA v h = some n) : EvC h fLen [v] (.int (n : Int)) := fun Q q => by
  show match lenA v h with | some n => Q (.int n) h | none => False
  rw [e]; exact q
section
variable {α : Type} {di : ID} {t : Tg} {tt : TD} {te : ED} {vs : List Nat} {ok : Hv → Prop}
theorem ev_lcF (xs : List α) (f : α → Val) (pv : α → Bool) (g : α → Val) (hdi : EvI ρ h E di ⟨xs.map f, ok⟩) (hok : ∀ h', Sub h h' → ok h') (hl : xs.length ≤ sizeLine)
    (he : ∀ x ∈ xs, ∃ ρ', bT t (f x) (wipeA ρ vs) = some ρ' ∧ (∀ h', Sub h h' → EvT ρ' h' EF tt (pv x)) ∧ (pv x = true → ∀ h', Sub h h' → EvE ρ' h' EF te (g x))) : EvE ρ h E (dLc di t tt te vs) (.lst ((xs.filter pv).map g)) := fun Q q =>
  lc_filtT xs f pv g hdi hok hl (fun x hx => let ⟨ρ', e, a, b⟩ := he x hx; ⟨ρ', e, fun h' Q' sb q' => a h' sb Q' q', fun k h' Q' sb q' => b k h' sb Q' q'⟩) q
theorem ev_lc (xs : List α) (f : α → Val) (g : α → Val) (hdi : EvI ρ h E di ⟨xs.map f, ok⟩) (hok : ∀ h', Sub h h' → ok h') (hl : xs.length ≤ sizeLine)
    (he : ∀ x ∈ xs, ∃ ρ', bT t (f x) (wipeA ρ vs) = some ρ' ∧ ∀ h', Sub h h' → EvE ρ' h' EF te (g x)) : EvE ρ h E (dLc di t tTrue te vs) (.lst (xs.map g)) := fun Q q =>
  lc_mapT xs f g hdi hok hl (fun x hx => let ⟨ρ', e, a⟩ := he x hx; ⟨ρ', e, fun h' Q' sb q' => a h' sb Q' q'⟩) q
theorem ev_any (xs : List α) (f : α → Val) (p : α → Bool) (hdi : EvI ρ h E di ⟨xs.map f, ok⟩) (hok : ∀ h', Sub h h' → ok h') (hl : xs.length ≤ sizeLine)
    (he : ∀ x ∈ xs, ∃ ρ', bT t (f x) (wipeA ρ vs) = some ρ' ∧ ∀ h', Sub h h' → EvE ρ' h' EF te (.bl (p x))) : EvE ρ h E (dCB fAny (aCons (dLc di t tTrue te vs) aNil)) (.bl (xs.any p)) := fun Q q =>
  any_lcT xs f p hdi hok hl (fun x hx => let ⟨ρ', e, a⟩ := he x hx; ⟨ρ', e, fun h' Q' sb q' => a h' sb Q' q'⟩) q
theorem ev_all (xs : List α) (f : α → Val) (p : α → Bool) (hdi : EvI ρ h E di ⟨xs.map f, ok⟩) (hok : ∀ h', Sub h h' → ok h') (hl : xs.length ≤ sizeLine)
    (he : ∀ x ∈ xs, ∃ ρ', bT t (f x) (wipeA ρ vs) = some ρ' ∧ ∀ h', Sub h h' → EvE ρ' h' EF te (.bl (p x))) : EvE ρ h E (dCB fAll (aCons (dLc di t tTrue te vs) aNil)) (.bl (xs.all p)) := fun Q q =>
  all_lcT xs f p hdi hok hl (fun x hx => let ⟨ρ', e, a⟩ := he x hx; ⟨ρ', e, fun h' Q' sb q' => a h' sb Q' q'⟩) q
theorem ev_sum (xs : List α) (f : α → Val) (p : α → Int) (hdi : EvI ρ h E di ⟨xs.map f, ok⟩) (hok : ∀ h', Sub h h' → ok h') (hl : xs.length ≤ sizeLine)
    (he : ∀ x ∈ xs, ∃ ρ', bT t (f x) (wipeA ρ vs) = some ρ' ∧ ∀ h', Sub h h' → EvE ρ' h' EF te (.int (p x))) : EvE ρ h E (dCB fSum (aCons (dLc di t tTrue te vs) aNil)) (.int (xs.map p).sum) := fun Q q =>
  sum_lcT xs f p hdi hok hl (fun x hx => let ⟨ρ', e, a⟩ := he x hx; ⟨ρ', e, fun h' Q' sb q' => a h' sb Q' q'⟩) q
end
end
end DL
namespace DL
open PySem PySem.Spec PyProof.Rows L2
def insN (xs : List Nat) (n : Nat) : List Nat := if n ∈ xs then xs else xs ++ [n]
theorem mem_insN {xs : List Nat} {n k : Nat} : k ∈ insN xs n ↔ k ∈ xs ∨ k = n := by
  unfold insN
  split
  · rename_i h
    constructor
    · exact .inl
    · rintro (h' | h')
      · exact h'
      · rw [h']; exact h
  · simp
theorem Small.ins {xs : List Nat} {n : Nat} (s : Small xs) (h : n < 256) : Small (insN xs n) := by
  refine ⟨?_, fun k hk => ?_⟩
  · unfold insN
    split
    · exact s.nd
    · rename_i hn
      rw [List.nodup_append]
      exact ⟨s.nd, by simp, fun a ha b hb => by rw [List.mem_singleton.mp hb]; exact fun e => hn (e ▸ ha)⟩
  · rcases mem_insN.mp hk with h' | h'
    · exact s.lt k h'
    · rw [h']; exact h
theorem nodup_le : ∀ (N : Nat) (xs : List Nat), xs.Nodup → (∀ n ∈ xs, n < N) → xs.length ≤ N
  | 0, xs, _, h => by
    cases xs with
    | nil => simp
    | cons x xs => exact absurd (h x List.mem_cons_self) (Nat.not_lt_zero _)
  | N + 1, xs, nd, h => by
    have ih := nodup_le N (xs.erase N) (nd.erase N) fun n hn => by
      have := (nd.mem_erase_iff).mp hn
      have := h n this.2
      omega
    by_cases e : N ∈ xs
    · rw [List.length_erase_of_mem e] at ih; omega
    · rw [List.erase_of_not_mem e] at ih; omega
theorem Small.len {xs : List Nat} (s : Small xs) : xs.length ≤ 256 := nodup_le 256 xs s.nd s.lt
def upS (f : Str → List Nat) (z : Str) (xs : List Nat) : Str → List Nat := fun y => if y = z then xs else f y
theorem upS_same {f : Str → List Nat} {z : Str} {xs : List Nat} : upS f z xs z = xs := by unfold upS; rw [if_pos rfl]
theorem upS_ne {f : Str → List Nat} {z y : Str} {xs : List Nat} (h : y ≠ z) : upS f z xs y = f y := by unfold upS; rw [if_neg h]
section
variable {G : Gx} {h : Hv} {a : Addr} {b : Book} {hp : Heap'} {gs js : Str → List Nat} {A : Ad}
theorem OffT.refl (h : Hv) : OffT b A h h := fun _ _ => rfl
theorem OffT.trans {h1 h2 : Hv} (x : OffT b A h h1) (y : OffT b A h1 h2) : OffT b A h h2 := fun c hc => (y c hc).trans (x c hc)
variable {E : PX} {Q : PV} {ρ : Sl} {i : Nat}
variable {ds dz dn : ED} {h' : Hv}
end
end DL
namespace DL
open PySem PySem.Spec PyProof.Rows L2
end DL
namespace DL
open PySem PySem.Spec PyProof.Rows L2
section
variable {G : Gx} {a : Addr} {b : Book} {hp : Heap'} {gs js : Str → List Nat} {A : Ad} {m : Nat}
end
end DL
namespace DL
open PySem PySem.Spec PyProof.Rows L2
theorem f_notN {h : Hv} {o : Option Str} : EvF h fNotN (encO o) .non (.bl o.isSome) := fun Q q => by
  cases o with
  | none => exact q
  | some z => exact q
end DL
namespace DL
open PySem PySem.Spec PyProof.Rows L2
theorem putA_new {kvs : List (Key × Val)} {k : Key} {v : Val} (h : ∀ p ∈ kvs, p.1 ≠ k) : putA kvs k v = kvs ++ [(k, v)] := by
  unfold putA
  have : (kvs.any fun kv => decide (kv.1 = k)) = false := by
    rw [List.any_eq_false]
    intro p hp
    simp [h p hp]
  rw [this]
  rfl
theorem x_fld {ρ : Sl} {h : Hv} {E : PX} {d : ED} {D : AE} {C a : Addr} {f : Str} {v : Val} {fl : List (Str × Val)} (hd : EvE ρ h E d (.ref a)) (e : h a = some (.ins C fl)) (l : fl.length < 1000) (q : D.nx ρ (put h a (.ins C (putFA f v fl)))) :
    d ρ h (fun o h2 => match o with
      | .ref a => (match h2 a with
        | some (.ins C' fs) => C' = C ∧ fs.length < 1000 ∧ D.nx ρ (put h2 a (.ins C (putFA f v fs)))
        | _ => False)
      | _ => False) E := hd _ (by
  show match h a with | some (.ins C' fs) => C' = C ∧ fs.length < 1000 ∧ D.nx ρ (put h a (.ins C (putFA f v fs))) | _ => False
  rw [e]
  exact ⟨rfl, l, q⟩)
theorem ss_fld {ρ : Sl} {h : Hv} {E : PX} {d dv : ED} {D : AE} {s2 : SD} {C a : Addr} {f : Str} {v : Val} {fl : List (Str × Val)} (hv : EvE ρ h E dv v) (hd : EvE ρ h E d (.ref a)) (e : h a = some (.ins C fl)) (l : fl.length < 1000) (q : s2 ρ (put h a (.ins C (putFA f v fl))) D E) : sSeq (sFldA C f d dv) s2 ρ h D E :=
  s_seq (hv _ (x_fld (D := { D with nx := fun ρ h => s2 ρ h D E }) hd e l q))
end DL
namespace DL
open PySem PySem.Spec PyProof.Rows L2
end DL
namespace DL
open PySem PySem.Spec PyProof.Rows L2
end DL
namespace DL
open PySem PySem.Spec PyProof.Rows L2
theorem setI_ne {n : Nat} (hn : n < 256) (n0 : n ≠ 0) : ∃ x r, setI n = x :: r := by
  cases e : setI n with
  | nil => have := bits_set hn; rw [e] at this; exact absurd this.symm n0
  | cons x r => exact ⟨x, r, rfl⟩
end DL
namespace DL
open PySem PySem.Spec PyProof.Rows L2
theorem f_addL {h : Hv} {v w : Val} {xs ys : List Val} (e1 : listOf v h = some xs) (e2 : listOf w h = some ys) (hl : xs.length + ys.length ≤ sizeLine) : EvF h fAdd v w (.lst (xs ++ ys)) := fun Q q => by
  unfold fAdd
  split
  · cases e1
  · cases e1
  · cases e1
  · cases e1
  · cases e1
  · rw [e1, e2]; exact ⟨hl, q⟩
end DL
namespace DL
open PySem PySem.Spec PyProof.Rows L2
theorem inA_ints {i : Int} {xs : List Int} : inA (.int i) (xs.map .int) = decide (i ∈ xs) := by
  unfold inA
  rw [List.any_map, Bool.eq_iff_iff, List.any_eq_true, decide_eq_true_eq]
  constructor
  · rintro ⟨x, hx, e⟩
    have : (x == i) = true := e
    rw [← eq_of_beq this]; exact hx
  · intro h
    exact ⟨i, h, show (i == i) = true from beq_self_eq_true i⟩
theorem flat_ints (xs : List Int) : (xs.map Val.int).all flatA = true := by
  rw [List.all_map, List.all_eq_true]; intro x _; rfl
theorem f_notInI {h : Hv} {i : Int} {v : Val} {xs : List Int} (e : seqOf v h = some (xs.map .int)) : EvF h fNotIn (.int i) v (.bl (!decide (i ∈ xs))) := fun Q q => by
  show match seqOf v h with | some vs => flatA (.int i) = true ∧ vs.all flatA = true ∧ Q (.bl (!inA (.int i) vs)) h | none => False
  rw [e]
  exact ⟨rfl, flat_ints xs, by rw [inA_ints]; exact q⟩
theorem f_inI {h : Hv} {i : Int} {v : Val} {xs : List Int} (e : seqOf v h = some (xs.map .int)) : EvF h fIn (.int i) v (.bl (decide (i ∈ xs))) := fun Q q => by
  show match seqOf v h with | some vs => flatA (.int i) = true ∧ vs.all flatA = true ∧ Q (.bl (inA (.int i) vs)) h | none => False
  rw [e]
  exact ⟨rfl, flat_ints xs, by rw [inA_ints]; exact q⟩
theorem f_eqT0 {h : Hv} {xs : List Int} (hl : xs.length ≤ 1000) : EvF h fEq (.tup (xs.map .int)) (.tup []) (.bl (decide (xs = []))) := fun Q q => by
  refine fEq_dat (okN_ints hl 63) (okN_ints (xs := []) (by simp) 63) ?_
  have := eqD_ints xs []
  rw [List.map_nil] at this
  rw [this]; exact q
theorem okN_lints {xs : List Int} (h : xs.length ≤ 1000) (d : Nat) : okN (d + 1) (.lst (xs.map .int)) = true := by
  rw [okN_lst]
  refine ⟨fun v hv => ?_, by rw [List.length_map]; exact h⟩
  obtain ⟨n, -, rfl⟩ := List.mem_map.mp hv
  cases d <;> rfl
end DL
namespace DL
open PySem PySem.Spec PyProof.Rows L2
section
variable {h h' : Hv} {d : Addr} {la : Str → Addr} {b : Book} {fs : Str → List Nat} {ρ : Sl} {E : PX} {dd dz : ED}
theorem DV.sub {kvs : List (Key × Val)} (v : DV h d kvs) (sb : Sub h h') : DV h' d kvs := v.imp (sb d _) fun ⟨o, xs, e⟩ => ⟨o, xs, sb d _ e⟩
end
end DL
namespace DL
open PySem PySem.Spec PyProof.Rows L2
theorem okN_encS (n d : Nat) : okN (d + 1) (encS n) = true := okN_ints (by have := setI_len n; omega) d
structure FB (G : Gx) (h0 h : Hv) (d : Addr) (la : Str → Addr) (b : Book) (fs : Str → List Nat) : Prop where
  f : FndAt h d la b fs
  g : Grw G h0 h
  nd : h0 d = none
  nl : ∀ z ∈ b.names, h0 (la z) = none ∧ la z ≠ d
section
variable {G : Gx} {h0 h : Hv} {d : Addr} {la : Str → Addr} {b : Book} {fs : Str → List Nat} {z : Str} {n : Nat}
theorem FB.app (t : FB G h0 h d la b fs) (hz : z ∈ b.names) (hn : n < 256) (n0 : n ≠ 0) (nf : n ∉ fs z) : FB G h0 (put h (la z) (.lst ((fs z).map encS ++ [encS n]))) d la b (upS fs z (fs z ++ [n])) := by
  refine ⟨⟨?_, fun y hy => ?_, t.f.nl, fun y hy => ?_, fun y hy => ?_⟩, t.g.write (t.nl z hz).1 (t.f.l z hz) (fun _ z => nomatch z) (fun z => nomatch z) (fun _ z => nomatch z), t.nd, t.nl⟩
  · rcases t.f.d with v | ⟨o, xs, v⟩
    · exact .inl (by rw [put_ne (t.nl z hz).2.symm]; exact v)
    · exact .inr ⟨o, xs, by rw [put_ne (t.nl z hz).2.symm]; exact v⟩
  · by_cases e : y = z
    · subst e; rw [put_same, upS_same, List.map_append]; rfl
    · rw [put_ne (t.f.nl y hy z hz e), upS_ne e]; exact t.f.l y hy
  · by_cases e : y = z
    · subst e; rw [upS_same]
      refine ⟨List.nodup_append.mpr ⟨(t.f.s y hy).nd, by simp, fun a ha c hc => ?_⟩, fun k hk => ?_⟩
      · rw [List.mem_singleton.mp hc]; exact fun e => nf (e ▸ ha)
      · rcases List.mem_append.mp hk with hk | hk
        · exact (t.f.s y hy).lt k hk
        · rw [List.mem_singleton.mp hk]; exact hn
    · rw [upS_ne e]; exact t.f.s y hy
  · by_cases e : y = z
    · subst e; rw [upS_same]
      intro k hk
      rcases List.mem_append.mp hk with hk | hk
      · exact t.f.z y hy k hk
      · rw [List.mem_singleton.mp hk]; exact n0
    · rw [upS_ne e]; exact t.f.z y hy
theorem FB.frz (t : FB G h0 h d la b fs) {kvs : List (Key × Val)} (e : h d = some (.dK kvs)) (o : Obj) (xs : List (Key × V)) : FB G h0 (put h d (.dF o xs (refD b la))) d la b fs := by
  refine ⟨⟨.inr ⟨o, xs, put_same⟩, fun y hy => ?_, t.f.nl, t.f.s, t.f.z⟩, t.g.write t.nd e (fun _ z => nomatch z) (fun z => nomatch z) (fun _ z => nomatch z), t.nd, t.nl⟩
  rw [put_ne (t.nl y hy).2]; exact t.f.l y hy
end
end DL
namespace DL
open PySem PySem.Spec PyProof.Rows L2
theorem merge_new : ∀ (more kvs : List (Key × Val)), ((kvs ++ more).map (·.1)).Nodup → mergeA kvs more = kvs ++ more
  | [], kvs, _ => by simp
  | p :: more, kvs, nd => by
    have e : putA kvs p.1 p.2 = kvs ++ [p] := putA_new (fun q hq h => by
      rw [List.map_append, List.nodup_append] at nd
      exact nd.2.2 q.1 (List.mem_map_of_mem hq) p.1 (List.mem_map_of_mem List.mem_cons_self) h)
    show mergeA (putA kvs p.1 p.2) more = _
    rw [e, merge_new more (kvs ++ [p]) (by rw [List.append_assoc]; exact nd), List.append_assoc]
    rfl
end DL
namespace DL
open PySem PySem.Spec PyProof.Rows L2
end DL
namespace DL
open PySem PySem.Spec PyProof.Rows L2
section
variable {ρ : Sl} {h : Hv} {E : PX} {aa ab : AD} {vs ws : List Val} {u v : Val} {da : ED} {s2 : SD} {D : AE}
theorem f_neS (ok : okN 64 v = true) (hs : scA v v = none := by rfl) : EvF h fNe v v (.bl false) := fun Q q => fNe_dat ok ok (by rw [eqD_refl ok]; exact q) hs
end
theorem e_call {n : Nat} {fs : SpF} {ρ : Sl} {h : Hv} {E : PX} {aa : AD} {vs : List Val} {Q : PV} (ha : EvA ρ h E aa vs) (hn : vs.length = n) (hf : fs vs h Q (fun nm pl h' => E nm pl ρ h')) : dCall n fs aa ρ h Q E := ha _ ⟨hn, hf⟩
theorem x_set {i : Nat} {d : ED} {s2 : SD} {ρ : Sl} {h : Hv} {E : PX} {D : AE} (q : d ρ h (fun v h => s2 (ρ.set i (some v)) h D E) E) : sSeq (sSet i d) s2 ρ h D E := q
theorem Town.sub {t r : Addr} {h h' : Hv} (T : Town t r h) (s : Sub h h') : Town t r h' := by
  obtain ⟨c, c0, e1⟩ := T.tc
  obtain ⟨rs, e2, k⟩ := T.rc
  exact ⟨T.ne, ⟨c, c0, s _ _ e1⟩, rs, s _ _ e2, k⟩
section
variable {ρ : Sl} {h : Hv} {E : PX} {s2 : SD} {D : AE} {ns : List Int} {t r : Addr} {Ts : List (Addr × Str)}
theorem ss_begun {i : Nat} (tb : Tbs Ts h) (q : ∀ t r h', Town t r h' → Tbs Ts h' → s2 (ρ.set i (some (.ref t))) h' D E) : sSeq (sSet i (dCall 0 S__law_begun aNil)) s2 ρ h D E :=
  s_seq (show _ ∧ _ from ⟨rfl, rfl, fun t r h1 ht hr T1 o1 => q t r h1 T1 (tb.begin ht hr T1 o1)⟩)
theorem ss_book {i : Nat} {ds dt : ED} (nl : ns.length ≤ 63) (T : Town t r h) (tb : Tbs Ts h) (hs : EvE ρ h E ds (.scr ns)) (ht : EvE ρ h E dt (.ref t)) (q : ∀ b h', Drawn b → Town t r h' → Tbs Ts h' → Only t r h h' → s2 (ρ.set i (some (encB b))) h' D E) : sSeq (sSet i (dCall 2 S__law_a_book (aCons ds (aCons dt aNil)))) s2 ρ h D E :=
  x_set (e_call (eva2 hs ht) rfl ⟨ns, t, r, rfl, nl, T, fun b h' db T' o' => q b h' db T' (tb.town T T' o') o'⟩)
end
theorem names_len {b : Book} (wf : WFB b) : b.names.length ≤ 4 := by have := wf.n4; unfold Book.names; rw [List.length_map]; exact this
theorem FndAt.only {h h' : Hv} {d : Addr} {la : Str → Addr} {b : Book} {fs : Str → List Nat} {t r : Addr} (f : FndAt h d la b fs) (nd : d ≠ t ∧ d ≠ r) (nl : ∀ z ∈ b.names, la z ≠ t ∧ la z ≠ r) (on : Only t r h h') : FndAt h' d la b fs :=
  ⟨f.d.imp (fun e => (on d nd.1 nd.2).trans e) fun ⟨o, xs, e⟩ => ⟨o, xs, (on d nd.1 nd.2).trans e⟩, fun z hz => (on _ (nl z hz).1 (nl z hz).2).trans (f.l z hz), f.nl, f.s, f.z⟩
theorem FndAt.sub {h h' : Hv} {d : Addr} {la : Str → Addr} {b : Book} {fs : Str → List Nat} (f : FndAt h d la b fs) (s : Sub h h') : FndAt h' d la b fs :=
  ⟨f.d.sub s, fun z hz => s _ _ (f.l z hz), f.nl, f.s, f.z⟩
end DL
namespace DL
open PySem PySem.Spec PyProof.Rows L2
end DL
namespace DL
open PySem PySem.Spec PyProof.Rows L2
def kIt (k : Bool) (h : Heap) (it l : Addr) (i : Nat) : Prop := match k with
  | true => h.IsListIter it l i
  | false => h.IsTupleIter it l i
def kSq (k : Bool) (h : Heap) (l : Addr) (xs : Array Value) : Prop := match k with
  | true => h.IsList l xs
  | false => h.IsTuple l xs
section
variable {h h' : Heap} {k : Bool} {it l b : Addr} {i : Nat} {xs : Array Value}
theorem kIt.ext (x : kIt k h it l i) (hs : Heap.ExtBut b h h') (ne : it ≠ b) : kIt k h' it l i := by
  cases k with
  | true => exact Heap.IsListIter.extBut x hs ne
  | false => exact Heap.IsTupleIter.extBut x hs ne
theorem kSq.ext (x : kSq k h l xs) (hs : Heap.ExtBut b h h') (ne : l ≠ b) : kSq k h' l xs := by
  cases k with
  | true => exact Heap.IsList.extBut x hs ne
  | false => exact Heap.IsTuple.extBut x hs ne
theorem kIt.at (x : kIt k h it l i) (e : ∀ o, h.get? it = some o → h'.get? it = some o) : kIt k h' it l i := by
  cases k with
  | true => exact Heap.IsListIter.at x e
  | false => exact Heap.IsTupleIter.at x e
theorem kIt.obj (x : kIt k h it l i) : ∃ o, h.get? it = some o ∧ ∀ v, o.data ≠ .cell v := by
  cases k with
  | true => obtain ⟨o, e, _, d⟩ := x; exact ⟨o, e, fun v q => by rw [d] at q; cases q⟩
  | false => obtain ⟨o, e, _, d⟩ := x; exact ⟨o, e, fun v q => by rw [d] at q; cases q⟩
end
section
variable {prog : Program} {w : World} {A : Around} {E : Value → Shared → Prop} {s : Shared}
variable {kx ky : Bool} {z TI TO i1 i2 l1 l2 : Addr} {k1 k2 : Nat} {xs ys : Array Value} {x y a b : Value}
end
end DL
namespace DL
open PySem PySem.Spec PyProof.Rows L2
section
variable {prog : Program} {w : World} {A : Around} {E : Value → Shared → Prop} {s : Shared}
end
def SqM (k : Bool) (K : PySem.W.Frag) (H : Hp) (a : Addr) (xs : List V) : Prop := match k with
  | true => SqL K H a xs
  | false => SqT K H a xs
theorem SqM.get {k : Bool} {X : Cx} {pins : List (Addr × Obj)} {σ : L2.St} {H : Hp} {s : Shared} {a : Addr} {xs : List V} (I : Inv X pins σ H s) (h : SqM k X.K H a xs) : ∃ its, Vals xs its ∧ kSq k s.heap a its.toArray := by
  cases k with
  | true => obtain ⟨its, rv, p, _⟩ := I.list h; exact ⟨its, rv, p.isList⟩
  | false => obtain ⟨its, rv, p, _⟩ := I.tuple h; exact ⟨its, rv, p⟩
theorem SqM.inj {k : Bool} {X : Cx} {pins : List (Addr × Obj)} {σ : L2.St} {H : Hp} {s : Shared} {a : Addr} {xs ys : List V} (I : Inv X pins σ H s) (h : SqM k X.K H a xs) (h' : SqM k X.K H a ys) : xs = ys := by
  cases k with
  | true => exact I.list_inj h h'
  | false => exact I.tuple_inj h h'
theorem kSq.lt {k : Bool} {h : Heap} {l : Addr} {xs : Array Value} (x : kSq k h l xs) : l < h.objs.size := by
  cases k with
  | true => obtain ⟨o, e, _⟩ := x; exact Heap.lt_size e
  | false => obtain ⟨o, e, _⟩ := x; exact Heap.lt_size e
@[simp] def zipOfM (v w : Val) (h : Hv) : Option Itr := match v, w with
  | .lst xs, .tup ys => some ⟨(xs.zip ys).map fun p => Val.tup [p.1, p.2], fun _ => True⟩
  | .tup xs, .lst ys => some ⟨(xs.zip ys).map fun p => Val.tup [p.1, p.2], fun _ => True⟩
  | .tup xs, .ref a => (match h a with
    | some (.lst ys) => some ⟨(xs.zip ys).map fun p => Val.tup [p.1, p.2], fun h2 => h2 a = some (.lst ys)⟩
    | _ => none)
  | _, _ => none
@[simp] def dZipM (aa : AD) : ID := fun ρ h Q E => aa ρ h (fun vs h1 => match vs with
  | [v, w] => (match zipOfM v w h1 with
    | some it => Q it h1
    | none => False)
  | _ => False) E
section
variable {X : Cx} {B : Bs} {e e2 : Expr} {aa : AD} {p pos : Pos}
end
end DL
namespace DL
open PySem PySem.Spec PyProof.Rows L2
def Ris (xs : List Nat) : Prop := xs.Pairwise fun a b => setI a < setI b
structure LotOk (b : Book) (hp : Heap') (fs : Str → List Nat) : Prop where
  r : ∀ z ∈ b.names, Ris (fs z)
  s : ∀ z ∈ b.names, ∀ n ∈ fs z, n ≠ 0 ∧ inH hp n
def lotV (b : Book) (fs : Str → List Nat) : Val := .tup (b.names.map fun z => .tup ((fs z).map encS))
end DL
namespace DL
open PySem PySem.Spec PyProof.Rows L2
end DL
namespace DL
open PySem PySem.Spec PyProof.Rows L2
end DL
namespace DL
open PySem PySem.Spec PyProof.Rows L2
section
variable {ρ : Sl} {h : Hv} {E : PX} {da db : ED}
end
structure Gr0 (h0 h : Hv) : Prop where
  sub : Sub h0 h
  bz : ∀ c, h c = some .busy → h0 c = some .busy
theorem Gr0.refl (h : Hv) : Gr0 h h := ⟨Sub.refl h, fun _ e => e⟩
theorem Gr0.new {h0 h : Hv} {p : Addr} {o : Ob} (g : Gr0 h0 h) (e : h p = none) (nb : o ≠ .busy) : Gr0 h0 (put h p o) :=
  ⟨g.sub.trans (Sub.put e), fun c hc => by
    by_cases z : c = p
    · subst z; rw [put_same] at hc; exact absurd (Option.some.inj hc) nb
    · rw [put_ne z] at hc; exact g.bz c hc⟩
theorem Gr0.write {h0 h : Hv} {p : Addr} {o : Ob} (g : Gr0 h0 h) (e0 : h0 p = none) (nb : o ≠ .busy) : Gr0 h0 (put h p o) :=
  ⟨fun c w hc => by rw [put_ne (fun z => by rw [z, e0] at hc; cases hc)]; exact g.sub c w hc, fun c hc => by
    by_cases z : c = p
    · subst z; rw [put_same] at hc; exact absurd (Option.some.inj hc) nb
    · rw [put_ne z] at hc; exact g.bz c hc⟩
theorem Gr0.none {h0 h : Hv} (g : Gr0 h0 h) {c : Addr} (e : h c = none) : h0 c = none := by
  cases e0 : h0 c with
  | none => rfl
  | some o => rw [g.sub c o e0] at e; cases e
structure TldAt (h : Hv) (d : Addr) (ta : Str → Addr) (b : Book) (fs : Str → List Nat) : Prop where
  dv : DV h d (refD b ta)
  l : ∀ z ∈ b.names, h (ta z) = some (.dK (encD (fs z)))
  ne : ∀ z ∈ b.names, ta z ≠ d
theorem TldAt.sub {h h' : Hv} {d : Addr} {ta : Str → Addr} {b : Book} {fs : Str → List Nat} (t : TldAt h d ta b fs) (s : Sub h h') : TldAt h' d ta b fs := ⟨t.dv.sub s, fun z hz => s _ _ (t.l z hz), t.ne⟩
theorem TldAt.fresh {h : Hv} {d : Addr} {ta : Str → Addr} {b : Book} {fs : Str → List Nat} (t : TldAt h d ta b fs) {j : Addr} (e : h j = none) : j ≠ d ∧ ∀ z ∈ b.names, j ≠ ta z := by
  refine ⟨fun e2 => ?_, fun z hz e2 => by rw [e2, t.l z hz] at e; cases e⟩
  subst e2
  rcases t.dv with v | ⟨o, xs, v⟩ <;> (rw [v] at e; cases e)
theorem TldAt.put {h : Hv} {d : Addr} {ta : Str → Addr} {b : Book} {fs : Str → List Nat} (t : TldAt h d ta b fs) {j : Addr} {o : Ob} (n : j ≠ d ∧ ∀ z ∈ b.names, j ≠ ta z) : TldAt (DL.put h j o) d ta b fs :=
  ⟨t.dv.imp (fun e => by rw [put_ne n.1.symm]; exact e) fun ⟨o, xs, e⟩ => ⟨o, xs, by rw [put_ne n.1.symm]; exact e⟩, fun z hz => by rw [put_ne (n.2 z hz).symm]; exact t.l z hz, t.ne⟩
theorem TldAt.frz {h : Hv} {d : Addr} {ta : Str → Addr} {b : Book} {fs : Str → List Nat} (t : TldAt h d ta b fs) (o : Obj) (xs : List (Key × V)) : TldAt (DL.put h d (.dF o xs (refD b ta))) d ta b fs :=
  ⟨.inr ⟨o, xs, put_same⟩, fun z hz => by rw [put_ne (t.ne z hz)]; exact t.l z hz, t.ne⟩
section
variable {h h' : Hv} {d : Addr} {ta : Str → Addr} {b : Book} {fs : Str → List Nat} {ρ : Sl} {E : PX} {dd dz dn : ED} {z : Str} {n : Nat}
end
theorem Ris.nodup {xs : List Nat} (r : Ris xs) : xs.Nodup := r.imp fun {a b} h e => by subst e; exact List.lt_irrefl _ h
section
variable {b : Book} {hp : Heap'} {fs : Str → List Nat}
theorem LotOk.small (l : LotOk b hp fs) (h8 : hp.length ≤ 8) {z : Str} (hz : z ∈ b.names) : Small (fs z) := ⟨(l.r z hz).nodup, fun n hn => inH_lt h8 (l.s z hz n hn).2⟩
theorem LotOk.okN (l : LotOk b hp fs) (h8 : hp.length ≤ 8) (wf : WFB b) (d : Nat) : DL.okN (d + 3) (lotV b fs) = true := by
  unfold lotV
  rw [okN_tup]
  refine ⟨fun v hv => ?_, by rw [List.length_map]; have := names_len wf; omega⟩
  obtain ⟨z, hz, rfl⟩ := List.mem_map.mp hv
  rw [okN_tup]
  refine ⟨fun v hv => ?_, by rw [List.length_map]; have := (l.small h8 hz).len; omega⟩
  obtain ⟨n, -, rfl⟩ := List.mem_map.mp hv
  exact okN_encS n d
end
end DL
namespace DL
open PySem PySem.Spec PyProof.Rows L2
end DL
namespace DL
open PySem PySem.Spec PyProof.Rows L2
end DL
namespace DL
open PySem PySem.Spec PyProof.Rows L2
end DL
namespace DL
open PySem PySem.Spec PyProof.Rows L2
theorem CMade.mono {b : Book} {hp : Heap'} {fs gs : Str → List Nat} {z : Str} {m : Nat} (c : CMade b hp fs z m) (h : ∀ t ∈ takesL b z, ∀ n ∈ fs t, n ∈ gs t) : CMade b hp gs z m := by
  obtain ⟨p, s, j, e⟩ := c
  exact ⟨p, s, j.mono fun q ⟨t, ht, hq⟩ => ⟨t, ht, h t ht q hq⟩, e⟩
end DL
namespace DL
open PySem PySem.Spec PyProof.Rows L2
set_option maxHeartbeats 0 in
theorem bit_add_all : ((List.range 256).all fun m => (List.range 8).all fun x => m.testBit x || (decide (m + 2 ^ x < 256) && (List.range 9).all fun i => (m + 2 ^ x).testBit i == (m.testBit i || decide (i = x)))) = true := by decide +kernel
theorem bit_add {m x : Nat} (hm : m < 256) (hx : x < 8) (hb : m.testBit x = false) : m + 2 ^ x < 256 ∧ ∀ i, (m + 2 ^ x).testBit i = (m.testBit i || decide (i = x)) := by
  have := List.all_eq_true.mp (List.all_eq_true.mp bit_add_all m (List.mem_range.mpr hm)) x (List.mem_range.mpr hx)
  rw [hb, Bool.false_or, Bool.and_eq_true, decide_eq_true_eq] at this
  refine ⟨this.1, fun i => ?_⟩
  by_cases hi : i < 9
  · exact beq_iff_eq.mp (List.all_eq_true.mp this.2 i (List.mem_range.mpr hi))
  · have big : ∀ k, k < 256 → k.testBit i = false := fun k hk => by
      cases e : k.testBit i with
      | false => rfl
      | true => have := bit_lt hk e; omega
    rw [big _ this.1, big _ hm]
    simp; omega
def In8 (L : List Int) : Prop := ∀ i ∈ L, 0 ≤ i ∧ i < 8
theorem bitsL_cons (x : Int) (L : List Int) : bitsL (x :: L) = 2 ^ x.toNat + bitsL L := by unfold bitsL; simp
theorem bits_list : ∀ {L : List Int}, L.Nodup → In8 L → bitsL L < 256 ∧ ∀ i : Nat, (bitsL L).testBit i = decide ((i : Int) ∈ L)
  | [], _, _ => ⟨by decide, fun i => by simp [bitsL]⟩
  | x :: L, nd, h8 => by
    obtain ⟨nx, nd'⟩ := List.nodup_cons.mp nd
    obtain ⟨lt, tb⟩ := bits_list nd' fun i hi => h8 i (List.mem_cons_of_mem _ hi)
    have hx := h8 x List.mem_cons_self
    have ex : ((x.toNat : Nat) : Int) = x := by omega
    have hb : (bitsL L).testBit x.toNat = false := by rw [tb, ex]; exact decide_eq_false nx
    obtain ⟨a, c⟩ := bit_add lt (by omega : x.toNat < 8) hb
    rw [bitsL_cons, Nat.add_comm]
    refine ⟨a, fun i => ?_⟩
    rw [c, tb, Bool.eq_iff_iff, Bool.or_eq_true, decide_eq_true_eq, decide_eq_true_eq, decide_eq_true_eq, List.mem_cons]
    constructor
    · rintro (h | h)
      · exact .inr h
      · exact .inl (by omega)
    · rintro (h | h)
      · exact .inr (by omega)
      · exact .inl h
theorem mem_setI {n : Nat} (hn : n < 256) {i : Int} : i ∈ setI n ↔ 0 ≤ i ∧ n.testBit i.toNat = true := by
  unfold setI
  rw [List.mem_map]
  constructor
  · rintro ⟨j, hj, rfl⟩
    exact ⟨by omega, by rw [Int.toNat_natCast]; exact (mem_setN hn).mp hj⟩
  · rintro ⟨h0, h⟩
    exact ⟨i.toNat, (mem_setN hn).mpr h, by omega⟩
theorem setI_nodup (n : Nat) : (setI n).Nodup := (setI_up n).imp fun h e => by omega
theorem set_list {L : List Int} (nd : L.Nodup) (h8 : In8 L) : (setI (bitsL L)).Perm L := by
  obtain ⟨lt, tb⟩ := bits_list nd h8
  refine (List.perm_ext_iff_of_nodup (setI_nodup _) nd).mpr fun i => ?_
  rw [mem_setI lt, tb, decide_eq_true_eq]
  constructor
  · rintro ⟨h0, h⟩
    rw [show ((i.toNat : Nat) : Int) = i by omega] at h
    exact h
  · intro h
    have := (h8 i h).1
    exact ⟨this, by rw [show ((i.toNat : Nat) : Int) = i by omega]; exact h⟩
theorem wt_list {hp : Heap'} {L : List Int} (nd : L.Nodup) (h8 : In8 L) : wt hp (bitsL L) = (L.map (rawW hp)).sum := sum_perm (set_list nd h8) _
theorem bits_sub {L M : List Int} (nL : L.Nodup) (nM : M.Nodup) (h8 : In8 M) (h : ∀ i ∈ L, i ∈ M) : sub (bitsL L) (bitsL M) = true := sub_iff.mpr fun i hi => by
  rw [(bits_list nL fun i hi => h8 i (h i hi)).2] at hi
  rw [(bits_list nM h8).2]
  exact decide_eq_true (h _ (of_decide_eq_true hi))
end DL
namespace DL
open PySem PySem.Spec PyProof.Rows L2
theorem things_ne {names : List Str} : ∀ (t : Tree), t.okT names → t.things ≠ []
  | .leaf n, _ => by rw [Tree.things]; simp
  | .node z (t :: ts), h => by
    rw [Tree.okT] at h
    have h3 := h.2.2
    rw [okTs] at h3
    rw [Tree.things, thingsTs]
    intro e
    exact things_ne t h3.1 (List.append_eq_nil_iff.mp e).1
  | .node z [], h => by rw [Tree.okT] at h; exact absurd rfl h.2.1
end DL
namespace DL
open PySem PySem.Spec PyProof.Rows L2
def costT (c : Str → Int) (t : Tree) : Int := (t.lands.map c).sum
def costTs (c : Str → Int) (ts : List Tree) : Int := ((landsTs ts).map c).sum
def Nn (c : Str → Int) (b : Book) : Prop := ∀ z ∈ b.names, 0 ≤ c z ∧ c z ≤ 9999
structure GT (b : Book) (hp : Heap') (z : Str) (n : Nat) (t : Tree) : Prop where
  ok : t.okT b.names
  th : t.things.Perm (setI n)
  ld : t.land b hp = some z
structure GS (b : Book) (hp : Heap') (z : Str) (n : Nat) (ts : List Tree) : Prop where
  ok : okTs b.names ts
  ne : ts ≠ []
  th : (thingsTs ts).Perm (setI n)
  ld : ∀ t ∈ ts, ∃ y ∈ takesL b z, t.land b hp = some y
end DL
namespace DL
open PySem PySem.Spec PyProof.Rows L2
inductive JndC (P : Nat → Int → Prop) : Nat → Int → Prop
  | one {n : Nat} {k : Int} : n ≠ 0 → P n k → JndC P n k
  | more {n p : Nat} {k k' : Int} : sub p n = true → p ≠ 0 → p ≠ n → lowN n &&& p ≠ 0 → P p k → JndC P (n - p) k' → JndC P n (k + k')
theorem JndC.mono {P P' : Nat → Int → Prop} {n : Nat} {k : Int} (j : JndC P n k) (h : ∀ p k, P p k → P' p k) : JndC P' n k := by
  induction j with
  | one n0 hp => exact .one n0 (h _ _ hp)
  | more s p0 pn l hp _ ih => exact .more s p0 pn l (h _ _ hp) ih
theorem JndC.pos {P : Nat → Int → Prop} {n : Nat} {k : Int} (j : JndC P n k) : n ≠ 0 := by
  cases j with
  | one n0 _ => exact n0
  | more s p0 pn _ _ _ => have := sub_le s; omega
def Up (P : Nat → Int → Prop) (n : Nat) (k : Int) : Prop := ∃ k', k' ≤ k ∧ P n k'
theorem JndC.up {P : Nat → Int → Prop} {n : Nat} {k : Int} (j : JndC (Up P) n k) : Up (JndC P) n k := by
  induction j with
  | one n0 hp =>
    obtain ⟨k', h, hp⟩ := hp
    exact ⟨k', h, .one n0 hp⟩
  | more s p0 pn l hp _ ih =>
    obtain ⟨k1, h1, hp⟩ := hp
    obtain ⟨k2, h2, hj⟩ := ih
    exact ⟨k1 + k2, by omega, .more s p0 pn l hp hj⟩
theorem JndC.low {P : Nat → Int → Prop} {Q : Nat → Prop} {n : Nat} {k : Int} (j : JndC P n k) (h : ∀ p k, P p k → Q p) : Jnd Q n := by
  induction j with
  | one n0 hp => exact .one n0 (h _ _ hp)
  | more s p0 pn l hp _ ih => exact .more s p0 pn l (h _ _ hp) ih
def TkC (b : Book) (C : Str → Nat → Int → Prop) (z : Str) (p : Nat) (k : Int) : Prop := ∃ t ∈ takesL b z, C t p k
structure CloC (b : Book) (hp : Heap') (c : Str → Int) (C : Str → Nat → Int → Prop) : Prop where
  raw : ∀ (i : Nat) (w : Int) (z : Str), hp[i]? = some (w, some z) → C z (2 ^ i) 0
  made : ∀ z ∈ b.names, ∀ n, inH hp n → ∀ p, sub p n = true → ∀ k, JndC (TkC b C z) p k → enough b z (wt hp p) (wt hp n) = true → C z n (k + c z)
def Cst (b : Book) (hp : Heap') (c : Str → Int) (z : Str) (n : Nat) (k : Int) : Prop := ∀ C, CloC b hp c C → C z n k
end DL
namespace DL
open PySem PySem.Spec PyProof.Rows L2
abbrev Bst := Str → Nat → Option (Int × Tree)
abbrev Spt := Str → Nat → Option (Int × List Tree)
def OptB (b : Book) (hp : Heap') (c : Str → Int) (z : Str) (n : Nat) (o : Option (Int × Tree)) : Prop :=
  (∀ k t, o = some (k, t) → GT b hp z n t ∧ costT c t = k ∧ t.ht ≤ b.names.length * (setI n).length) ∧ (∀ k', Cst b hp c z n k' → ∃ k t, o = some (k, t) ∧ k ≤ k')
def OptS (b : Book) (hp : Heap') (c : Str → Int) (z : Str) (n : Nat) (o : Option (Int × List Tree)) : Prop :=
  (∀ k ts, o = some (k, ts) → GS b hp z n ts ∧ costTs c ts = k ∧ htTs ts ≤ b.names.length * (setI n).length) ∧ (∀ k', JndC (TkC b (Cst b hp c) z) n k' → ∃ k ts, o = some (k, ts) ∧ k ≤ k')
structure BInv (b : Book) (hp : Heap') (c : Str → Int) (D : Nat → Prop) (B : Bst) (S : Spt) : Prop where
  lo : ∀ z ∈ b.names, ∀ n, D n → OptB b hp c z n (B z n) ∧ OptS b hp c z n (S z n)
  nx : ∀ z ∈ b.names, ∀ n, ¬ D n → B z n = none ∧ S z n = none
def cheap (B : Bst) (m : Nat) (k : Int) (w : Str) : Bool := match B w m with
  | some (k', _) => decide (k' ≤ k)
  | none => false
def cntB (b : Book) (B : Bst) (m : Nat) (k : Int) : Nat := b.names.countP (cheap B m k)
structure BMid (b : Book) (hp : Heap') (c : Str → Int) (D : Nat → Prop) (m : Nat) (B : Bst) (S : Spt) : Prop where
  lo : ∀ z ∈ b.names, ∀ n, D n → OptB b hp c z n (B z n) ∧ OptS b hp c z n (S z n)
  nx : ∀ z ∈ b.names, ∀ n, ¬ D n → n ≠ m → B z n = none ∧ S z n = none
  bm : ∀ z ∈ b.names, ∀ k t, B z m = some (k, t) → GT b hp z m t ∧ costT c t = k ∧ t.ht ≤ b.names.length * ((setI m).length - 1) + cntB b B m k
  sm : ∀ z ∈ b.names, ∀ k ts, S z m = some (k, ts) → GS b hp z m ts ∧ costTs c ts = k ∧ htTs ts ≤ b.names.length * ((setI m).length - 1) + cntB b B m k
theorem BInv.mid {b : Book} {hp : Heap'} {c : Str → Int} {D : Nat → Prop} {B : Bst} {S : Spt} (i : BInv b hp c D B S) {m : Nat} (hm : ¬ D m) : BMid b hp c D m B S :=
  ⟨i.lo, fun z hz n hn _ => i.nx z hz n hn, fun z hz k t h => by rw [(i.nx z hz m hm).1] at h; (cases h), fun z hz k t h => by rw [(i.nx z hz m hm).2] at h; (cases h)⟩
structure Cand (b : Book) (B : Bst) (S : Spt) (z : Str) (m p : Nat) (y : Str) (k1 : Int) (t : Tree) (k2 : Int) (ts : List Tree) : Prop where
  cp : p ∈ partsN m
  cl : lowN m &&& p ≠ 0
  cy : y ∈ takesL b z
  cb : B y p = some (k1, t)
  cs : (m - p = 0 ∧ k2 = 0 ∧ ts = []) ∨ (m - p ≠ 0 ∧ S z (m - p) = some (k2, ts))
structure FBo (b : Book) (hp : Heap') (c : Str → Int) (D : Nat → Prop) (m : Nat) : Prop where
  fo : FillOk b hp D m
  w1 : ∀ x ∈ hp, 1 ≤ x.1
  nn : Nn c b
theorem FBo.m1 {b : Book} {hp : Heap'} {c : Str → Int} {D : Nat → Prop} {m : Nat} (f : FBo b hp c D m) : 1 ≤ (setI m).length := by
  obtain ⟨x, r, e⟩ := setI_ne f.fo.lt f.fo.m0
  rw [e]; simp
theorem FBo.low {b : Book} {hp : Heap'} {c : Str → Int} {D : Nat → Prop} {m : Nat} (f : FBo b hp c D m) {p : Nat} (p0 : p ≠ 0) (pm : p ≠ m) (s : sub p m = true) : D p ∧ b.names.length * (setI p).length ≤ b.names.length * ((setI m).length - 1) :=
  ⟨f.fo.low p p0 pm s, Nat.mul_le_mul_left _ (by have := pop_lt f.fo.lt p0 s pm; omega)⟩
end DL
namespace DL
open PySem PySem.Spec PyProof.Rows L2
structure Emb (hp hp' : Heap') (f : Int → Int) : Prop where
  rg : ∀ i, 0 ≤ i → i < (hp.length : Int) → 0 ≤ f i ∧ f i < (hp'.length : Int)
  inj : ∀ i j, 0 ≤ i → i < (hp.length : Int) → 0 ≤ j → j < (hp.length : Int) → f i = f j → i = j
  w : ∀ i, 0 ≤ i → i < (hp.length : Int) → rawW hp' (f i) = rawW hp i
  l : ∀ i, 0 ≤ i → i < (hp.length : Int) → rawL hp' (f i) = rawL hp i
def img (f : Int → Int) (n : Nat) : Nat := bitsL ((setI n).map f)
section
variable {hp hp' : Heap'} {f : Int → Int} {n p : Nat}
theorem Emb.nd (e : Emb hp hp' f) (hn : inH hp n) : ((setI n).map f).Nodup := by
  refine List.pairwise_map.mpr (List.Pairwise.imp_of_mem ?_ (setI_nodup n))
  intro x y hx hy ne he
  have h1 := inH_rg hn x hx
  have h2 := inH_rg hn y hy
  exact ne (e.inj x y h1.1 h1.2 h2.1 h2.2 he)
theorem Emb.mem (e : Emb hp hp' f) (hn : inH hp n) : ∀ i ∈ (setI n).map f, 0 ≤ i ∧ i < (hp'.length : Int) := fun i hi => by
  obtain ⟨j, hj, rfl⟩ := List.mem_map.mp hi
  have := inH_rg hn j hj
  exact e.rg j this.1 this.2
theorem Emb.in8 (e : Emb hp hp' f) (h8 : hp'.length ≤ 8) (hn : inH hp n) : In8 ((setI n).map f) := fun i hi => by
  have := e.mem hn i hi
  omega
theorem Emb.wt (e : Emb hp hp' f) (h8 : hp'.length ≤ 8) (hn : inH hp n) : wt hp' (img f n) = wt hp n := by
  unfold img
  rw [wt_list (e.nd hn) (e.in8 h8 hn), List.map_map]
  unfold DL.wt
  congr 1
  refine List.map_congr_left fun i hi => ?_
  have := inH_rg hn i hi
  exact e.w i this.1 this.2
theorem Emb.sub (e : Emb hp hp' f) (h8 : hp.length ≤ 8) (h8' : hp'.length ≤ 8) (hn : inH hp n) (s : sub p n = true) : sub (img f p) (img f n) = true := by
  refine bits_sub (e.nd (inH_sub hn s)) (e.nd hn) (e.in8 h8' hn) fun i hi => ?_
  obtain ⟨j, hj, rfl⟩ := List.mem_map.mp hi
  have hlt := inH_lt h8 hn
  exact List.mem_map_of_mem ((sub_mem hlt (lt_of_sub hlt s)).mp s j hj)
end
end DL
namespace DL
open PySem PySem.Spec PyProof.Rows L2
section
variable {b : Book} {hp : Heap'} {z : Str}
end
end DL
namespace DL
open PySem PySem.Spec PyProof.Rows L2
end DL
namespace DL
open PySem PySem.Spec PyProof.Rows L2
def encBo (o : Int × Tree) : Val := .tup [.int o.1, o.2.enc]
def encSo (o : Int × List Tree) : Val := .tup [.int o.1, .tup (o.2.map Tree.enc)]
structure DOf (kvs : List (Key × Val)) (f : Nat → Option Val) : Prop where
  ks : ∃ ks : List Nat, kvs.map (·.1) = ks.map (fun (k : Nat) => (Sum.inl (k : Int) : Key)) ∧ ks.Nodup ∧ ∀ k ∈ ks, k < 256
  val : ∀ n : Nat, valA kvs (.inl (n : Int)) = f n
structure Ab where
  ca : Addr
  bt : Addr
  sp : Addr
  ba : Str → Addr
  sa : Str → Addr
def cosD (b : Book) (c : Str → Int) : List (Key × Val) := b.names.map fun z => (.inr z, .int (c z))
def bestF (b : Book) (hp : Heap') (A : Ab) : List (Str × Val) :=
  [("book", encB b), ("heap", encH hp), ("costs", .ref A.ca), ("names", .lst (b.names.map .str)), ("best", .ref A.bt), ("split", .ref A.sp), ("whole", .int ((2 ^ hp.length : Nat) - 1 : Int)), ("weights", .lst ((List.range (2 ^ hp.length)).map fun n => .int (wt hp n)))]
structure BestAt (G : Gx) (h : Hv) (a : Addr) (b : Book) (hp : Heap') (c : Str → Int) (B : Bst) (S : Spt) (A : Ab) : Prop where
  ins : h a = some (.ins (G.C "Best") (bestF b hp A))
  ca : h A.ca = some (.dK (cosD b c))
  bt : h A.bt = some (.dK (refD b A.ba))
  sp : h A.sp = some (.dK (refD b A.sa))
  ba : ∀ z ∈ b.names, ∃ kvs, h (A.ba z) = some (.dK kvs) ∧ DOf kvs (fun n => (B z n).map encBo)
  sa : ∀ z ∈ b.names, ∃ kvs, h (A.sa z) = some (.dK kvs) ∧ DOf kvs (fun n => (S z n).map encSo)
  nb : ∀ z ∈ b.names, ∀ y ∈ b.names, z ≠ y → A.ba z ≠ A.ba y
  ns : ∀ z ∈ b.names, ∀ y ∈ b.names, z ≠ y → A.sa z ≠ A.sa y
  bs : ∀ z ∈ b.names, ∀ y ∈ b.names, A.ba z ≠ A.sa y
  nbt : ∀ z ∈ b.names, A.ba z ≠ A.ca ∧ A.ba z ≠ A.bt ∧ A.ba z ≠ A.sp
  nst : ∀ z ∈ b.names, A.sa z ≠ A.ca ∧ A.sa z ≠ A.bt ∧ A.sa z ≠ A.sp
def OffB (b : Book) (A : Ab) (h h' : Hv) : Prop := ∀ c, (∀ z ∈ b.names, c ≠ A.ba z ∧ c ≠ A.sa z) → h' c = h c
def SmS (b : Book) (S : Spt) : Prop := ∀ z ∈ b.names, ∀ n k ts, S z n = some (k, ts) → ts.length ≤ 8
structure BPre (G : Gx) (h : Hv) (b : Book) (hp : Heap') : Prop where
  wf : WFB b
  ho : HpOk b hp
  w1 : ∀ x ∈ hp, 1 ≤ x.1
  n1 : 1 ≤ hp.length
  tb : Tbs G.Ts h
  ns : ("Best.__init__" : Str) ∈ G.ns
  nz : ∀ z ∈ b.names, okN 0 (.str z) = true
end DL
namespace DL
open PySem PySem.Spec PyProof.Rows L2
structure EmbM (hp hp' : Heap') (M : Nat) (f : Int → Int) : Prop where
  rg : ∀ i ∈ setI M, 0 ≤ f i ∧ f i < (hp'.length : Int)
  inj : ∀ i ∈ setI M, ∀ j ∈ setI M, f i = f j → i = j
  w : ∀ i ∈ setI M, rawW hp' (f i) = rawW hp i
  l : ∀ i ∈ setI M, rawL hp' (f i) = rawL hp i
section
variable {hp hp' : Heap'} {f : Int → Int} {n p M : Nat}
theorem EmbM.nd (e : EmbM hp hp' M f) (hs : ∀ i ∈ setI n, i ∈ setI M) : ((setI n).map f).Nodup := by
  refine List.pairwise_map.mpr (List.Pairwise.imp_of_mem ?_ (setI_nodup n))
  intro x y hx hy ne he
  exact ne (e.inj x (hs x hx) y (hs y hy) he)
theorem EmbM.mem (e : EmbM hp hp' M f) (hs : ∀ i ∈ setI n, i ∈ setI M) : ∀ i ∈ (setI n).map f, 0 ≤ i ∧ i < (hp'.length : Int) := fun i hi => by
  obtain ⟨j, hj, rfl⟩ := List.mem_map.mp hi
  exact e.rg j (hs j hj)
theorem EmbM.in8 (e : EmbM hp hp' M f) (h8 : hp'.length ≤ 8) (hs : ∀ i ∈ setI n, i ∈ setI M) : In8 ((setI n).map f) := fun i hi => by
  have := e.mem hs i hi
  omega
theorem EmbM.wt (e : EmbM hp hp' M f) (h8 : hp'.length ≤ 8) (hs : ∀ i ∈ setI n, i ∈ setI M) : wt hp' (img f n) = wt hp n := by
  unfold img
  rw [wt_list (e.nd hs) (e.in8 h8 hs), List.map_map]
  unfold DL.wt
  congr 1
  exact List.map_congr_left fun i hi => e.w i (hs i hi)
end
section
variable {hp : Heap'} {n : Nat}
end
section
variable {b : Book}
end
end DL
namespace DL
open PySem PySem.Spec PyProof.Rows L2
end DL
namespace DL
open PySem PySem.Spec PyProof.Rows L2
end DL
namespace DL
open PySem PySem.Spec PyProof.Rows L2
end DL
namespace DL
open PySem PySem.Spec PyProof.Rows L2
end DL
namespace DL
open PySem PySem.Spec PyProof.Rows L2
section
variable {M : Nat} (hM : M < 256)
end
end DL
namespace DL
open PySem PySem.Spec PyProof.Rows L2
end DL
namespace DL
open PySem PySem.Spec PyProof.Rows L2
end DL
namespace DL
open PySem PySem.Spec PyProof.Rows L2
end DL
namespace DL
open PySem PySem.Spec PyProof.Rows L2
structure LS (Ts : List (Addr × Str)) (t r : Addr) (h : Hv) : Prop where
  T : Town t r h
  tb : Tbs Ts h
section
variable {Ts : List (Addr × Str)} {t r : Addr} {h h' : Hv} {p : Addr} {vs ws : List Val}
theorem LS.new (s : LS Ts t r h) (e : h p = none) : LS Ts t r (put h p (.lst vs)) := ⟨s.T.put (s.T.fresh e).1 (s.T.fresh e).2, s.tb.put e (fun _ z => nomatch z)⟩
theorem LS.ne (s : LS Ts t r h) (e : h p = some (.lst ws)) : p ≠ t ∧ p ≠ r := by
  obtain ⟨c, _, e1⟩ := s.T.tc
  obtain ⟨rs, e2, _⟩ := s.T.rc
  exact ⟨fun z => (by rw [z, e1] at e; cases e), fun z => (by rw [z, e2] at e; cases e)⟩
theorem LS.wr (s : LS Ts t r h) (e : h p = some (.lst ws)) : LS Ts t r (put h p (.lst vs)) := ⟨s.T.put (s.ne e).1 (s.ne e).2, s.tb.write e (fun _ z => nomatch z) (fun _ z => nomatch z)⟩
end
end DL
namespace DL
open PySem PySem.Spec PyProof.Rows L2
end DL
namespace DL
open PySem PySem.Spec PyProof.Rows L2
end DL
namespace DL
open PySem PySem.Spec PyProof.Rows L2
structure Kp (t r : Addr) (h0 h : Hv) : Prop where
  s : ∀ a o, a ≠ t → a ≠ r → h0 a = some o → h a = some o
  b : ∀ a, h a = some .busy → h0 a = some .busy
def mixT (t r : Addr) (h0 h : Hv) : Hv := fun a => if a = t ∨ a = r then h a else h0 a
section
variable {t r p : Addr} {h0 h h' : Hv} {vs ws : List Val}
theorem Kp.less (k : Kp t r h0 h) (T : Town t r h) : Lss h (mixT t r h0 h) := ⟨fun a => by
  unfold mixT
  split
  · exact .inr rfl
  · rename_i n
    cases e : h0 a with
    | none => exact .inl rfl
    | some o => exact .inr (k.s a o (fun z => n (.inl z)) (fun z => n (.inr z)) e).symm, fun a e => by
  unfold mixT
  split
  · exact e
  · exact k.b a e⟩
theorem Kp.no (k : Kp t r h0 h) (T : Town t r h) (e : h p = none) : h0 p = none := by
  obtain ⟨n1, n2⟩ := T.fresh e
  cases e0 : h0 p with
  | none => rfl
  | some o => rw [k.s p o n1 n2 e0] at e; cases e
theorem Kp.wr (k : Kp t r h0 h) (e : h0 p = none) : Kp t r h0 (put h p (.lst vs)) := ⟨fun a o n1 n2 ea => by rw [put_ne (fun z => by rw [z, e] at ea; cases ea)]; exact k.s a o n1 n2 ea, fun a ea => by
  by_cases z : a = p
  · subst z; rw [put_same] at ea; cases ea
  · rw [put_ne z] at ea; exact k.b a ea⟩
theorem Kp.refl (h : Hv) : Kp t r h h := ⟨fun _ _ _ _ e => e, fun _ e => e⟩
end
end DL
namespace DL
open PySem PySem.Spec PyProof.Rows L2
end DL
namespace DL
open PySem PySem.Spec PyProof.Rows L2
end DL
namespace DL
open PySem PySem.Spec PyProof.Rows L2
theorem seq_mid {s1 s3 : SD} {ρ : Sl} {h : Hv} {D : AE} {E : PX} (I : Sl → Hv → Prop) (body : ∀ Nx, (∀ ρ h, I ρ h → Nx ρ h) → s1 ρ h { D with nx := Nx } E) (rest : ∀ ρ h, I ρ h → s3 ρ h D E) : sSeq s1 s3 ρ h D E := body _ rest
end DL
namespace DL
open PySem PySem.Spec PyProof.Rows L2
end DL
namespace DL
open PySem PySem.Spec PyProof.Rows L2
end DL
namespace DL
open PySem PySem.Spec PyProof.Rows L2
theorem DOf.len {kvs : List (Key × Val)} {f : Nat → Option Val} (d : DOf kvs f) : kvs.length ≤ 256 := by
  obtain ⟨ks, e, nd, lt⟩ := d.ks
  have := congrArg List.length e
  rw [List.length_map, List.length_map] at this
  rw [this]
  exact nd_len 256 ks nd lt
theorem val_put {kvs : List (Key × Val)} {k k' : Key} {v : Val} : valA (putA kvs k v) k' = if k' = k then some v else valA kvs k' := by
  unfold putA
  split
  · rename_i ha
    induction kvs with
    | nil => cases ha
    | cons x kvs ih =>
      unfold valA at *
      rw [List.map_cons, List.find?_cons, List.find?_cons]
      rw [List.any_cons, Bool.or_eq_true, decide_eq_true_eq] at ha
      by_cases e : x.1 = k
      · rw [if_pos e]
        by_cases e2 : k' = k
        · rw [if_pos e2]
          simp [e, e2]
        · rw [if_neg e2]
          have h1 : decide (x.1 = k') = false := by rw [e]; exact decide_eq_false fun h => e2 h.symm
          simp only [h1]
          by_cases ha2 : (kvs.any fun kv => decide (kv.1 = k)) = true
          · have := ih ha2
            rw [if_neg e2] at this
            exact this
          · have em : kvs.map (fun kv => if kv.1 = k then (kv.1, v) else kv) = kvs := by
              conv => rhs; rw [← List.map_id kvs]
              refine List.map_congr_left fun y hy => ?_
              have : y.1 ≠ k := fun h => ha2 (List.any_eq_true.mpr ⟨y, hy, decide_eq_true h⟩)
              rw [if_neg this]; rfl
            rw [em]
      · rw [if_neg e]
        have ha2 := ha.resolve_left e
        by_cases e3 : x.1 = k'
        · have : k' ≠ k := fun h => e (e3.trans h)
          rw [if_neg this]
          simp [e3]
        · have h1 : decide (x.1 = k') = false := decide_eq_false e3
          simp only [h1]
          exact ih ha2
  · rename_i ha
    unfold valA
    rw [List.find?_append]
    by_cases e : k' = k
    · subst e
      rw [if_pos rfl]
      have : kvs.find? (fun kv => decide (kv.1 = k')) = none := by
        rw [List.find?_eq_none]
        intro x hx h
        exact ha (List.any_eq_true.mpr ⟨x, hx, h⟩)
      rw [this]
      simp
    · rw [if_neg e]
      cases hf : kvs.find? (fun kv => decide (kv.1 = k')) with
      | some x => simp
      | none =>
        have : decide (k = k') = false := decide_eq_false fun h => e h.symm
        simp [this]
theorem DOf.put {kvs : List (Key × Val)} {f : Nat → Option Val} (d : DOf kvs f) {m : Nat} (hm : m < 256) (v : Val) : DOf (putA kvs (.inl (m : Int)) v) (fun n => if n = m then some v else f n) := by
  refine ⟨?_, fun n => ?_⟩
  · obtain ⟨ks, e, nd, lt⟩ := d.ks
    unfold putA
    split
    · refine ⟨ks, ?_, nd, lt⟩
      rw [List.map_map, ← e]
      refine List.map_congr_left fun kv _ => ?_
      show (if kv.1 = _ then (kv.1, _) else kv).1 = kv.1
      split <;> rfl
    · rename_i hn
      refine ⟨ks ++ [m], by rw [List.map_append, List.map_append, e]; rfl, ?_, ?_⟩
      · rw [List.nodup_append]
        refine ⟨nd, by simp, ?_⟩
        intro a ha b hb hab
        rw [List.mem_singleton] at hb
        subst hb; subst hab
        apply hn
        have : (Sum.inl (a : Int) : Key) ∈ kvs.map (·.1) := by rw [e]; exact List.mem_map.mpr ⟨a, ha, rfl⟩
        obtain ⟨kv, hkv, ek⟩ := List.mem_map.mp this
        exact List.any_eq_true.mpr ⟨kv, hkv, by rw [ek]; simp⟩
      · intro k hk
        rcases List.mem_append.mp hk with h | h
        · exact lt k h
        · rw [List.mem_singleton] at h; omega
  · rw [val_put, d.val n]
    by_cases e : n = m
    · subst e; rw [if_pos rfl, if_pos rfl]
    · rw [if_neg e, if_neg (fun h => e (by have := Sum.inl.inj h; omega))]
theorem DOf.nil : DOf [] (fun _ => none) := ⟨⟨[], rfl, List.nodup_nil, fun _ h => nomatch h⟩, fun _ => rfl⟩
theorem DOf.congr {kvs : List (Key × Val)} {f g : Nat → Option Val} (d : DOf kvs f) (h : ∀ n, f n = g n) : DOf kvs g := ⟨d.ks, fun n => (d.val n).trans (h n)⟩
section
variable {G : Gx} {h : Hv} {a : Addr} {b : Book} {hp : Heap'} {c : Str → Int} {B : Bst} {S : Spt} {A : Ab}
theorem BestAt.ne (t : BestAt G h a b hp c B S A) {z : Str} (hz : z ∈ b.names) : a ≠ A.sa z ∧ a ≠ A.ba z := by
  obtain ⟨k1, e1, _⟩ := t.ba z hz
  obtain ⟨k2, e2, _⟩ := t.sa z hz
  exact ⟨fun e => (by have h1 := t.ins; rw [e, e2] at h1; cases h1), fun e => (by have h1 := t.ins; rw [e, e1] at h1; cases h1)⟩
theorem OffB.refl (h : Hv) : OffB b A h h := fun _ _ => rfl
theorem OffB.trans {h1 h2 : Hv} (x : OffB b A h h1) (y : OffB b A h1 h2) : OffB b A h h2 := fun c hc => (y c hc).trans (x c hc)
variable {E : PX} {Q : PV} {ρ : Sl} {i : Nat}
variable {ds dz dn : ED}
end
end DL
namespace DL
open PySem PySem.Spec PyProof.Rows L2
theorem ss_asg {ρ ρ' : Sl} {h : Hv} {E : PX} {D : AE} {de : ED} {v : Val} {t : Tg} {s2 : SD} (hv : EvE ρ h E de v) (e : bT t v ρ = some ρ') (q : s2 ρ' h D E) : sSeq (sAsg t de) s2 ρ h D E := hv _ (by
  show match bT t v ρ with | some ρ' => s2 ρ' h D E | none => False
  rw [e]; exact q)
theorem s_next {ρ : Sl} {h : Hv} {D : AE} {E : PX} (q : D.nx ρ h) : sNext ρ h D E := q
structure PartX (b : Book) (B : Bst) (S : Spt) (z : Str) (m : Nat) (X : Nat → Str → Prop) (r : Option (Int × List Tree)) : Prop where
  so : ∀ k ts, r = some (k, ts) → ∃ p y k1 t k2 ts2, Cand b B S z m p y k1 t k2 ts2 ∧ k = k1 + k2 ∧ ts = t :: ts2
  co : ∀ p y k1 t k2 ts2, X p y → Cand b B S z m p y k1 t k2 ts2 → ∃ k ts, r = some (k, ts) ∧ k ≤ k1 + k2
theorem Cand.uniq {b : Book} {B : Bst} {S : Spt} {z : Str} {m p : Nat} {y : Str} {k1 k1' : Int} {t t' : Tree} {k2 k2' : Int} {ts ts' : List Tree} (c : Cand b B S z m p y k1 t k2 ts) (c' : Cand b B S z m p y k1' t' k2' ts') : k1 = k1' ∧ k2 = k2' := by
  have h1 := c.cb
  rw [c'.cb] at h1
  cases h1
  refine ⟨rfl, ?_⟩
  rcases c.cs with ⟨r0, rfl, _⟩ | ⟨r0, hs⟩
  · rcases c'.cs with ⟨_, rfl, _⟩ | ⟨r1, _⟩
    · rfl
    · exact absurd r0 r1
  · rcases c'.cs with ⟨r1, _⟩ | ⟨_, hs'⟩
    · exact absurd r1 r0
    · rw [hs] at hs'; cases hs'; rfl
theorem PartX.new {b : Book} {B : Bst} {S : Spt} {z : Str} {m : Nat} {X : Nat → Str → Prop} {r : Option (Int × List Tree)} (x : PartX b B S z m X r) {p : Nat} {y : Str} {k1 : Int} {t : Tree} {k2 : Int} {ts : List Tree} (c : Cand b B S z m p y k1 t k2 ts) (h : ∀ k us, r = some (k, us) → k1 + k2 < k) : PartX b B S z m (fun q w => X q w ∨ (q = p ∧ w = y)) (some (k1 + k2, t :: ts)) := by
  refine ⟨fun k us e => ?_, fun q w k3 t3 k4 ts4 hx c3 => ?_⟩
  · cases e
    exact ⟨p, y, k1, t, k2, ts, c, rfl, rfl⟩
  · refine ⟨_, _, rfl, ?_⟩
    rcases hx with hx | ⟨rfl, rfl⟩
    · obtain ⟨k, us, e, hk⟩ := x.co q w k3 t3 k4 ts4 hx c3
      have := h k us e
      omega
    · obtain ⟨e1, e2⟩ := c.uniq c3
      omega
end DL
namespace DL
open PySem PySem.Spec PyProof.Rows L2
end DL
namespace DL
open PySem PySem.Spec PyProof.Rows L2
theorem okTs_len {names : List Str} : ∀ ts : List Tree, okTs names ts → ts.length ≤ (thingsTs ts).length
  | [], _ => by simp
  | t :: ts, h => by
    rw [okTs] at h
    have h1 := okTs_len ts h.2
    have h2 := List.length_pos_iff.mpr (things_ne t h.1)
    rw [thingsTs, List.length_append, List.length_cons]
    omega
theorem GS.len {b : Book} {hp : Heap'} {z : Str} {n : Nat} {ts : List Tree} (g : GS b hp z n ts) : ts.length ≤ 8 := by
  have := okTs_len ts g.ok
  rw [g.th.length_eq] at this
  have := setI_len n
  omega
theorem BMid.small {b : Book} {hp : Heap'} {c : Str → Int} {D : Nat → Prop} {m : Nat} {B : Bst} {S : Spt} (i : BMid b hp c D m B S) : SmS b S := by
  intro z hz n k ts h
  by_cases d : D n
  · exact ((i.lo z hz n d).2.1 k ts h).1.len
  · by_cases e : n = m
    · subst e; exact (i.sm z hz k ts h).1.len
    · rw [(i.nx z hz n d e).2] at h; cases h
section
variable {G : Gx} {a : Addr} {b : Book} {hp : Heap'} {c : Str → Int} {D : Nat → Prop} {B : Bst} {S : Spt} {A : Ab} {m : Nat}
end
end DL
namespace DL
open PySem PySem.Spec PyProof.Rows L2
end DL
namespace DL
open PySem PySem.Spec PyProof.Rows L2
section
variable {ρ : Sl} {h : Hv} {E : PX} {Q : PV} {aa : AD} {vs : List Val} {da : ED} {v : Val}
theorem x_cons {QA : List Val → Hv → Prop} (ha : EvE ρ h E da v) (q : aa ρ h (fun vs h' => QA (v :: vs) h') E) : aCons da aa ρ h QA E := ha _ q
end
theorem BPre.whole {G : Gx} {h : Hv} {b : Book} {hp : Heap'} (p : BPre G h b hp) : 2 ^ hp.length - 1 ≠ 0 ∧ inH hp (2 ^ hp.length - 1) := by
  have : 2 ≤ 2 ^ hp.length := by
    have := Nat.pow_le_pow_right (n := 2) (by decide) p.n1
    simpa using this
  unfold inH
  omega
theorem BPre.new {G : Gx} {h : Hv} {b : Book} {hp : Heap'} (p : BPre G h b hp) {D : Addr} {kvs : List (Key × Val)} (n : h D = none) : BPre G (put h D (.dK kvs)) b hp :=
  ⟨p.wf, p.ho, p.w1, p.n1, p.tb.put n (fun _ z => nomatch z), p.ns, p.nz⟩
end DL
namespace DL
open PySem PySem.Spec PyProof.Rows L2
section
variable {ρ : Sl} {h : Hv} {E : PX} {D : AE} {s1 s2 : SD} {ta tb : TD} {da : ED} {aa : AD} {QT : Bool → Hv → Prop} {Q : PV}
theorem x_if (q : ta ρ h (fun k h1 => if k = true then s1 ρ h1 D E else s2 ρ h1 D E) E) : sIf ta s1 s2 ρ h D E := q
end
structure TO (b : Book) (hp : Heap') (z : Str) (r : Option (Int × Tree)) : Prop where
  n : r.isNone = !dec (Can b hp z (2 ^ hp.length - 1))
  s : ∀ k t, r = some (k, t) → GT b hp z (2 ^ hp.length - 1) t ∧ t.ht < 24 ∧ okN 60 t.enc = true ∧ t.things.length ≤ 8
end DL
namespace DL
open PySem PySem.Spec PyProof.Rows L2
section
variable {prog : Program} {w : World} {A : Around} {E : Value → Shared → Prop} {s : Shared}
end
end DL
namespace DL
open PySem PySem.Spec PyProof.Rows L2
section
variable {prog : Program} {w : World} {A : Around} {E : Value → Shared → Prop} {s : Shared}
variable {z TI TO i1 i2 l1 l2 : Addr} {k1 k2 : Nat} {xs ys : Array Value} {x y a b : Value}
end
end DL
namespace DL
open PySem PySem.Spec PyProof.Rows L2
section
variable {M : Model} {A : Around} {E : Value → Shared → Prop} {s : Shared} {env : Env}
end
@[simp] def dZipS (aa : AD) : ID := fun ρ h Q E => aa ρ h (fun vs h1 => match vs with
  | [.tup xs, .tup ys] => xs.length = ys.length ∧ Q ⟨(xs.zip ys).map fun p => Val.tup [p.1, p.2], fun _ => True⟩ h1
  | _ => False) E
section
variable {X : Cx} {B : Bs} {e e2 : Expr} {aa : AD} {p pos kp cp : Pos} {kc : Nat}
end
end DL
namespace DL
open PySem PySem.Spec PyProof.Rows L2
def inNm (b : Book) : Option Str → Bool
  | none => true
  | some z => decide (z ∈ b.names)
def S_is_none_or_land : SpF := fun as h Q _ => ∃ (b : Book) (o : Option Str), as = [encB b, encO o] ∧ b.lands.length ≤ 4 ∧ Q (.bl (inNm b o)) h
end DL
namespace DL
open PySem PySem.Spec PyProof.Rows L2
inductive Th where
  | raw (w : Int) (l : Option Str)
  | made (z : Str) (xs : List Int)
def encTh : Th → Val
  | .raw w l => .tup [.int w, encO l]
  | .made z xs => .tup [.str z, .lst (xs.map .int)]
structure St where
  things : List Th
  lying : List Int
  gone : List (Int × Str)
def trY (ts : List Th) : Nat → Int → Tree
  | 0, n => .leaf n
  | k + 1, n => match ts[n.toNat]? with
    | some (.made z xs) => .node z (xs.map (trY ts k))
    | _ => .leaf n
def treeY (ts : List Th) (n : Int) : Tree := trY ts (n.toNat + 1) n
def hpY (ts : List Th) : Heap' := ts.map fun t => match t with
  | .raw w l => (w, l)
  | .made _ _ => (0, none)
structure WFT (b : Book) (ts : List Th) : Prop where
  n : ts.length ≤ 200
  raw : ∀ (i : Nat) w l, ts[i]? = some (.raw w l) → 1 ≤ w ∧ w ≤ 9999 ∧ ∀ z, l = some z → z ∈ b.names
  made : ∀ (i : Nat) z xs, ts[i]? = some (.made z xs) → z ∈ b.names ∧ xs ≠ [] ∧ xs.length ≤ 200 ∧ ∀ x ∈ xs, 0 ≤ x ∧ x < (i : Int)
structure WFY (b : Book) (s : St) : Prop where
  t : WFT b s.things
  ln : s.lying.Nodup
  lr : ∀ x ∈ s.lying, 0 ≤ x ∧ x < (s.things.length : Int)
  ll : s.lying.length ≤ 200
  gl : s.gone.length ≤ 200
  gr : ∀ p ∈ s.gone, 0 ≤ p.1 ∧ p.1 < (s.things.length : Int)
def encG (p : Int × Str) : Val := .tup [.int p.1, .str p.2]
def stF (s : St) : List (Str × Val) := [("things", .lst (s.things.map encTh)), ("lying", .lst (s.lying.map .int)), ("gone", .lst (s.gone.map encG))]
def StAt (G : Gx) (h : Hv) (a : Addr) (s : St) : Prop := h a = some (.ins (G.C "State") (stF s))
structure Ay where
  st : Addr
  dn : Addr
  un : Addr
def encDd (p : Val × Addr) : Val := .tup [p.1, .ref p.2]
def ydF (b : Book) (A : Ay) : List (Str × Val) := [("book", encB b), ("state", .ref A.st), ("done", .ref A.dn), ("undone", .ref A.un)]
structure YdAt (G : Gx) (h : Hv) (a : Addr) (b : Book) (s : St) (A : Ay) (ds us : List (Val × Addr)) : Prop where
  ins : h a = some (.ins (G.C "Yard") (ydF b A))
  st : StAt G h A.st s
  dn : h A.dn = some (.lst (ds.map encDd))
  un : h A.un = some (.lst (us.map encDd))
  ne : A.dn ≠ A.un
structure YFr (a : Addr) (A : Ay) (h h' : Hv) : Prop where
  o : ∀ c, c ≠ a → c ≠ A.dn → h c = none ∨ h' c = h c
  b : ∀ c o, (∀ C fs, o ≠ .ins C fs) → (∀ vs, o ≠ .lst vs) → h' c = some o → h c = some o
structure Nw (h' h : Hv) : Prop where
  o : ∀ c, h c = none ∨ h' c = h c
  b : ∀ c o, (∀ C fs, o ≠ .ins C fs) → (∀ vs, o ≠ .lst vs) → h' c = some o → h c = some o
section
variable (G : Gx)
def S_State___init__ : SpF := fun as h Q _ => ∃ (a : Addr) (h0 : Hv) (x y z : Val), as = [.ref a, x, y, z] ∧ h = put h0 a (.ins (G.C "State") []) ∧ Q .non (put h0 a (.ins (G.C "State") [("things", x), ("lying", y), ("gone", z)]))
def SR_State_worth (d : Nat) : SpF := fun as h Q _ => ∃ (a : Addr) (b : Book) (s : St) (n : Int), as = [.ref a, .int n] ∧ StAt G h a s ∧ WFT b s.things ∧ 0 ≤ n ∧ n < (s.things.length : Int) ∧ (treeY s.things n).ht < d ∧ Q (.int ((treeY s.things n).whole (hpY s.things))) h
def S_State_worth : SpF := SR_State_worth G 40
def SR_State_counted (d : Nat) : SpF := fun as h Q _ => ∃ (a : Addr) (b : Book) (s : St) (n : Int), as = [.ref a, encB b, .int n] ∧ StAt G h a s ∧ WFB b ∧ WFT b s.things ∧ 0 ≤ n ∧ n < (s.things.length : Int) ∧ (treeY s.things n).ht < d ∧ d ≤ 40 ∧ Q (encO ((treeY s.things n).land b (hpY s.things))) h
def S_State_counted : SpF := SR_State_counted G 40
def SR_State_tree (d : Nat) : SpF := fun as h Q _ => ∃ (a : Addr) (b : Book) (s : St) (n : Int), as = [.ref a, .int n] ∧ StAt G h a s ∧ WFT b s.things ∧ 0 ≤ n ∧ n < (s.things.length : Int) ∧ (treeY s.things n).ht < d ∧ Q (treeY s.things n).enc h
def S_State_tree : SpF := SR_State_tree G 40
def holdsY (ts : List Th) (t : Int) : Nat → Int → Bool
  | 0, _ => false
  | k + 1, n => match ts[n.toNat]? with
    | some (.made _ xs) => xs.any fun x => decide (x = t) || holdsY ts t k x
    | _ => false
def SR_State_holds (d : Nat) : SpF := fun as h Q _ => ∃ (a : Addr) (b : Book) (s : St) (n t : Int), as = [.ref a, .int n, .int t] ∧ StAt G h a s ∧ WFT b s.things ∧ 0 ≤ n ∧ n < (s.things.length : Int) ∧ (treeY s.things n).ht < d ∧ Q (.bl (holdsY s.things t (n.toNat + 1) n)) h
def S_State_holds : SpF := SR_State_holds G 40
def S_Yard___init__ : SpF := fun as h Q E => ∃ (a : Addr) (h0 : Hv) (v : Val), as = [.ref a, v] ∧ h0 a = none ∧ h = put h0 a (.ins (G.C "Yard") []) ∧
  ((∃ b, v = encB b ∧ isBook v = true ∧ okD v = true ∧ ∀ h' A, YdAt G h' a b ⟨[], [], []⟩ A [] [] → Nw h' h0 → h0 A.dn = none → h0 A.un = none → Q .non h') ∨ (okD v = true ∧ isBook v = false ∧ E "BadBook" none (put h0 a (.ins (G.C "Yard") []))))
def S_Yard_become : SpF := fun as h Q _ => ∃ (a : Addr) (b : Book) (s s' : St) (A : Ay) (ds us : List (Val × Addr)) (d : Val), as = [.ref a, d, .lst (s'.things.map encTh), .lst (s'.lying.map .int), .lst (s'.gone.map encG)] ∧ YdAt G h a b s A ds us ∧ ds.length ≤ 1000 ∧
  ∀ h' st un, YdAt G h' a b s' ⟨st, A.dn, un⟩ (ds ++ [(d, A.st)]) [] → YFr a A h h' → h un = none → Q .non h'
def wRef (b : Book) (w : Int) (l : Option Str) : Option Str := if ¬(1 ≤ w ∧ w ≤ 9999) then some "NoWorth" else if inNm b l = true then none else some "NoLand"
def S_Yard_look_worth : SpF := fun as h Q E => ∃ (a : Addr) (b : Book) (A : Ay) (w : Int) (l : Option Str), as = [.ref a, .int w, encO l] ∧ h a = some (.ins (G.C "Yard") (ydF b A)) ∧ b.lands.length ≤ 4 ∧ ((wRef b w l = none ∧ Q .non h) ∨ ∃ e, wRef b w l = some e ∧ E e none h)
def S_Yard_look_thing : SpF := fun as h Q E => ∃ (a : Addr) (b : Book) (s : St) (A : Ay) (n : Int), as = [.ref a, .int n] ∧ h a = some (.ins (G.C "Yard") (ydF b A)) ∧ StAt G h A.st s ∧ s.things.length ≤ 200 ∧ ((0 ≤ n ∧ n < (s.things.length : Int) ∧ Q .non h) ∨ (¬(0 ≤ n ∧ n < (s.things.length : Int)) ∧ E "NoThing" none h))
def St.take (s : St) (w : Int) (l : Option Str) : St := ⟨s.things ++ [.raw w l], s.lying ++ [(s.things.length : Int)], s.gone⟩
def St.mk' (s : St) (z : Str) (xs : List Int) : St := ⟨s.things ++ [.made z xs], (s.lying.filter fun x => decide (x ∉ xs)) ++ [(s.things.length : Int)], s.gone⟩
def St.snd (s : St) (n : Int) (z : Str) : St := ⟨s.things, s.lying.filter fun x => decide (x ≠ n), s.gone ++ [(n, z)]⟩
def St.fnd (s : St) (n : Int) (w : Int) (l : Option Str) : St := ⟨s.things.set n.toNat (.raw w l), s.lying, s.gone⟩
def S_Yard_take_in : SpF := fun as h Q E => ∃ (a : Addr) (b : Book) (s : St) (A : Ay) (ds us : List (Val × Addr)) (w : Int) (l : Option Str), as = [.ref a, .int w, encO l] ∧ YdAt G h a b s A ds us ∧ WFY b s ∧ b.lands.length ≤ 4 ∧ ds.length ≤ 1000 ∧
  ((wRef b w l = none ∧ ∀ h' st un, YdAt G h' a b (s.take w l) ⟨st, A.dn, un⟩ (ds ++ [(.tup [.str "take_in", .tup [.int w, encO l]], A.st)]) [] → YFr a A h h' → h un = none → Q (.int (s.things.length : Int)) h') ∨ ∃ e, wRef b w l = some e ∧ E e none h)
def mRef (b : Book) (s : St) (z : Str) (xs : List Int) : Option Str := if z ∉ b.names then some "NoLand" else if xs = [] ∨ (∃ x ∈ xs, x ∉ s.lying) ∨ ¬xs.Nodup then some "NoThing" else none
def S_Yard_make : SpF := fun as h Q E => ∃ (a : Addr) (b : Book) (s : St) (A : Ay) (ds us : List (Val × Addr)) (z : Str) (xs : List Int), as = [.ref a, .str z, .tup (xs.map .int)] ∧ YdAt G h a b s A ds us ∧ WFY b s ∧ b.lands.length ≤ 4 ∧ ds.length ≤ 1000 ∧ xs.length ≤ 200 ∧
  ((mRef b s z xs = none ∧ ∀ h' st un, YdAt G h' a b (s.mk' z xs) ⟨st, A.dn, un⟩ (ds ++ [(.tup [.str "make", .tup [.str z, .tup (xs.map .int)]], A.st)]) [] → YFr a A h h' → h un = none → Q (.int (s.things.length : Int)) h') ∨ ∃ e, mRef b s z xs = some e ∧ E e none h)
def S_Yard_send : SpF := fun as h Q E => ∃ (a : Addr) (b : Book) (s : St) (A : Ay) (ds us : List (Val × Addr)) (n : Int) (z : Str), as = [.ref a, .int n, .str z] ∧ YdAt G h a b s A ds us ∧ WFB b ∧ WFY b s ∧ ds.length ≤ 1000 ∧ (n ∈ s.lying → (treeY s.things n).ht < 40) ∧
  ((n ∈ s.lying ∧ z ∈ b.names ∧ (treeY s.things n).land b (hpY s.things) = some z ∧ ∀ h' st un, YdAt G h' a b (s.snd n z) ⟨st, A.dn, un⟩ (ds ++ [(.tup [.str "send", .tup [.int n, .str z]], A.st)]) [] → YFr a A h h' → h un = none → Q .non h') ∨
   (n ∉ s.lying ∧ E "NoThing" none h) ∨ (n ∈ s.lying ∧ z ∉ b.names ∧ E "NoLand" none h) ∨ (n ∈ s.lying ∧ z ∈ b.names ∧ (treeY s.things n).land b (hpY s.things) ≠ some z ∧ E "NotOf" (some (encO ((treeY s.things n).land b (hpY s.things)))) h))
def S_Yard_here : SpF := fun as h Q _ => ∃ (a : Addr) (b : Book) (s : St) (A : Ay) (ds us : List (Val × Addr)), as = [.ref a] ∧ YdAt G h a b s A ds us ∧ s.lying.length ≤ 200 ∧ Q (.tup (s.lying.map .int)) h
def S_Yard_tree : SpF := fun as h Q E => ∃ (a : Addr) (b : Book) (s : St) (A : Ay) (ds us : List (Val × Addr)) (n : Int), as = [.ref a, .int n] ∧ YdAt G h a b s A ds us ∧ WFY b s ∧ (treeY s.things n).ht < 40 ∧ ((0 ≤ n ∧ n < (s.things.length : Int) ∧ Q (treeY s.things n).enc h) ∨ (¬(0 ≤ n ∧ n < (s.things.length : Int)) ∧ E "NoThing" none h))
def S_Yard_worth : SpF := fun as h Q E => ∃ (a : Addr) (b : Book) (s : St) (A : Ay) (ds us : List (Val × Addr)) (n : Int), as = [.ref a, .int n] ∧ YdAt G h a b s A ds us ∧ WFY b s ∧ (treeY s.things n).ht < 40 ∧ ((0 ≤ n ∧ n < (s.things.length : Int) ∧ Q (.int ((treeY s.things n).whole (hpY s.things))) h) ∨ (¬(0 ≤ n ∧ n < (s.things.length : Int)) ∧ E "NoThing" none h))
def S_Yard_counts : SpF := fun as h Q E => ∃ (a : Addr) (b : Book) (s : St) (A : Ay) (ds us : List (Val × Addr)) (n : Int), as = [.ref a, .int n] ∧ YdAt G h a b s A ds us ∧ WFB b ∧ WFY b s ∧ (treeY s.things n).ht < 40 ∧ ((0 ≤ n ∧ n < (s.things.length : Int) ∧ Q (encO ((treeY s.things n).land b (hpY s.things))) h) ∨ (¬(0 ≤ n ∧ n < (s.things.length : Int)) ∧ E "NoThing" none h))
def falseY (b : Book) (s : St) : List Int := sortI ((s.gone.filter fun p => decide ((treeY s.things p.1).land b (hpY s.things) ≠ some p.2)).map (·.1))
def S_Yard_false_ones : SpF := fun as h Q _ => ∃ (a : Addr) (b : Book) (s : St) (A : Ay) (ds us : List (Val × Addr)), as = [.ref a] ∧ YdAt G h a b s A ds us ∧ WFB b ∧ WFY b s ∧ (∀ p ∈ s.gone, (treeY s.things p.1).ht < 40) ∧ Q (.tup ((falseY b s).map .int)) h
def S_Yard_deeds : SpF := fun as h Q _ => ∃ (a : Addr) (b : Book) (s : St) (A : Ay) (ds us : List (Val × Addr)), as = [.ref a] ∧ YdAt G h a b s A ds us ∧ ds.length ≤ 1000 ∧ Q (.tup (ds.map (·.1))) h
theorem no_State_worth : ∀ as h Q E, SR_State_worth G 0 as h Q E → False := fun _ _ _ _ ⟨_, _, _, _, _, _, _, _, _, z, _⟩ => Nat.not_lt_zero _ z
theorem no_State_counted : ∀ as h Q E, SR_State_counted G 0 as h Q E → False := fun _ _ _ _ ⟨_, _, _, _, _, _, _, _, _, _, z, _⟩ => Nat.not_lt_zero _ z
theorem no_State_tree : ∀ as h Q E, SR_State_tree G 0 as h Q E → False := fun _ _ _ _ ⟨_, _, _, _, _, _, _, _, _, z, _⟩ => Nat.not_lt_zero _ z
theorem no_State_holds : ∀ as h Q E, SR_State_holds G 0 as h Q E → False := fun _ _ _ _ ⟨_, _, _, _, _, _, _, _, _, _, z, _⟩ => Nat.not_lt_zero _ z
end
end DL
namespace DL
open PySem PySem.Spec PyProof.Rows L2
def holdY (ts : List Th) (t n : Int) : Bool := holdsY ts t (n.toNat + 1) n
def isMade (ts : List Th) (n : Int) : Bool := match ts[n.toNat]? with
  | some (.made _ _) => true
  | _ => false
def fRef (b : Book) (s : St) (n w : Int) (l : Option Str) : Option Str := if ¬(0 ≤ n ∧ n < (s.things.length : Int)) ∨ isMade s.things n = true then some "NoThing" else wRef b w l
section
variable (G : Gx)
def S_Yard_find : SpF := fun as h Q E => ∃ (a : Addr) (b : Book) (s : St) (A : Ay) (ds us : List (Val × Addr)) (n w : Int) (l : Option Str), as = [.ref a, .int n, .int w, encO l] ∧ YdAt G h a b s A ds us ∧ WFY b s ∧ b.lands.length ≤ 4 ∧ ds.length ≤ 1000 ∧
  ((fRef b s n w l = none ∧ ∀ h' st un, YdAt G h' a b (s.fnd n w l) ⟨st, A.dn, un⟩ (ds ++ [(.tup [.str "find", .tup [.int n, .int w, encO l]], A.st)]) [] → YFr a A h h' → h un = none → Q .non h') ∨ ∃ e, fRef b s n w l = some e ∧ E e none h)
def S_Yard_sent : SpF := fun as h Q _ => ∃ (a : Addr) (b : Book) (s : St) (A : Ay) (ds us : List (Val × Addr)), as = [.ref a] ∧ YdAt G h a b s A ds us ∧ Q (.tup (s.gone.map encG)) h
def S_Yard___len__ : SpF := fun as h Q _ => ∃ (a : Addr) (b : Book) (s : St) (A : Ay) (ds us : List (Val × Addr)), as = [.ref a] ∧ YdAt G h a b s A ds us ∧ Q (.int (s.lying.length : Int)) h
def S_Yard_holders : SpF := fun as h Q E => ∃ (a : Addr) (b : Book) (s : St) (A : Ay) (ds us : List (Val × Addr)) (n : Int), as = [.ref a, .int n] ∧ YdAt G h a b s A ds us ∧ WFY b s ∧ (∀ i : Nat, i < s.things.length → (treeY s.things i).ht < 40) ∧
  ((0 ≤ n ∧ n < (s.things.length : Int) ∧ Q (.tup ((((List.range s.things.length).map fun (i : Nat) => (i : Int)).filter fun i => holdY s.things n i).map .int)) h) ∨ (¬(0 ≤ n ∧ n < (s.things.length : Int)) ∧ E "NoThing" none h))
def isNew (v : Val) : Bool := match v with
  | .tup [.str w, _] => decide (w = "take_in") || decide (w = "make")
  | _ => false
end
end DL
namespace DL
open PySem PySem.Spec PyProof.Rows L2
inductive Deed where
  | take (w : Int) (l : Option Str)
  | make (z : Str) (xs : List Int)
  | send (n : Int) (z : Str)
  | find (n w : Int) (l : Option Str)
def Deed.word : Deed → Str
  | .take _ _ => "take_in"
  | .make _ _ => "make"
  | .send _ _ => "send"
  | .find _ _ _ => "find"
def Deed.args : Deed → Val
  | .take w l => .tup [.int w, encO l]
  | .make z xs => .tup [.str z, .tup (xs.map .int)]
  | .send n z => .tup [.int n, .str z]
  | .find n w l => .tup [.int n, .int w, encO l]
def Deed.enc (d : Deed) : Val := .tup [.str d.word, d.args]
def sRef (b : Book) (s : St) (n : Int) (z : Str) : Option (Str × Option Val) :=
  if n ∉ s.lying then some ("NoThing", none) else if z ∉ b.names then some ("NoLand", none) else if (treeY s.things n).land b (hpY s.things) = some z then none else some ("NotOf", some (encO ((treeY s.things n).land b (hpY s.things))))
def Deed.ref (b : Book) (s : St) : Deed → Option (Str × Option Val)
  | .take w l => (wRef b w l).map fun e => (e, none)
  | .make z xs => (mRef b s z xs).map fun e => (e, none)
  | .send n z => sRef b s n z
  | .find n w l => (fRef b s n w l).map fun e => (e, none)
def Deed.does (s : St) : Deed → St
  | .take w l => s.take w l
  | .make z xs => s.mk' z xs
  | .send n z => s.snd n z
  | .find n w l => s.fnd n w l
def Deed.ret (s : St) : Deed → Val
  | .take _ _ => .int (s.things.length : Int)
  | .make _ _ => .int (s.things.length : Int)
  | .send _ _ => .non
  | .find _ _ _ => .non
def Deed.ok : Deed → Prop
  | .take w _ => 0 ≤ w ∧ w ≤ 10000
  | .make _ xs => xs.length ≤ 8 ∧ ∀ x ∈ xs, 0 ≤ x
  | .send n _ => 0 ≤ n
  | .find n w _ => 0 ≤ n ∧ 0 ≤ w ∧ w ≤ 10000
def Deed.lands : Deed → List Str
  | .take _ l => l.toList
  | .make z _ => [z]
  | .send _ z => [z]
  | .find _ _ l => l.toList
def S__law_call (G : Gx) : SpF := fun as h Q E => ∃ (a : Addr) (b : Book) (s : St) (A : Ay) (ds us : List (Val × Addr)) (d : Deed), as = [.ref a, .str d.word, d.args] ∧ YdAt G h a b s A ds us ∧ WFB b ∧ WFY b s ∧ ds.length ≤ 1000 ∧ d.ok ∧ (∀ n ∈ s.lying, (treeY s.things n).ht < 40) ∧
  ((d.ref b s = none ∧ ∀ h' st un, YdAt G h' a b (d.does s) ⟨st, A.dn, un⟩ (ds ++ [(d.enc, A.st)]) [] → YFr a A h h' → h un = none → Q (d.ret s) h') ∨ ∃ e pl, d.ref b s = some (e, pl) ∧ E e pl h)
def S__law_a_deed : SpF := fun as h Q _ => ∃ (ns : List Int) (t r p : Addr) (b : Book) (kvs : List (Key × Val)) (vs : List Val) (here : List Int), as = [.scr ns, .ref t, encB b, .ref p] ∧ ns.length ≤ 63 ∧ Town t r h ∧ Drawn b ∧ h p = some (.dK kvs) ∧ valA kvs (.inr "things") = some (.lst vs) ∧ valA kvs (.inr "here") = some (.lst (here.map .int)) ∧ vs.length ≤ 200 ∧ here.length ≤ 200 ∧ (∀ x ∈ here, 0 ≤ x) ∧ p ≠ t ∧ p ≠ r ∧
  ∀ (d : Deed) h', d.ok → (∀ z ∈ d.lands, z ∈ b.names ∨ z = "zz") → Town t r h' → Only t r h h' → Q d.enc h'
end DL
namespace DL
open PySem PySem.Spec PyProof.Rows L2
def spNo (K : PySem.W.Frag) : Sp := fun vs H Q E => ∃ (a C : Addr) (y : V), vs = [.ref a, y] ∧ OexC K C ∧ PySem.W.findIn K (.ref C) "land" = some none ∧ H a = some (exo a C none) ∧ ∀ dx, H dx = none → dx ≠ a → Q .non (upd (upd H dx (exd dx [("land", y)])) a (exo a C (some dx)))
theorem ok_no {P : Program} {w : World} {K : PySem.W.Frag} {mg : Str → Option Value} {base : Heap} {x qual : Str} {st : Stmt} {f : Addr} {fd : FuncData} {p p1 p2 p3 : Pos} (F : Fun K x qual st f fd) (S : FnScope ["self", "land"] ["self", "land"] (defScope st))
    (hb : defBody st = [.Assign [.Attribute (.Name "self" p1) "land" p2] (.Name "land" p3) p]) (hs : ∀ X : Cx, swapsWith (.Name "land" p3) (some (.Attribute (.Name "self" p1) "land" p2)) p.line X.env = pure false := by intro X; rfl) : FnOk P w K mg base (L2.CX P w) 1 f fd ["self", "land"] (spNo K) := by
  refine F.okX S (fun vs H Q E ⟨_, _, _, e, _⟩ => by rw [e]; rfl) fun cdv A outer s H vs Q E hr h => ?_
  rw [hb]
  obtain ⟨a, C, y, rfl, T, hno, ha, q⟩ := h
  have vis : ∀ x ∈ (["self", "land"] : List Str), Vis (defScope st) x := fun x hx => (S.par x hx).elim Or.inl fun h => Or.inr (Or.inl h)
  refine ⟨_, pss_one (ps_ost (pe_var (i := 0) rfl (vis _ (by decide +kernel))) (pe_var (i := 1) rfl (vis _ (by decide +kernel))) (hs _)), ?_⟩
  exact ⟨y, rfl, .ref a, rfl, a, C, rfl, T, hno, .inl ⟨ha, fun dx n ne => q dx n ne⟩⟩
structure XcV (P : Program) (w : World) (K : PySem.W.Frag) (mg : Str → Option Value) (base : Heap) (x : Str) : Prop where
  ex : ∃ (C fI : Addr) (fd : FuncData) (ps : List Str), mg x = some (.ref C) ∧ OexC K C ∧ PySem.W.findIn K (.ref C) "land" = some none ∧ PySem.W.findIn K (.ref C) "__init__" = some (some (.ref fI)) ∧ PySem.W.typeIn K (.ref fI) = some (.type "function") ∧ FnOk P w K mg base (L2.CX P w) 1 fI fd ps (spNo K) ∧ L2.Binds K fd ps []
@[simp] def sRaiseV (x : Str) (d : ED) : SD := fun ρ h _ E => d ρ h (fun v h1 => E x (some v) ρ h1) E
theorem ds_raiseV {X : Cx} {B : Bs} {x : Str} {e : Expr} {d : ED} {k : Nat} {p pos pos' : Pos} (c : XcV X.prog X.w X.K X.mg X.base x) (tk : TakesB X B) (hr : Room (k + 2) X.A) (he : DE X B e d) (hc : X.calm = true := by rfl) (hg : Gl X x := by rfl) (hdb : (x == ("__debug__" : Str)) = false := by decide)
    (hs : starEach [e] X.env = (false, eval e X.env) :: starEach [] X.env := by rfl) (hpl : (backTo pos (starEach [] X.env)).any (·.1) = false := by rfl) : DS X B (.Raise (some (.Call (.Name x p) [e] [] pos)) none pos') (sRaiseV x d) := by
  obtain ⟨C, fI, fd, ps, hm, T, hno, iC, tI, F1, hb⟩ := c.ex
  have hx : Passes (L2.CX X.prog X.w) X (fun _ _ _ => False) := fun pins σ H s e s' I z => by
    obtain ⟨_, _, _, _, _, _, _, _, _, _, _, _, hE⟩ := z
    exact hE.elim
  refine PSi (ps_raise hc tk (pmk_oex (dvs := []) (ds := []) T iC tI F1 (hr.mono (by omega)) hb .nil hx hg hm (pa_cons he pa_nil hs) hdb hs hpl)) fun D σ H ⟨ρ, h, D', S, z, c⟩ => ?_
  refine ⟨ρ, h, _, S, z, fun v h1 y H1 q1 s1 rv1 r1 => ?_⟩
  refine ⟨by show 1 ≤ 1000; decide, fun a na => ?_⟩
  refine ⟨a, C, y, rfl, T, hno, upd_same, fun dx nd ne => ⟨rfl, dx, _, upd_same, by rw [upd_ne ne, upd_same], ?_, ?_⟩⟩
  · have : upd H1 a (exo a C none) dx = none := nd
    rwa [upd_ne ne] at this
  · have nd' : H1 dx = none := by
      have : upd H1 a (exo a C none) dx = none := nd
      rwa [upd_ne ne] at this
    have eH : upd (del (upd (upd (upd H1 a (exo a C none)) dx (exd dx [("land", y)])) a (exo a C (some dx))) a) dx (.xd [("land", y)]) = upd H1 dx (.xd [("land", y)]) := by
      funext b
      by_cases hb : b = dx
      · rw [hb, upd_same, upd_same]
      · rw [upd_ne hb, upd_ne hb]
        by_cases ha : b = a
        · rw [ha, del_same, na]
        · rw [del_ne ha, upd_ne ha, upd_ne hb, upd_ne ha]
    rw [eH]
    have s2 : Step h1 H1 h1 (upd H1 dx (.xd [("land", y)])) := Step.fresh nd'
    exact ⟨x, some v, ρ, h1, hm, S.step (s1.trans s2) (r1.fresh nd'), .inr ⟨dx, y, v, rfl, rfl, upd_same, r1.nof nd', rv1.step s2⟩, q1⟩
def dXf (C : Addr) (d : ED) : ED := fun ρ h Q E => d ρ h (fun v h1 => match v with
  | .ref a => (match h1 a with
    | some (.excd C' u) => C' = C ∧ Q u h1
    | _ => False)
  | _ => False) E
theorem de_xf {X : Cx} {B : Bs} {C : Addr} {e : Expr} {d : ED} {pos : Pos} (T : XfC X.K C) (hno : PySem.W.findIn X.K (.ref C) "land" = some none) (he : DE X B e d) (hb : attributeBase e "land" X.env (eval e X.env) = eval e X.env := by rfl) : DE X B (.Attribute e "land" pos) (dXf C d) := by
  refine ⟨fun pins s σ H Q I ⟨ρ, h, Q', S, q, Cn⟩ => ?_⟩
  refine attr_of hb (thn (he.run pins s σ H (fun x H1 => ∃ (a dd : Addr) (oe : Obj) (φ : Heap → Prop) (y : V), x = .ref a ∧ H1 a = some (.frz oe (.ext φ)) ∧ L2.Zc (.ref C) (some dd) oe ∧ (∃ vs, oe.data = .fields vs) ∧ H1 dd = some (.xd [("land", y)]) ∧ Q y H1) I ⟨ρ, h, _, S, q, fun v h1 x H1 q1 s1 rv1 r1 => ?_⟩) fun u s1 ⟨x, H1, I1, rx, a, dd, oe, φ, y, ex, ea, hz, hf, ed, q⟩ => ?_)
  · split at q1
    · rename_i a
      rw [RV] at rv1
      split at q1
      · rename_i C' u ha
        obtain ⟨rfl, q1⟩ := q1
        obtain ⟨oe, φ, dd, y, e1, z, f, e2, n2, rv2⟩ := r1 a _ ha
        exact ⟨a, dd, oe, φ, y, rv1, e1, z, f, e2, (Cn.trans s1).val r1 rv2 q1⟩
      · exact q1.elim
    · exact q1.elim
  · subst ex
    obtain rfl : u = Value.ref a := rx
    obtain ⟨hget, _⟩ := I1.hok a _ ea
    obtain ⟨vs, hd⟩ := hf
    obtain ⟨mA, hns, hr⟩ := (show ObjOk X.prog X.w H1 s1.heap dd (.xd [("land", y)]) from I1.hok dd _ ed)
    obtain ⟨od, ho, hl⟩ := lookIn_ns hns
    obtain ⟨u, hu, ru⟩ := RelO.some_of (v := y) (o := mA "land") (by have := hr "land"; exact this)
    have J : PySem.W.InstAt s1.heap a oe C (some od) := ⟨hget, hz.1, by unfold PySem.W.notCls; rw [hd], by rw [hz.2]; exact ho⟩
    exact HandSPX.exc_get I1.kIn J T.ga T.gg T.exC (PySem.W.findObj_own T.hdC hno rfl (by rw [hl, hu])) (handed_of ru) ⟨y, H1, I1.tok _, ru, q⟩
end DL
namespace DL
open PySem PySem.Spec PyProof.Rows L2
structure HClsN (K : PySem.W.Frag) (mg : Str → Option Value) (cs : Str → Addr) (rs : List Str) : Prop where
  c : HCls K mg cs rs
  nec : ExcC K (cs "NotOf")
  nex : PySem.W.exmOne K (.ref (cs "NotOf")) (.ref (cs "CountError")) = some true
  nk : PySem.W.kitOne K (.ref (cs "NotOf")) (.ref (cs "NotOf")) = some true
  xf : XfC K (cs "NotOf")
  no : PySem.W.findIn K (.ref (cs "NotOf")) "land" = some none
def TThN (K : PySem.W.Frag) (mg : Str → Option Value) (rs : List Str) : (XK → Hp → VK → Prop) → Hp → VK → Prop := fun tl H Q => ∀ p, H p = none →
  tl (fun c d H' => (∃ nm h', mg nm = some c ∧ d = none ∧ nm ∈ rs ∧ RH K H' h' ∧ ∀ x H2, Step h' H' h' H2 → RV K H2 h' (.tup [.str (heardW nm)]) x → RH K H2 h' → Q x H2)
      ∨ (∃ h' v dd x, mg "NotOf" = some c ∧ d = some dd ∧ H' dd = some (.xd [("land", x)]) ∧ h' dd = none ∧ RV K H' h' v x ∧ RH K H' h' ∧ ∀ y H2, Step h' H' h' H2 → RV K H2 h' (.tup [.str "not of", v]) y → RH K H2 h' → Q y H2)) (upd H p (.tup [.non, .non]))
    (fun x H' => ∃ v h1, RV K H' h1 v x ∧ RH K H' h1 ∧ ∀ y H2, Step h1 H' h1 H2 → RV K H2 h1 (.tup [.str "told", v]) y → RH K H2 h1 → Q y H2)
structure HTailN (K : PySem.W.Frag) (cs : Str → Addr) (rs : List Str) (den : SD) : Prop where
  t : HTail K cs rs den
  notof : ∀ v a h D E, h a = none → (∀ h2, Lss h2 h → D.rt (.tup [.str "not of", v]) h2) → den [none, some (.ref a), none, none, none, none, none] (put h a (.excd (cs "NotOf") v)) D E
section
variable {X : Cx} {sg : Scope} {g : Addr} {cdg : Value} {q : Str} {cs : Str → Addr} {rs : List Str} {den : SD} {s1 : Stmt} {rest : List Stmt} {p1 p2 p3 p4 p5 p6 p7 p8 p9 p10 p11 : Pos}
theorem heard_givesN (hN : HClsN X.K X.mg cs rs) (hT : HTailN X.K cs rs den) (hg : sg.names.lookup ("CountError" : Str) = some .globalImplicit) (l1 : sg.names.lookup ("refused" : Str) = some .local) (l2 : sg.names.lookup ("found" : Str) = some .local) (l3 : sg.names.lookup ("e" : Str) = some .local)
    (h1 : ∀ (s : Shared) (H : Hp), PS (cxOf C8.CX0 X.prog X.w X.K X.mg X.base NH "_law_heard" sg g cdg X.A X.stack s H C8.E0).nox s1 (tAsg (tTup (tCons (tC .non) (tCons (tC .non) tNil))) (gTup X.K 2 (gCons (gName 1) (gCons (gName 2) gNil)))))
    (hr : ∀ (s : Shared) (H : Hp) (B : Bs), DSs (cxOf C8.CX0 X.prog X.w X.K X.mg X.base NH "_law_heard" sg g cdg X.A X.stack s H C8.E0).nox B rest den) :
    LamX.GivesTo X NH "_law_heard" sg g cdg (s1 :: .Try [.Assign [.Name "found" p1] (.Call (.Name "deed" p2) [] [] p3) p4] [.ExceptHandler (some (.Name "CountError" p5)) (some "e") [.Assign [.Name "refused" p6] (.Name "e" p7) p8] p9] [] [] p10 :: rest) "deed" q (TThN X.K X.mg rs) := by
  intro f c' s H Q tl act hc h
  have hC := hN.c
  have nd : NH.Nodup := by decide +kernel
  have hgl : Gl (cxOf C8.CX0 X.prog X.w X.K X.mg X.base NH "_law_heard" sg g cdg X.A X.stack s H C8.E0).nox "CountError" := hg
  refine ⟨_, pss_cons (h1 s H) (pss_cons (ps_try_keep (X := (cxOf C8.CX0 X.prog X.w X.K X.mg X.base NH "_law_heard" sg g cdg X.A X.stack s H C8.E0).nox) (c := .ref (cs "CountError")) (i := 3)
      (tb := fun W D σ H => ∃ Ech : XK, (∀ cls d σ' H', Ech cls d H' → W cls d σ' H') ∧ σ[0]? = some (some (.ref f)) ∧ H c' = some (LamX.CodeO c' q) ∧ ∃ Qx : VK, tl Ech H Qx ∧ ∀ x H', Qx x H' → D.nx (σ.set 2 (some x)) H')
      (ts := fun _ => tAsg (tVar 3) (gName 1)) rfl rfl nd rfl l3 rfl ⟨hgl, by decide, .inl (hC.mg _ (by decide +kernel))⟩ (fun W pn xe tk _ => ?_) (fun a oe pn => pss_one (ps_set (i := 1) nd rfl (Or.inl l1) (pe_var (i := 3) rfl (Or.inl l3)) rfl (.inr l1))))
    (u := fun D σ H => ∃ B, rdS X.K B den D σ H) ⟨fun pins s' σ H' D I ⟨B, z⟩ => (hr s H B).run pins s' σ H' D I z⟩), ?_⟩
  · refine ⟨fun pins s' σ H' D I h' => ?_⟩
    obtain ⟨Ech, hW, h1, h2, Qx, h3, h4⟩ := h'
    have hp := pe_mono (act W pn xe Ech p2 p3 tk hW)
    have hq := pss_one (ps_set (pos := p4) (pos' := p1) (X := (cxOf C8.CX0 X.prog X.w X.K X.mg X.base NH "_law_heard" sg g cdg X.A X.stack s H C8.E0).nox.tr pn xe) (i := 2) (x := "found") nd rfl (Or.inl l2) hp rfl (.inr l2))
    exact hq.run pins s' σ H' D I ⟨Qx, ⟨h1, h2, h3⟩, h4⟩
  · refine ⟨(show 2 ≤ sizeLine by rw [sizeLine_eq]; omega), fun p hp => ⟨p, [.non, .non], rfl, .of upd_same, rfl, .non, _, rfl, .non, _, rfl, rfl, ?_⟩⟩
    refine ⟨_, fun cls d σ' H' z => ?_, rfl, by rw [upd_ne (ne_of_none hc hp)]; exact hc, _, h p hp, fun x H' z => ?_⟩
    · rcases z with ⟨nm, h', hm, hd, hin, rH, hQ⟩ | ⟨h', v, dd, xv, hm, hd, hdd, ndd, rvx, rH, hQ⟩
      · subst hd
        have hm' := hC.mg nm (List.mem_cons_of_mem _ (List.mem_cons_of_mem _ (hC.sub nm hin)))
        rw [hm'] at hm
        cases hm
        refine ⟨hC.ex nm hin, fun a oe vs na hl hz hv => ?_⟩
        have hl : σ'.length = 7 := hl
        refine ⟨.ref a, List.getElem?_set_self (by rw [hl]; decide), fun na' => ?_⟩
        have ea : h' a = none := rH.nof na
        have s1 : Step h' H' (put h' a (.exc (cs nm))) (upd H' a (.frz oe (.ext (Thr a)))) := Step.new na
        have r1 : RH X.K (upd H' a (.frz oe (.ext (Thr a)))) (put h' a (.exc (cs nm))) := rH.new na ⟨oe, _, upd_same, hz, vs, hv⟩
        refine ⟨⟨fun _ _ _ _ => False, put h' a (.exc (cs nm)), upd H' a (.frz oe (.ext (Thr a)))⟩, [none, some (.ref a), none, none, none, none, none], put h' a (.exc (cs nm)), ⟨fun _ _ => False, fun v h2 => v = .tup [.str (heardW nm)] ∧ Lss h2 h', fun _ _ => False, fun _ _ => False⟩, ⟨⟨?_, ?_⟩, r1, Step.refl _ _⟩, hT.t.exc nm a h' _ _ hin ea fun h2 l => ⟨rfl, l⟩, ?_⟩
        · simp [hl]
        · intro i v e
          have hi : i = 1 ∧ v = .ref a := by
            match i, e with
            | 0, e => simp at e
            | 1, e => simp at e; exact ⟨rfl, e.symm⟩
            | 2, e => simp at e
            | 3, e => simp at e
            | 4, e => simp at e
            | 5, e => simp at e
            | 6, e => simp at e
            | n + 7, e => simp at e
          obtain ⟨rfl, rfl⟩ := hi
          refine ⟨.ref a, ?_, by rw [RV]⟩
          rw [List.getElem?_set_ne (by decide), List.getElem?_set_self (by rw [List.length_set, hl]; decide)]
        · refine ⟨fun _ _ _ _ z => z.elim, fun v h2 x H2 z st rv r2 => ?_, fun _ _ _ _ z => z.elim, fun _ _ _ _ z => z.elim⟩
          obtain ⟨rfl, l⟩ := z
          exact hQ x H2 (s1.trans (st.trans l.step)) (rv.step l.step) (r2.less l.l)
      · subst hd
        have hm' := hC.mg "NotOf" (by decide +kernel)
        rw [hm'] at hm
        cases hm
        refine ⟨hN.nex, fun a oe vs na hl hz hv => ?_⟩
        have hl : σ'.length = 7 := hl
        refine ⟨.ref a, List.getElem?_set_self (by rw [hl]; decide), fun na' => ?_⟩
        have ea : h' a = none := rH.nof na
        have s1 : Step h' H' (put h' a (.excd (cs "NotOf") v)) (upd H' a (.frz oe (.ext (Thr a)))) := Step.new na
        have r1 : RH X.K (upd H' a (.frz oe (.ext (Thr a)))) (put h' a (.excd (cs "NotOf") v)) := rH.new na ⟨oe, _, dd, xv, upd_same, hz, ⟨vs, hv⟩, by rw [upd_ne (fun z => by rw [z, na] at hdd; cases hdd)]; exact hdd, by rw [put_ne (fun z => by rw [z, na] at hdd; cases hdd)]; exact ndd, rvx.step s1⟩
        refine ⟨⟨fun _ _ _ _ => False, put h' a (.excd (cs "NotOf") v), upd H' a (.frz oe (.ext (Thr a)))⟩, [none, some (.ref a), none, none, none, none, none], put h' a (.excd (cs "NotOf") v), ⟨fun _ _ => False, fun w h2 => w = .tup [.str "not of", v] ∧ Lss h2 h', fun _ _ => False, fun _ _ => False⟩, ⟨⟨?_, ?_⟩, r1, Step.refl _ _⟩, hT.notof v a h' _ _ ea fun h2 l => ⟨rfl, l⟩, ?_⟩
        · simp [hl]
        · intro i w e
          have hi : i = 1 ∧ w = .ref a := by
            match i, e with
            | 0, e => simp at e
            | 1, e => simp at e; exact ⟨rfl, e.symm⟩
            | 2, e => simp at e
            | 3, e => simp at e
            | 4, e => simp at e
            | 5, e => simp at e
            | 6, e => simp at e
            | n + 7, e => simp at e
          obtain ⟨rfl, rfl⟩ := hi
          refine ⟨.ref a, ?_, by rw [RV]⟩
          rw [List.getElem?_set_ne (by decide), List.getElem?_set_self (by rw [List.length_set, hl]; decide)]
        · refine ⟨fun _ _ _ _ z => z.elim, fun w h2 x H2 z st rv r2 => ?_, fun _ _ _ _ z => z.elim, fun _ _ _ _ z => z.elim⟩
          obtain ⟨rfl, l⟩ := z
          exact hQ x H2 (s1.trans (st.trans l.step)) (rv.step l.step) (r2.less l.l)
    · obtain ⟨v, h1, rv, rH, hQ⟩ := z
      refine ⟨⟨fun _ _ _ _ => False, h1, H'⟩, [none, some .non, some v, none, none, none, none], h1, ⟨fun _ _ => False, fun w h2 => w = .tup [.str "told", v] ∧ h2 = h1, fun _ _ => False, fun _ _ => False⟩, ⟨⟨rfl, ?_⟩, rH, Step.refl _ _⟩, hT.t.told v h1 _ _ ⟨rfl, rfl⟩, ?_⟩
      · intro i w e
        match i, e with
        | 0, e => simp at e
        | 1, e => simp at e; subst e; exact ⟨.non, rfl, by rw [RV]⟩
        | 2, e => simp at e; subst e; exact ⟨x, rfl, rv⟩
        | 3, e => simp at e
        | 4, e => simp at e
        | 5, e => simp at e
        | 6, e => simp at e
        | n + 7, e => simp at e
      · refine ⟨fun _ _ _ _ z => z.elim, fun w h2 y H2 z st rw' r2 => ?_, fun _ _ _ _ z => z.elim, fun _ _ _ _ z => z.elim⟩
        obtain ⟨rfl, rfl⟩ := z
        exact hQ y H2 st rw' r2
end
structure HeardN (X : Cx) (k : Nat) (P : Addr) (rs : List Str) : Prop where
  ex : ∃ (g c : Addr) (pg : Arguments) (bg : List Stmt) (sg : Scope) (dV kV doc pm cdv ct oc : Value) (an od : Option Addr) (osl : Array (Option Value)), X.mg "_law_heard" = some (.ref g) ∧ PySem.W.keepIn X.K (.ref g) = true ∧
    X.K.lookup g = some ⟨oc, od, .func (PySem.W.fnOf "_law_heard" "_law_heard" pg bg sg dV kV doc pm an cdv ct), osl⟩ ∧ PySem.W.codeIn X.K cdv "_law_heard" = true ∧ L2.Binds X.K (PySem.W.fnOf "_law_heard" "_law_heard" pg bg sg dV kV doc pm an cdv ct) ["deed"] [] ∧ FnScope NH ["deed"] sg ∧ Vis sg "deed" ∧
    LamX.GivesTo X NH "_law_heard" sg g cdv bg "deed" (X.env.qual ++ "<lambda>") (TThN X.K X.mg rs) ∧ LamX.TabB X.base X.mg c P ∧ X.env.code = .ref c ∧ Room (k + 2) X.A
def dHeardN (Ts : List (Addr × Str)) (P : Addr) (q : Str) (rs : List Str) (d : ED) : ED := fun ρ h Q E => Tbs Ts h ∧ (P, q) ∈ Ts ∧ d ρ h (fun v h1 => Q (.tup [.str "told", v]) h1) (fun nm pl _ h1 => (nm ∈ rs ∧ pl = none ∧ Q (.tup [.str (heardW nm)]) h1) ∨ (nm = "NotOf" ∧ ∃ v, pl = some v ∧ Q (.tup [.str "not of", v]) h1))
theorem de_heardN {X : Cx} {B : Bs} {k : Nat} {Ts : List (Addr × Str)} {P : Addr} {rs : List Str} {params : Arguments} {body : Expr} {scope : Scope} {p lpos pos : Pos} {d : ED} (HH : HeardN X k P rs) (L : LamX.LamS X.env.scope scope)
    (hbody : ∀ (A : Around) (outer : List Env) (s : Shared) (H : Hp) (E : XK) (f c' : Addr) (B' : Bs), Room k (A.deeper (LamX.lamEnv X scope s.heap.objs.size f c')) → TakesB (LamX.lamCx X A outer s H E scope f c') B' → DE (LamX.lamCx X A outer s H E scope f c') B' body d)
    (hg : Gl X "_law_heard" := by rfl) (hdef : defaultsOf params X.env = ([], []) := by rfl) (hbind : ∀ (q : Str) (cl : List (Str × Addr)) (pm cv ctv : Value), bindArgs (PySem.W.kla_fn "<lambda>" q params body scope cl pm cv ctv) ⟨[], []⟩ = pure [] := by intros; rfl) :
    DE X B (.Call (.Name "_law_heard" p) [.Lambda params body scope lpos] [] pos) (dHeardN Ts P (X.env.qual ++ "<lambda>") rs d) := by
  obtain ⟨g, c, pg, bg, sg, dV, kV, doc, pm, cdv, ct, oc, an, od, osl, hm, hk, lk, hcg, hb, Sg, hva, hG, TB, hcode, hr⟩ := HH.ex
  refine ⟨fun pins s σ H Q I ⟨ρ, h, Q', S, ⟨ot, hin, qd⟩, C⟩ => ?_⟩
  refine (LamX.pe_lamcall (T := Ts) (t := fun E σ H Q => ∃ B' : Bs, (∀ cls dd σ H, wx X.mg X.K B' cls dd σ H → E cls dd H) ∧ rdE X.K B' d σ H Q) hg hm hk lk hcg hb Sg rfl hva hG TB hcode hin (ot.uniq hin) hr L hdef hbind (fun A outer s H E f c' hr' => ?_)).run pins s σ H Q I ⟨ot.tabs S.r, fun H1 eN T1 => ?_⟩
  · refine ⟨fun pins s' σ H' Q I ⟨B', hW, z⟩ => (hbody A outer s H E f c' B' hr' ?_).run pins s' σ H' Q I z⟩
    have tk : Takes (LamX.lamCx X A outer s H E scope f c') (fun cls d _ H => E cls d H) := takes_of rfl rfl rfl rfl
    exact tk.imp fun cls dd σ H hw => hW cls dd σ H hw
  · obtain ⟨r0, s0⟩ := ot.step S.r eN T1
    intro pt hpt
    have s1 := s0.trans (Step.fresh (h := h) (o := .tup [.non, .non]) hpt)
    have r1 := r0.fresh (o := .tup [.non, .non]) hpt
    refine ⟨⟨fun nm pl _ h1 => (nm ∈ rs ∧ pl = none ∧ Q' (.tup [.str (heardW nm)]) h1) ∨ (nm = "NotOf" ∧ ∃ v, pl = some v ∧ Q' (.tup [.str "not of", v]) h1), h, _⟩, fun cls dd σ2 H2 hw => ?_, ρ, h, fun v h1 => Q' (.tup [.str "told", v]) h1, ⟨S.s.step s1, r1, Step.refl _ _⟩, qd, fun v h1 x H2 q st rv r2 => ⟨v, h1, rv, r2, fun y H3 st3 ry r3 => C _ _ _ _ q (s1.trans (st.trans st3)) ry r3⟩⟩
    obtain ⟨nm, pl, ρ2, h2, hm2, S2, pld, hc⟩ := hw
    rcases hc with ⟨hin, hpl, q⟩ | ⟨rfl, v, hpl, q⟩
    · refine .inl ⟨nm, h2, hm2, ?_, hin, S2.r, fun x H3 st rv r3 => C _ _ _ _ q (s1.trans (S2.b.trans st)) rv r3⟩
      rcases pld with z | ⟨_, _, _, _, e, _⟩
      · exact z.1
      · rw [hpl] at e; cases e
    · rcases pld with z | ⟨dx, y, v', e1, e2, e3, e4, e5⟩
      · have := z.2
        rw [hpl] at this; cases this
      · rw [hpl] at e2
        cases e2
        exact .inr ⟨h2, v, dx, y, hm2, e1, e3, e4, e5, S2.r, fun x H3 st rv r3 => C _ _ _ _ q (s1.trans (S2.b.trans st)) rv r3⟩
def den__law_heardN (K : PySem.W.Frag) (cs : Str → Addr) : SD := den__law_heardP K cs (sRet (dTup (aCons (dC (.str "not of")) (aCons (dXf (cs "NotOf") (dVar 1)) aNil))))
theorem is_kd {K : PySem.W.Frag} {D a : Addr} {h : Hv} {Q : PV} {cv u : Val} {v : Value} {b : Bool} (ha : h a = some (.excd D u)) (C : ExcC K D) (e : cvOf cv = some v) (k : PySem.W.kitOne K (.ref D) v = some b) (q : Q (.bl b) h) : fIsK K [.ref a, cv] h Q := by
  unfold fIsK
  simp only [ha]
  exact ⟨C, b, v, e, k, q⟩
theorem tail_okP {K : PySem.W.Frag} {mg : Str → Option Value} {cs : Str → Addr} {rs : List Str} {s2 : SD} (C : HCls K mg cs rs) : HTail K cs rs (den__law_heardP K cs s2) := by
  refine ⟨fun v h D E q => ?_, fun nm a h D E hin ha q => ?_⟩
  · unfold den__law_heardP
    refine seq_o fun K1 hK => ?_
    simp only [sSet, sFor, sIf, sRet, sExpr, sPar, sAsg, sSeq, sNext, sAug, dIt, dTup, dLst, dLstH, dCB, dCall, dCallK, dBin, dUn, dTest, dChain, dIfE, aCons, aNil, dVar, dC, dTruth, dNot, dAnd, dOr, vAnd, vOr, vNot, dBM, dSl, dRev, oSome, oNone]
    simp
    exact ⟨by rw [sizeLine_eq]; omega, q⟩
  · have k : ∀ y ∈ (["NotOf", "NoLand", "NoPath", "TooMany", "NoClaims", "NoThing", "NoWorth", "BadBook", "NoBack", "NoText"] : List Str), PySem.W.kitOne K (.ref (cs nm)) (.ref (cs y)) = some (decide (nm = y)) := C.kt nm hin
    have m := C.sub nm hin
    have go : ∀ w, decide (nm = "NotOf") = false → heardW nm = w → ((((kv9 (decide (nm = "NoLand")) (decide (nm = "NoPath")) (decide (nm = "TooMany")) (decide (nm = "NoClaims")) (decide (nm = "NoThing")) (decide (nm = "NoWorth")) (decide (nm = "BadBook")) (decide (nm = "NoBack")) (decide (nm = "NoText"))).map fun p => keyV p.1).filter (pv9 (kv9 (decide (nm = "NoLand")) (decide (nm = "NoPath")) (decide (nm = "TooMany")) (decide (nm = "NoClaims")) (decide (nm = "NoThing")) (decide (nm = "NoWorth")) (decide (nm = "BadBook")) (decide (nm = "NoBack")) (decide (nm = "NoText"))))).map id) = [.str w] →
        den__law_heardP K cs s2 [none, some (.ref a), none, none, none, none, none] (put h a (.exc (cs nm))) D E := fun w h0 hw h1 => by
      rw [hw] at q
      exact tail_exc (C.ec nm hin) ha (by rw [k _ (by decide +kernel), h0]) (k _ (by decide +kernel)) (k _ (by decide +kernel)) (k _ (by decide +kernel)) (k _ (by decide +kernel)) (k _ (by decide +kernel)) (k _ (by decide +kernel)) (k _ (by decide +kernel)) (k _ (by decide +kernel)) (k _ (by decide +kernel)) (C.ve nm hin) h1 q
    simp only [List.mem_cons, List.not_mem_nil, or_false] at m
    rcases m with e | e | e | e | e | e | e | e | e <;> subst e <;> exact go _ (by decide +kernel) rfl rfl
theorem tail_okN {K : PySem.W.Frag} {mg : Str → Option Value} {cs : Str → Addr} {rs : List Str} (N : HClsN K mg cs rs) : HTailN K cs rs (den__law_heardN K cs) := by
  refine ⟨tail_okP N.c, fun v a h D E ha q => ?_⟩
  have hA : put h a (.excd (cs "NotOf") v) a = some (.excd (cs "NotOf") v) := put_same
  have l0 : Lss (put h a (.excd (cs "NotOf") v)) h := Lss.put ha (fun z => nomatch z)
  generalize put h a (.excd (cs "NotOf") v) = h0 at hA l0 ⊢
  unfold den__law_heardN den__law_heardP
  refine seq_o fun K1 hK => ?_
  simp only [sSet, sFor, sIf, sRet, sExpr, sPar, sAsg, sSeq, sNext, sAug, dIt, dTup, dLst, dLstH, dCB, dCall, dCallK, dBin, dUn, dTest, dChain, dIfE, aCons, aNil, dVar, dC, dTruth, dNot, dAnd, dOr, vAnd, vOr, vNot, dBM, dSl, dRev, oSome, oNone]
  simp only [List.getElem?_cons_succ, List.getElem?_cons_zero, fIsN, Bool.false_eq_true, if_false]
  subst hK
  refine seq_o fun K1 hK => ?_
  simp only [sSet, sFor, sIf, sRet, sExpr, sPar, sAsg, sSeq, sNext, sAug, dIt, dTup, dLst, dLstH, dCB, dCall, dCallK, dBin, dUn, dTest, dChain, dIfE, aCons, aNil, dVar, dC, dTruth, dNot, dAnd, dOr, vAnd, vOr, vNot, dBM, dSl, dRev, oSome, oNone, dXf]
  simp only [List.getElem?_cons_succ, List.getElem?_cons_zero]
  refine is_kd hA N.nec rfl N.nk ?_
  simp only [truA, if_true, hA]
  refine ⟨trivial, ?_⟩
  exact ⟨by rw [sizeLine_eq]; simp, q h0 l0⟩
end DL
namespace DL
open PySem PySem.Spec PyProof.Rows L2
def tLenSetT (K : PySem.W.Frag) (ta : TE) : TE := fun σ H Q => ta σ H fun x H1 => ∃ (l : Addr) (ns : List Int), x = .ref l ∧ SqT K H1 l (ns.map V.int) ∧ ns.length ≤ 4000 ∧ ∀ ks : List Int, ks.Nodup → (∀ k, k ∈ ks ↔ k ∈ ns) → Q (.int (ks.length : Nat)) H1
theorem pe_lenSetT {X : Cx} {a : Expr} {ta : TE} {p p2 q pos : Pos} (hg : Gl X "len") (hm : X.mg "len" = none) (hg2 : Gl X "set") (hm2 : X.mg "set" = none) (ha : PE X a ta) (hc : X.calm = true := by rfl)
    (na : starEach [a] X.env = (false, eval a X.env) :: starEach [] X.env := by rfl) : PE X (.Call (.Name "len" p) [.Call (.Name "set" p2) [a] [] q] [] pos) (tLenSetT X.K ta) := by
  refine ⟨fun pins s σ H Q I h => ?_⟩
  refine Call_ (ld_blt I hg hm boot_len ?_)
  refine PyProof.Rows.callWith_builtin1 (PyProof.Rows.args_cons ?_ rfl) rfl rfl
  refine Call_ (ld_blt I hg2 hm2 boot_set ?_)
  refine PyProof.Rows.callWith_type1 (PyProof.Rows.args_cons (thn (ha.run pins s σ H _ I h) fun v s1 ⟨x, H1, I1, r1, q1⟩ => PyProof.Rows.args_nil ?_) na) na rfl
  obtain ⟨l, ns, rfl, hq, hl, q1⟩ := q1
  cases r1
  obtain ⟨its, r, pt, hz⟩ := I1.tuple hq
  refine call_set_tupI ns (I1.ok.hd hc) (show s1.heap.IsTuple l its.toArray from pt) (by simpa using RZ.intsAre_vals r) (by unfold scanBound; omega) fun h' tk c hS hcn hk => ?_
  refine PyProof.Rows.args_nil ?_
  obtain ⟨o, es, ep, t, ho, hex, hd, _, hnd, hmem, hsz, hf, hn, _⟩ := hS
  have I2 : Inv X pins σ H1 { s1 with heap := h', toks := tk } := I1.kept fun b o e => hk b o e
  have hq := q1 (es.toList.map L2.keyOf) hnd fun k => by rw [← hmem k, decide_eq_true_eq]
  refine call_len_set ho hex hd hf (by rw [hn]; omega) ⟨.int ((es.toList.map L2.keyOf).length : Nat), H1, I2.tok _, ⟨_, by rw [List.length_map]; rfl⟩, hq⟩
def dLenSetT (de : ED) : ED := fun ρ h Q E => de ρ h (fun v h1 => match v with
  | .tup vs => (match intsOf vs with
    | some ns => ns.length ≤ 4000 ∧ ∀ ks : List Int, ks.Nodup → (∀ k, k ∈ ks ↔ k ∈ ns) → Q (.int (ks.length : Nat)) h1
    | none => False)
  | _ => False) E
theorem de_lenSetT {X : Cx} {B : Bs} {a : Expr} {da : ED} {p p2 q pos : Pos} (hg : Gl X "len") (hm : X.mg "len" = none) (hg2 : Gl X "set") (hm2 : X.mg "set" = none) (ha : DE X B a da) (hc : X.calm = true := by rfl)
    (na : starEach [a] X.env = (false, eval a X.env) :: starEach [] X.env := by rfl) : DE X B (.Call (.Name "len" p) [.Call (.Name "set" p2) [a] [] q] [] pos) (dLenSetT da) :=
  PEi (pe_lenSetT hg hm hg2 hm2 ha hc na) fun σ H Q ⟨ρ, h, Q', S, q, C⟩ => ⟨ρ, h, _, S, q, fun v h1 x H1 q1 s1 rv1 r1 => by
    split at q1
    · rename_i vs
      rw [RV] at rv1
      obtain ⟨a, ys, e3, n, ha, rss⟩ := rv1
      split at q1
      · rename_i ns e2
        rw [intsOf_eq e2] at rss
        rw [rss.ints] at ha
        exact ⟨a, ns, e3, .of ha, q1.1, fun ks k1 k2 => (C.trans s1).val r1 rv_int (q1.2 ks k1 k2)⟩
      · exact q1.elim
    · exact q1.elim⟩
end DL
namespace DL
open PySem PySem.Spec PyProof.Rows L2
section
variable {X : Cx} {B : Bs} {o e : Expr} {es : List Expr} {d dv : ED} {aa : AD} {f m x : Str} {C : Addr} {pos pos' apos p : Pos}
def dMeth0 (C : Addr) (m : Str) (fs : SpF) (d : ED) : ED := fun ρ h Q E => d ρ h (fun v h1 => match v with
  | .ref a => (match h1 a with
    | some (.ins C' fl) => C' = C ∧ fl.lookup m = none ∧ fs [.ref a] h1 Q (fun nm pl h' => E nm pl ρ h')
    | _ => False)
  | _ => False) E
theorem de_meth0 {fs : SpF} {pl : Sem Bool} (c : Cls X.K C) (F : MtF X.prog X.w X.K X.mg X.base X.A C m 1 fs) (tk : TakesB X B) (ho : DE X B o d)
    (ht : eval (.Call (.Attribute o m apos) [] [] pos) X.env = (do
      let ov ← eval o X.env
      standAt apos.atName
      let (f, first) ← holding [ov] (getMethod ov m pl)
      callWith pos f first (backTo pos (starEach [] X.env)) (backToKw pos (keywordEach [] X.env))) := by rfl) :
    DE X B (.Call (.Attribute o m apos) [] [] pos) (dMeth0 C m fs d) := by
  obtain ⟨k, f, fd, ps, G, hr, hm, hb⟩ := F
  refine ⟨fun pins s σ H Q I ⟨ρ, h, Q', S, q, Cn⟩ => ?_⟩
  refine PySem.W.methodCall_KW (pl := pl) (thn (ho.run pins s σ H (fun x H1 => ∃ a dx xs, x = .ref a ∧ H1 a = some (.ins C dx xs) ∧ xs.lookup m = none ∧ spA X.K X.mg 1 fs [x] H1 Q (WE (wx X.mg X.K B) σ)) I ⟨ρ, h, _, S, q, fun v h1 x H1 q1 s1 rv1 r1 => ?_⟩) fun u s1 ⟨x, H1, I1, rx, a, dx, xs, ex, ea, l, q⟩ => ?_) ht
  · unfold dMeth0 at *
    split at q1
    · rename_i a
      rw [RV] at rv1
      split at q1
      · rename_i C' fl hfl
        obtain ⟨rfl, hl, q1⟩ := q1
        obtain ⟨dx, xs, e1, e2, n2, rs⟩ := r1 a _ hfl
        have l2 : xs.lookup m = none := by
          rcases rs.look (f := m) with ⟨_, z⟩ | ⟨v, y, l1, _⟩
          · exact z
          · rw [hl] at l1; cases l1
        exact ⟨a, dx, xs, rv1, e1, l2, [.ref a], h1, Q', fun nm pl h' => B.E nm pl ρ h', RVs.cons (by rw [RV]; exact rv1) RVs.nil, r1, rfl, q1, Cn.trans s1, fun nm pl h' cls dd H' hE s3 r3 hm pld => ⟨nm, pl, ρ, h', hm, S.step (s1.trans s3) r3, pld, hE⟩⟩
      · exact q1.elim
    · exact q1.elim
  · subst ex
    obtain rfl : u = Value.ref a := rx
    refine getmeth_ok I1 ea c hm l ?_
    refine PySem.W.callWith_K0 (first := [.ref a]) I1.kIn hm.kp ?_
    exact run_fnS (us := [.ref a]) (vs := [.ref a]) (E := WE (wx X.mg X.K B)) G hr hb (passAt tk σ) I1 (.cons rfl .nil) q
theorem e_meth0 {ρ : Sl} {h : Hv} {E : PX} {da : ED} {Q : PV} {a : Addr} {fs : SpF} {fl : List (Str × Val)} (ho : ∀ Q : PV, Q (.ref a) h → da ρ h Q E) (e : h a = some (.ins C fl)) (nl : fl.lookup m = none) (q : fs [.ref a] h Q (fun nm pl h' => E nm pl ρ h')) : dMeth0 C m fs da ρ h Q E := ho _ (by
  show match h a with | some (.ins C' fl) => C' = C ∧ fl.lookup m = none ∧ fs [.ref a] h Q (fun nm pl h' => E nm pl ρ h') | _ => False
  rw [e]
  exact ⟨rfl, nl, q⟩)
end
end DL
namespace DL
open PySem PySem.Spec PyProof.Rows L2
def den_State___init__ (G : Gx) : SD := (sSeq (sFldA (G.C "State") "things" (dVar 0) (dVar 1)) (sSeq (sFldA (G.C "State") "lying" (dVar 0) (dVar 2)) (sFldA (G.C "State") "gone" (dVar 0) (dVar 3))))
def den_State_worth (G : Gx) (R : SpF) : SD := (sSeq (sAsg (.tp [(.nm 2), (.nm 3)]) (dBin fIx (dFld (G.C "State") "things" (dVar 0)) (dVar 1))) (sRet (dIfE (dTruth (dCB fIsi (aCons (dVar 3) (aCons (dC (.ty "list")) aNil)))) (dCB fSum (aCons (dLc (dIt (dVar 3)) (.nm 4) tTrue (dMeth (G.C "State") "worth" 2 R (dVar 0) (aCons (dVar 4) aNil)) [4]) aNil)) (dVar 2))))
def den_State_counted (G : Gx) (R : SpF) : SD := (sSeq (sAsg (.tp [(.nm 3), (.nm 4)]) (dBin fIx (dFld (G.C "State") "things" (dVar 0)) (dVar 2))) (sSeq (sIf (dNot (dTruth (dCB fIsi (aCons (dVar 4) (aCons (dC (.ty "list")) aNil))))) (sRet (dVar 4)) sNext) (sSeq (sPar [5, 6] (aCons (dCall 2 S_takes (aCons (dVar 1) (aCons (dVar 3) aNil))) (aCons (dC (.int 0)) aNil))) (sSeq (sFor (dIt (dVar 4)) (.nm 7) (sSeq (sSet 8 (dMeth (G.C "State") "counted" 3 R (dVar 0) (aCons (dVar 1) (aCons (dVar 7) aNil)))) (sAug 6 (fI0 fun i j => .int (i + j)) (dIfE (dAnd (dTest (dBin fNotN (dVar 8) (dC .non))) (dTest (dBin fIn (dVar 8) (dVar 5)))) (dMeth (G.C "State") "worth" 2 (S_State_worth G) (dVar 0) (aCons (dVar 7) aNil)) (dC (.int 0)))))) (sRet (dIfE (dTruth (dCall 4 S_is_enough (aCons (dVar 1) (aCons (dVar 3) (aCons (dVar 6) (aCons (dMeth (G.C "State") "worth" 2 (S_State_worth G) (dVar 0) (aCons (dVar 2) aNil)) aNil)))))) (dVar 3) (dC .non)))))))
def den_State_tree (G : Gx) (R : SpF) : SD := (sSeq (sAsg (.tp [(.nm 2), (.nm 3)]) (dBin fIx (dFld (G.C "State") "things" (dVar 0)) (dVar 1))) (sRet (dIfE (dTruth (dCB fIsi (aCons (dVar 3) (aCons (dC (.ty "list")) aNil)))) (dTup (aCons (dVar 2) (aCons (dCB fTuple (aCons (dLc (dIt (dVar 3)) (.nm 4) tTrue (dMeth (G.C "State") "tree" 2 R (dVar 0) (aCons (dVar 4) aNil)) [4]) aNil)) aNil))) (dVar 1))))
def den_Yard___init__ (G : Gx) : SD := (sSeq (sIf (dNot (dTruth (dCall 1 S_is_book (aCons (dVar 1) aNil)))) (sRaise "BadBook") sNext) (sSeq (sFldA (G.C "Yard") "book" (dVar 0) (dVar 1)) (sSeq (sFldA (G.C "Yard") "state" (dVar 0) (dNew (G.C "State") 4 (S_State___init__ G) (aCons (dLst aNil) (aCons (dLst aNil) (aCons (dLst aNil) aNil))))) (sSeq (sFldA (G.C "Yard") "done" (dVar 0) (dLstH aNil)) (sFldA (G.C "Yard") "undone" (dVar 0) (dLstH aNil))))))
def den_Yard_become (G : Gx) : SD := (sSeq (sExpr (dBM "list" fAppend (dFld (G.C "Yard") "done" (dVar 0)) (aCons (dTup (aCons (dVar 1) (aCons (dFld (G.C "Yard") "state" (dVar 0)) aNil))) aNil))) (sSeq (sFldA (G.C "Yard") "undone" (dVar 0) (dLstH aNil)) (sFldA (G.C "Yard") "state" (dVar 0) (dNew (G.C "State") 4 (S_State___init__ G) (aCons (dVar 2) (aCons (dVar 3) (aCons (dVar 4) aNil)))))))
def den_Yard_look_worth (G : Gx) : SD := (sSeq (sIf (dNot (dTruth (dCall 3 S_is_number (aCons (dVar 1) (aCons (dC (.int 1)) (aCons (dC (.int 9999)) aNil)))))) (sRaise "NoWorth") sNext) (sIf (dNot (dTruth (dCall 2 S_is_none_or_land (aCons (dFld (G.C "Yard") "book" (dVar 0)) (aCons (dVar 2) aNil))))) (sRaise "NoLand") sNext))
def den_Yard_look_thing (G : Gx) : SD := (sIf (dNot (dTruth (dCall 3 S_is_number (aCons (dVar 1) (aCons (dC (.int 0)) (aCons (dBin fSub (dCB fLen (aCons (dFld (G.C "State") "things" (dFld (G.C "Yard") "state" (dVar 0))) aNil)) (dC (.int 1))) aNil)))))) (sRaise "NoThing") sNext)
def den_Yard_take_in (G : Gx) : SD := (sSeq (sExpr (dMeth (G.C "Yard") "look_worth" 3 (S_Yard_look_worth G) (dVar 0) (aCons (dVar 1) (aCons (dVar 2) aNil)))) (sSeq (sSet 3 (dFld (G.C "Yard") "state" (dVar 0))) (sSeq (sSet 4 (dCB fLen (aCons (dFld (G.C "State") "things" (dVar 3)) aNil))) (sSeq (sExpr (dMeth (G.C "Yard") "become" 5 (S_Yard_become G) (dVar 0) (aCons (dTup (aCons (dC (.str "take_in")) (aCons (dTup (aCons (dVar 1) (aCons (dVar 2) aNil))) aNil))) (aCons (dBin fAdd (dFld (G.C "State") "things" (dVar 3)) (dLst (aCons (dTup (aCons (dVar 1) (aCons (dVar 2) aNil))) aNil))) (aCons (dBin fAdd (dFld (G.C "State") "lying" (dVar 3)) (dLst (aCons (dVar 4) aNil))) (aCons (dFld (G.C "State") "gone" (dVar 3)) aNil)))))) (sRet (dVar 4))))))
def den_Yard_make (G : Gx) : SD := (sSeq (sExpr (dCall 2 S_look_land (aCons (dFld (G.C "Yard") "book" (dVar 0)) (aCons (dVar 1) aNil)))) (sSeq (sSet 3 (dFld (G.C "Yard") "state" (dVar 0))) (sSeq (sIf (dOr (dNot (dTruth (dCB fIsi (aCons (dVar 2) (aCons (dC (.ty "tuple")) aNil))))) (dNot (dTruth (dVar 2)))) (sRaise "NoThing") sNext) (sSeq (sIf (dNot (dTruth (dCB fAll (aCons (dLc (dIt (dVar 2)) (.nm 4) tTrue (vAnd (dCall 3 S_is_number (aCons (dVar 4) (aCons (dC (.int 0)) (aCons (dBin fSub (dCB fLen (aCons (dFld (G.C "State") "things" (dVar 3)) aNil)) (dC (.int 1))) aNil)))) (dBin fIn (dVar 4) (dFld (G.C "State") "lying" (dVar 3)))) [4]) aNil)))) (sRaise "NoThing") sNext) (sSeq (sIf (dTest (dBin fNe (dLenSetT (dVar 2)) (dCB fLen (aCons (dVar 2) aNil)))) (sRaise "NoThing") sNext) (sSeq (sSet 4 (dCB fLen (aCons (dFld (G.C "State") "things" (dVar 3)) aNil))) (sSeq (sSet 5 (dBin fAdd (dLc (dIt (dFld (G.C "State") "lying" (dVar 3))) (.nm 6) (dTest (dBin fNotIn (dVar 6) (dVar 2))) (dVar 6) [6]) (dLst (aCons (dVar 4) aNil)))) (sSeq (sExpr (dMeth (G.C "Yard") "become" 5 (S_Yard_become G) (dVar 0) (aCons (dTup (aCons (dC (.str "make")) (aCons (dTup (aCons (dVar 1) (aCons (dVar 2) aNil))) aNil))) (aCons (dBin fAdd (dFld (G.C "State") "things" (dVar 3)) (dLst (aCons (dTup (aCons (dVar 1) (aCons (dCB fList (aCons (dVar 2) aNil)) aNil))) aNil))) (aCons (dVar 5) (aCons (dFld (G.C "State") "gone" (dVar 3)) aNil)))))) (sRet (dVar 4))))))))))
def den_Yard_send (G : Gx) : SD := (sSeq (sSet 3 (dFld (G.C "Yard") "state" (dVar 0))) (sSeq (sIf (dOr (dNot (dTruth (dCall 3 S_is_number (aCons (dVar 1) (aCons (dC (.int 0)) (aCons (dBin fSub (dCB fLen (aCons (dFld (G.C "State") "things" (dVar 3)) aNil)) (dC (.int 1))) aNil)))))) (dTest (dBin fNotIn (dVar 1) (dFld (G.C "State") "lying" (dVar 3))))) (sRaise "NoThing") sNext) (sSeq (sExpr (dCall 2 S_look_land (aCons (dFld (G.C "Yard") "book" (dVar 0)) (aCons (dVar 2) aNil)))) (sSeq (sSet 4 (dMeth (G.C "State") "counted" 3 (S_State_counted G) (dVar 3) (aCons (dFld (G.C "Yard") "book" (dVar 0)) (aCons (dVar 1) aNil)))) (sSeq (sIf (dTest (dBin fNe (dVar 4) (dVar 2))) (sRaiseV "NotOf" (dVar 4)) sNext) (sSeq (sSet 5 (dLc (dIt (dFld (G.C "State") "lying" (dVar 3))) (.nm 6) (dTest (dBin fNe (dVar 6) (dVar 1))) (dVar 6) [6])) (sExpr (dMeth (G.C "Yard") "become" 5 (S_Yard_become G) (dVar 0) (aCons (dTup (aCons (dC (.str "send")) (aCons (dTup (aCons (dVar 1) (aCons (dVar 2) aNil))) aNil))) (aCons (dFld (G.C "State") "things" (dVar 3)) (aCons (dVar 5) (aCons (dBin fAdd (dFld (G.C "State") "gone" (dVar 3)) (dLst (aCons (dTup (aCons (dVar 1) (aCons (dVar 2) aNil))) aNil))) aNil))))))))))))
def den_Yard_here (G : Gx) : SD := (sRet (dCB fTuple (aCons (dFld (G.C "State") "lying" (dFld (G.C "Yard") "state" (dVar 0))) aNil)))
def den_Yard_tree (G : Gx) : SD := (sSeq (sExpr (dMeth (G.C "Yard") "look_thing" 2 (S_Yard_look_thing G) (dVar 0) (aCons (dVar 1) aNil))) (sRet (dMeth (G.C "State") "tree" 2 (S_State_tree G) (dFld (G.C "Yard") "state" (dVar 0)) (aCons (dVar 1) aNil))))
def den_Yard_counts (G : Gx) : SD := (sSeq (sExpr (dMeth (G.C "Yard") "look_thing" 2 (S_Yard_look_thing G) (dVar 0) (aCons (dVar 1) aNil))) (sRet (dMeth (G.C "State") "counted" 3 (S_State_counted G) (dFld (G.C "Yard") "state" (dVar 0)) (aCons (dFld (G.C "Yard") "book" (dVar 0)) (aCons (dVar 1) aNil)))))
def den_Yard_false_ones (G : Gx) : SD := (sRet (dCB fTuple (aCons (dCB fSorted (aCons (dLc (dIt (dFld (G.C "State") "gone" (dFld (G.C "Yard") "state" (dVar 0)))) (.tp [(.nm 1), (.nm 2)]) (dTest (dBin fNe (dMeth (G.C "State") "counted" 3 (S_State_counted G) (dFld (G.C "Yard") "state" (dVar 0)) (aCons (dFld (G.C "Yard") "book" (dVar 0)) (aCons (dVar 1) aNil))) (dVar 2))) (dVar 1) [1, 2]) aNil)) aNil)))
def den_Yard_deeds (G : Gx) : SD := (sRet (dCB fTuple (aCons (dLc (dIt (dFld (G.C "Yard") "done" (dVar 0))) (.tp [(.nm 1), (.nm 2)]) tTrue (dVar 1) [1, 2]) aNil)))
end DL
namespace DL
open PySem PySem.Spec PyProof.Rows L2
section
variable {b : Book} {ts : List Th}
theorem trY_fuel (w : WFT b ts) : ∀ (k : Nat) (n : Int), n.toNat < k → trY ts k n = trY ts (n.toNat + 1) n := by
  intro k
  induction k using Nat.strongRecOn with
  | ind k ih =>
    intro n hn
    cases k with
    | zero => exact absurd hn (Nat.not_lt_zero _)
    | succ k =>
      unfold trY
      cases e : ts[n.toNat]? with
      | none => rfl
      | some th =>
        cases th with
        | raw v l => rfl
        | made z xs =>
          obtain ⟨-, -, -, hx⟩ := w.made _ z xs e
          have : xs.map (trY ts k) = xs.map (trY ts n.toNat) := List.map_congr_left fun x hxm => by
            obtain ⟨h0, h1⟩ := hx x hxm
            rw [ih k (Nat.lt_succ_self _) x (by omega)]
            by_cases hk : n.toNat < k + 1
            · by_cases hk2 : n.toNat = k
              · rw [hk2, ih k (Nat.lt_succ_self _) x (by omega)]
              · rw [ih n.toNat (by omega) x (by omega)]
            · omega
          simp only [this]
theorem treeY_made (w : WFT b ts) {n : Int} {z : Str} {xs : List Int} (e : ts[n.toNat]? = some (.made z xs)) : treeY ts n = .node z (xs.map (treeY ts)) := by
  unfold treeY trY
  rw [e]
  obtain ⟨-, -, -, hx⟩ := w.made _ z xs e
  have : xs.map (trY ts n.toNat) = xs.map (treeY ts) := List.map_congr_left fun x hxm => by
    obtain ⟨h0, h1⟩ := hx x hxm
    exact trY_fuel w n.toNat x (by omega)
  simp only [this]
  rfl
theorem treeY_raw {n : Int} {v : Int} {l : Option Str} (e : ts[n.toNat]? = some (.raw v l)) : treeY ts n = .leaf n := by
  unfold treeY trY
  rw [e]
theorem hpY_raw {n : Int} {v : Int} {l : Option Str} (e : ts[n.toNat]? = some (.raw v l)) : rawW (hpY ts) n = v ∧ rawL (hpY ts) n = l := by
  unfold rawW rawL hpY
  rw [List.getElem?_map, e]
  exact ⟨rfl, rfl⟩
theorem th_get {n : Int} (h0 : 0 ≤ n) (h1 : n < (ts.length : Int)) : ∃ th, ts[n.toNat]? = some th := ⟨ts[n.toNat]'(by omega), List.getElem?_eq_getElem (by omega)⟩
theorem wholeTs_sum (hp : Heap') (us : List Tree) : wholeTs hp us = (us.map (Tree.whole hp)).sum := by
  induction us with
  | nil => rfl
  | cons t us ih => rw [wholeTs, ih]; rfl
theorem whole_node (hp : Heap') (z : Str) (us : List Tree) : (Tree.node z us).whole hp = (us.map (Tree.whole hp)).sum := by rw [Tree.whole, wholeTs_sum]
theorem ht_part {z : Str} {xs : List Int} {d : Nat} (h : (Tree.node z (xs.map (treeY ts))).ht < d + 1) : ∀ x ∈ xs, (treeY ts x).ht < d := fun x hx => ht_node h _ (List.mem_map.mpr ⟨x, hx, rfl⟩)
end
section
variable {G : Gx} {ρ : Sl} {h : Hv} {E : PX} {da db : ED} {a : Addr} {b : Book} {s : St} {n : Int}
theorem y_things (t : StAt G h a s) (ha : EvE ρ h E da (.ref a)) : EvE ρ h E (dFld (G.C "State") "things" da) (.lst (s.things.map encTh)) := ev_fld ha t (by unfold stF; rfl)
theorem y_lying (t : StAt G h a s) (ha : EvE ρ h E da (.ref a)) : EvE ρ h E (dFld (G.C "State") "lying" da) (.lst (s.lying.map .int)) := ev_fld ha t (by unfold stF; rfl)
theorem y_gone (t : StAt G h a s) (ha : EvE ρ h E da (.ref a)) : EvE ρ h E (dFld (G.C "State") "gone" da) (.lst (s.gone.map encG)) := ev_fld ha t (by unfold stF; rfl)
theorem f_ixI {v : Val} {vs : List Val} {i : Int} {u : Val} (e : seqOf v h = some vs) (h0 : 0 ≤ i) (hu : vs[i.toNat]? = some u) : EvF h fIx v (.int i) u := by
  have := f_ixL (h := h) (n := i.toNat) e hu
  rwa [show ((i.toNat : Nat) : Int) = i by omega] at this
theorem y_thing (t : StAt G h a s) {th : Th} (ha : EvE ρ h E da (.ref a)) (hb : EvE ρ h E db (.int n)) (h0 : 0 ≤ n) (e : s.things[n.toNat]? = some th) : EvE ρ h E (dBin fIx (dFld (G.C "State") "things" da) db) (encTh th) :=
  ev_bin (y_things t ha) hb (f_ixI rfl h0 (by rw [List.getElem?_map, e]; rfl))
theorem c_isi {v : Val} {T : String} {t : String} (e : tyN v h = some t) (m : T ∈ ["int", "bool", "str", "tuple", "list"]) : EvC h fIsi [v, .ty T] (.bl (isT t T)) := fun Q q => by
  show match tyN v h with | some t => T ∈ ["int", "bool", "str", "tuple", "list"] ∧ Q (.bl (isT t T)) h | none => False
  rw [e]; exact ⟨m, q⟩
theorem c_isL {xs : List Int} : EvC h fIsi [.lst (xs.map .int), .ty "list"] (.bl true) := c_isi (t := "list") rfl (by decide)
theorem c_isO {o : Option Str} : EvC h fIsi [encO o, .ty "list"] (.bl false) := by
  cases o with
  | none => exact c_isi (t := "NoneType") rfl (by decide)
  | some z => exact c_isi (t := "str") rfl (by decide)
theorem e_methE {C : Addr} {m : Str} {k : Nat} {fs : SpF} {fl : List (Str × Val)} {aa : AD} {vs : List Val} {v : Val} (ho : EvE ρ h E da (.ref a)) (e : h a = some (.ins C fl)) (nl : fl.lookup m = none) (ha : EvA ρ h E aa vs) (hn : vs.length + 1 = k) (hf : ∀ Q : PV, Q v h → fs (.ref a :: vs) h Q (fun nm pl h' => E nm pl ρ h')) : EvE ρ h E (dMeth C m k fs da aa) v := fun Q q => e_meth ho e nl ha hn (hf Q q)
end
theorem bo_State_worth (G : Gx) (N : List Str) (hN : N.length = 5) (d : Nat) : ∀ as h Q E, as.length = 2 → SR_State_worth G (d + 1) as h Q E → den_State_worth G (SR_State_worth G d) (startA N as) h (endsR Q) (RX E) := by
  rintro as h Q E - ⟨a, b, s, n, rfl, t, w, h0, h1, hd, q⟩
  unfold den_State_worth
  simp only [startA, hN]
  obtain ⟨th, e⟩ := th_get h0 h1
  refine ss_asg (y_thing t ev_var ev_var h0 e) (v := encTh th) (ρ' := [some (.ref a), some (.int n), some (match th with | .raw w l => .int w | .made z xs => .str z), some (match th with | .raw w l => encO l | .made z xs => .lst (xs.map .int)), none]) (by cases th <;> rfl) ?_
  cases th with
  | raw v l =>
    rw [treeY_raw e] at q
    refine s_ret (v := .int v) (ev_if (k := false) (evt_truthB (ev_cb (eva2 ev_var ev_c) c_isO)) (fun z => nomatch z) fun _ => ev_var) (RT.same ?_)
    have := (hpY_raw e).1
    rw [Tree.whole, this] at q
    exact q
  | made z xs =>
    rw [treeY_made w e] at q hd
    obtain ⟨-, -, xl, hx⟩ := w.made _ z xs e
    have hts := ht_part hd
    refine s_ret (v := .int ((xs.map fun x => (treeY s.things x).whole (hpY s.things)).sum)) (ev_if (k := true) (evt_truthB (ev_cb (eva2 ev_var ev_c) c_isL)) (fun _ => ?_) fun z => nomatch z) (RT.same ?_)
    · refine ev_sum xs .int (fun x => (treeY s.things x).whole (hpY s.things)) (evi_it ev_var rfl) (fun _ _ => trivial) (by rw [sizeLine_eq]; omega) fun x hxm => ⟨_, rfl, fun h' sb => ?_⟩
      have t' : StAt G h' a s := sb a _ t
      obtain ⟨x0, x1⟩ := hx x hxm
      exact e_methE ev_var t' rfl (eva1 ev_var) rfl fun Q q => ⟨a, b, s, x, rfl, t', w, x0, by omega, hts x hxm, q⟩
    · rw [whole_node, List.map_map] at q
      exact q
theorem bo_State_tree (G : Gx) (N : List Str) (hN : N.length = 5) (d : Nat) : ∀ as h Q E, as.length = 2 → SR_State_tree G (d + 1) as h Q E → den_State_tree G (SR_State_tree G d) (startA N as) h (endsR Q) (RX E) := by
  rintro as h Q E - ⟨a, b, s, n, rfl, t, w, h0, h1, hd, q⟩
  unfold den_State_tree
  simp only [startA, hN]
  obtain ⟨th, e⟩ := th_get h0 h1
  refine ss_asg (y_thing t ev_var ev_var h0 e) (v := encTh th) (ρ' := [some (.ref a), some (.int n), some (match th with | .raw w l => .int w | .made z xs => .str z), some (match th with | .raw w l => encO l | .made z xs => .lst (xs.map .int)), none]) (by cases th <;> rfl) ?_
  cases th with
  | raw v l =>
    rw [treeY_raw e] at q
    exact s_ret (v := .int n) (ev_if (k := false) (evt_truthB (ev_cb (eva2 ev_var ev_c) c_isO)) (fun z => nomatch z) fun _ => ev_var) (RT.same q)
  | made z xs =>
    rw [treeY_made w e] at q hd
    obtain ⟨-, -, xl, hx⟩ := w.made _ z xs e
    have hts := ht_part hd
    refine s_ret (v := .tup [.str z, .tup (xs.map fun x => (treeY s.things x).enc)]) (ev_if (k := true) (evt_truthB (ev_cb (eva2 ev_var ev_c) c_isL)) (fun _ => ?_) fun z => nomatch z) (RT.same ?_)
    · refine ev_tup (eva2 ev_var (ev_cb (eva1 (ev_lc xs .int (fun x => (treeY s.things x).enc) (evi_it ev_var rfl) (fun _ _ => trivial) (by rw [sizeLine_eq]; omega) fun x hxm => ⟨_, rfl, fun h' sb => ?_⟩)) (fun Q q => q))) (by rw [sizeLine_eq]; simp)
      have t' : StAt G h' a s := sb a _ t
      obtain ⟨x0, x1⟩ := hx x hxm
      exact e_methE ev_var t' rfl (eva1 ev_var) rfl fun Q q => ⟨a, b, s, x, rfl, t', w, x0, by omega, hts x hxm, q⟩
    · rw [enc_node, List.map_map] at q
      exact q
end DL
namespace DL
open PySem PySem.Spec PyProof.Rows L2
section
variable {X : Cx}
def mergeT (kvs more : List (List Key × V)) : List (List Key × V) := more.foldl (fun acc kv => putK acc kv.1 kv.2) kvs
theorem KT.merge {H : Hp} : ∀ {more : List (List Key × V)} {es : List (List Key × Addr × Value)}, KT H more es → ∀ {kvs : List (List Key × V)} {xs : List (List Key × Addr × Value)}, KT H kvs xs → KT H (mergeT kvs more) (storedAllH xs es)
  | _, _, .nil, kvs, xs, r => r
  | _, _, .cons (a := p) (b := q) h t, kvs, xs, r => by
    obtain ⟨h1, h2, h3⟩ := h
    have := KT.merge t (r.put p.1 h2 h3)
    unfold mergeT storedAllH
    rw [List.foldl_cons, List.foldl_cons, ← h1]
    exact this
end
section
variable {K : PySem.W.Frag}
theorem Cont.tpo {h : Hv} {H : Hp} {Q' : PV} {Q : VK} (c : Cont K h H Q' Q) (r : RH K H h) {vs : List Val} {xs : List V} {p : Addr} {o : Obj} (rs : RVs K H h vs xs) (e : H p = none) (hd : o.dict = none) (q : Q' (.tpo vs) h) : Q (.ref p) (upd H p (.frz o (.tup xs))) :=
  c _ _ _ _ q (Step.fresh e) (by rw [RV]; exact ⟨p, xs, o, rfl, r.nof e, upd_same, hd, rs.step (Step.fresh e)⟩) (r.fresh e)
def fDictTT : FA := fun vs h Q => ∃ (kvs : List (List Key × Val)), vs = [.tpo (kvs.map fun p => Val.tup [.tup (p.1.map keyV), p.2])] ∧ (kvs.map (·.1)).Nodup ∧ ∀ p, h p = none → Q (.ref p) (put h p (.dT kvs))
end
end DL
namespace DL
open PySem PySem.Spec PyProof.Rows L2
section
variable {K : PySem.W.Frag} {H : Hp} {h : Hv}
theorem RKs.keysT {κ : Type} : ∀ {kvs : List (κ × Val)} {xs : List (κ × V)}, RKs K H h kvs xs → kvs.map (·.1) = xs.map (·.1)
  | [], xs, r => by rw [show xs = [] from r]; rfl
  | (k, v) :: kvs, xs, r => by
    obtain ⟨y, ys, e, _, r2⟩ := r
    rw [e, List.map_cons, List.map_cons, RKs.keysT r2]
theorem RKs.lenT {κ : Type} {kvs : List (κ × Val)} {xs : List (κ × V)} (r : RKs K H h kvs xs) : kvs.length = xs.length := by
  have := congrArg List.length r.keysT
  rwa [List.length_map, List.length_map] at this
theorem RKs.getT {κ : Type} : ∀ {kvs : List (κ × Val)} {xs : List (κ × V)} {i : Nat} {p : κ × Val} {k : κ} {x : V}, RKs K H h kvs xs → kvs[i]? = some p → xs[i]? = some (k, x) → p.1 = k ∧ RV K H h p.2 x
  | [], xs, i, p, k, x, r, e, _ => by simp at e
  | (k0, v0) :: kvs, xs, 0, p, k, x, r, e, e2 => by
    obtain ⟨y, ys, ex, rv, _⟩ := r
    subst ex
    simp only [List.getElem?_cons_zero, Option.some.injEq] at e e2
    subst e
    cases e2
    exact ⟨rfl, rv⟩
  | (k0, v0) :: kvs, xs, i + 1, p, k, x, r, e, e2 => by
    obtain ⟨y, ys, ex, _, r2⟩ := r
    subst ex
    simp only [List.getElem?_cons_succ] at e e2
    exact RKs.getT r2 e e2
end
end DL
namespace DL
open PySem PySem.Spec PyProof.Rows L2
section
variable {K : PySem.W.Frag} {H : Hp} {h : Hv}
theorem RNs.key : ∀ {kvs : List (NestedKey × Val)} {xs : List NE}, RNs K H h kvs xs → KeyE H xs
  | [], xs, r => by rw [show xs = [] from r]; exact fun e he => nomatch he
  | (k, v) :: kvs, xs, r => by
    obtain ⟨p, y, ys, e, hd, r0, r1, r2⟩ := r
    rw [e]
    intro x hx
    rcases List.mem_cons.mp hx with q | q
    · rw [q]; exact ⟨nk_of r0, hd⟩
    · exact RNs.key r2 x q
theorem RNs.val (k : NestedKey) : ∀ {kvs : List (NestedKey × Val)} {xs : List NE}, RNs K H h kvs xs → (valA kvs k = none ∧ valN xs k = none) ∨ ∃ v x, valA kvs k = some v ∧ valN xs k = some x ∧ RV K H h v x
  | [], xs, r => by rw [show xs = [] from r]; exact .inl ⟨rfl, rfl⟩
  | (j, v) :: kvs, xs, r => by
    obtain ⟨p, y, ys, e, hd, r0, r1, r2⟩ := r
    rw [e]
    by_cases q : j = k
    · refine .inr ⟨v, y, ?_, ?_, r1⟩
      · unfold valA; rw [List.find?_cons]; simp [q]
      · unfold valN; rw [List.find?_cons]; simp [q]
    · rcases RNs.val k r2 with ⟨a, b⟩ | ⟨w, x, a, b, c⟩
      · refine .inl ⟨?_, ?_⟩
        · rw [← a]; unfold valA; rw [List.find?_cons]; simp [q]
        · rw [← b]; unfold valN; rw [List.find?_cons]; simp [q]
      · refine .inr ⟨w, x, ?_, ?_, c⟩
        · rw [← a]; unfold valA; rw [List.find?_cons]; simp [q]
        · rw [← b]; unfold valN; rw [List.find?_cons]; simp [q]
theorem RNs.app {k : NestedKey} {b : Addr} {v : Val} {x : V} (hd : k.depth ≤ 8) (rk : RV K H h (nkV k) (.ref b)) (rv : RV K H h v x) : ∀ {kvs : List (NestedKey × Val)} {xs : List NE}, RNs K H h kvs xs → RNs K H h (kvs ++ [(k, v)]) (xs ++ [(k, b, x)])
  | [], xs, r => by rw [show xs = [] from r]; exact ⟨b, x, [], rfl, hd, rk, rv, rfl⟩
  | (j, w) :: kvs, xs, r => by
    obtain ⟨p, y, ys, e, h1, r0, r1, r2⟩ := r
    rw [e]
    exact ⟨p, y, _, rfl, h1, r0, r1, RNs.app hd rk rv r2⟩
theorem RNs.repl {k : NestedKey} {v : Val} {x : V} (rv : RV K H h v x) : ∀ {kvs : List (NestedKey × Val)} {xs : List NE}, RNs K H h kvs xs → RNs K H h (kvs.map fun kv => if kv.1 = k then (kv.1, v) else kv) (xs.map fun e => if e.1 = k then (e.1, e.2.1, x) else e)
  | [], xs, r => by rw [show xs = [] from r]; exact rfl
  | (j, w) :: kvs, xs, r => by
    obtain ⟨p, y, ys, e, h1, r0, r1, r2⟩ := r
    rw [e, List.map_cons, List.map_cons]
    by_cases q : j = k
    · simp only [q, if_true]
      rw [q] at h1 r0
      exact ⟨p, x, _, rfl, h1, r0, rv, RNs.repl rv r2⟩
    · simp only [q, if_false]
      exact ⟨p, y, _, rfl, h1, r0, r1, RNs.repl rv r2⟩
theorem RNs.any (k : NestedKey) : ∀ {kvs : List (NestedKey × Val)} {xs : List NE}, RNs K H h kvs xs → (kvs.any fun kv => decide (kv.1 = k)) = (valN xs k).isSome
  | [], xs, r => by rw [show xs = [] from r]; rfl
  | (j, v) :: kvs, xs, r => by
    obtain ⟨p, y, ys, e, hd, r0, r1, r2⟩ := r
    rw [e, List.any_cons, RNs.any k r2]
    unfold valN
    rw [List.find?_cons]
    by_cases q : j = k <;> simp [q]
theorem RNs.put {k : NestedKey} {b : Addr} {v : Val} {x : V} {kvs : List (NestedKey × Val)} {xs : List NE} (r : RNs K H h kvs xs) (hd : k.depth ≤ 8) (rk : RV K H h (nkV k) (.ref b)) (rv : RV K H h v x) : RNs K H h (putA kvs k v) (putN xs k b x) := by
  unfold putA putN
  rw [r.any k]
  split
  · exact RNs.repl rv r
  · exact RNs.app hd rk rv r
theorem RNs.len : ∀ {kvs : List (NestedKey × Val)} {xs : List NE}, RNs K H h kvs xs → kvs.length = xs.length
  | [], xs, r => by rw [show xs = [] from r]; rfl
  | (j, w) :: kvs, xs, r => by
    obtain ⟨p, y, ys, e, _, _, _, r2⟩ := r
    rw [e, List.length_cons, List.length_cons, RNs.len r2]
end
section
variable {X : Cx} {B : Bs} {o i e f : Expr} {dd di de df : ED} {pos pos' apos cpos : Pos} {w : World}
end
end DL
namespace DL
open PySem PySem.Spec PyProof.Rows L2
end DL
namespace DL
open PySem PySem.Spec PyProof.Rows L2
end DL
namespace DL
open PySem PySem.Spec PyProof.Rows L2
def dtC (cs : List Row) : List (List Key × Val) := cs.map fun r => (r.1.map Sum.inl, encO r.2)
end DL
namespace DL
open PySem PySem.Spec PyProof.Rows L2
end DL
namespace DL
open PySem PySem.Spec PyProof.Rows L2
abbrev GK := Nat × Str
abbrev MsL := List (GK × Int)
abbrev WsL := List (GK × List (Int × Int))
def kO (b : Book) (z : Str) : Option Str → Bool
  | some l => decide (l ∈ takesL b z)
  | none => false
def gkV (k : GK) : List Key := [.inl (k.1 : Int), .inr k.2]
def encMs (ms : MsL) : List (List Key × Val) := ms.map fun e => (gkV e.1, .int e.2)
def encWs (ws : WsL) (wa : GK → Addr) : List (List Key × Val) := ws.map fun e => (gkV e.1, .ref (wa e.1))
def encI (d : List (Int × Int)) : List (Key × Val) := d.map fun p => (.inl p.1, .int p.2)
def grF (b : Book) (hp : Heap') (ma wa : Addr) : List (Str × Val) :=
  [("book", encB b), ("heap", encH hp), ("names", .lst (b.names.map .str)), ("whole", .int ((2 ^ hp.length : Nat) - 1 : Int)), ("weights", .lst ((List.range (2 ^ hp.length)).map fun n => .int (wt hp n))), ("many", .ref ma), ("ways", .ref wa)]
structure Ag where
  a : Addr
  ma : Addr
  wa : Addr
  w : GK → Addr
structure GrAt (G : Gx) (h : Hv) (A : Ag) (b : Book) (hp : Heap') (ms : MsL) (ws : WsL) : Prop where
  ins : h A.a = some (.ins (G.C "Groupings") (grF b hp A.ma A.wa))
  ma : h A.ma = some (.dT (encMs ms))
  wa : h A.wa = some (.dT (encWs ws A.w))
  w : ∀ e ∈ ws, DV h (A.w e.1) (encI e.2)
  nw : ∀ e ∈ ws, A.w e.1 ≠ A.a ∧ A.w e.1 ≠ A.ma ∧ A.w e.1 ≠ A.wa
  inj : ∀ e ∈ ws, ∀ f ∈ ws, e.1 ≠ f.1 → A.w e.1 ≠ A.w f.1
def OffG (A : Ag) (ws : WsL) (h h' : Hv) : Prop := ∀ c, (∀ e ∈ ws, c ≠ A.w e.1) → h' c = h c
end DL
namespace DL
open PySem PySem.Spec PyProof.Rows L2
end DL
namespace DL
open PySem PySem.Spec PyProof.Rows L2
end DL
namespace DL
open PySem PySem.Spec PyProof.Rows L2
end DL
namespace DL
open PySem PySem.Spec PyProof.Rows L2
theorem nd_map {α β : Type} {f : α → β} (hf : ∀ a b, f a = f b → a = b) {l : List α} (h : l.Nodup) : (l.map f).Nodup := List.pairwise_map.mpr (List.Pairwise.imp (fun ne e => ne (hf _ _ e)) h)
theorem inl_inj : Function.Injective (fun p : List Int => (p.map Sum.inl : List Key)) := fun a => by
  induction a with
  | nil => intro b e; cases b with
    | nil => rfl
    | cons y b => cases e
  | cons x a ih => intro b e; cases b with
    | nil => cases e
    | cons y b =>
      have e : (Sum.inl x : Key) :: a.map Sum.inl = Sum.inl y :: b.map Sum.inl := e
      rw [List.cons.injEq] at e
      rw [Sum.inl.inj e.1, ih e.2]
theorem dt_nd {cs : List Row} (nd : (cs.map (·.1)).Nodup) : ((dtC cs).map (·.1)).Nodup := by
  have : (dtC cs).map (·.1) = (cs.map (·.1)).map fun p => (p.map Sum.inl : List Key) := by unfold dtC; rw [List.map_map, List.map_map]; rfl
  rw [this]
  exact nd_map (fun a b e => inl_inj e) nd
theorem dt_rows (cs : List Row) : cs.map encRow = (dtC cs).map fun p => Val.tup [.tup (p.1.map keyV), p.2] := by
  unfold dtC
  rw [List.map_map]
  congr 1
  funext r
  show encRow r = .tup [.tup ((r.1.map Sum.inl).map keyV), encO r.2]
  rw [List.map_map]
  rfl
end DL
namespace DL
open PySem PySem.Spec PyProof.Rows L2
theorem m_dict {ρ : Sl} {h : Hv} {E : PX} {D : AE} {s2 : SD} {de : ED} {i : Nat} {cs : List Row} (he : EvE ρ h E de (.tpo (cs.map encRow))) (nd : (cs.map (·.1)).Nodup) (q : ∀ d, h d = none → s2 (ρ.set i (some (.ref d))) (put h d (.dT (dtC cs))) D E) : sSeq (sSet i (dCB fDictTT (aCons de aNil))) s2 ρ h D E := by
  show de ρ h _ E
  exact he _ ⟨dtC cs, by rw [dt_rows], dt_nd nd, fun p np => q p np⟩
theorem m_inT {h : Hv} {z : Str} {ns : List Str} : EvF h fIn (.str z) (.tup (ns.map .str)) (.bl (decide (z ∈ ns))) := fun Q q => by
  refine ⟨rfl, ?_, Qv q (by rw [inA_str])⟩
  rw [List.all_map, List.all_eq_true]
  intro x _
  rfl
end DL
namespace DL
open PySem PySem.Spec PyProof.Rows L2
end DL
namespace DL
open PySem PySem.Spec PyProof.Rows L2
end DL
namespace DL
open PySem PySem.Spec PyProof.Rows L2
section
variable {ρ : Sl} {h : Hv} {E : PX} {D : AE} {s1 s2 : SD} {da db dl dx : ED} {Q : PV} {v w : Val} {vs : List Val}
end
end DL
namespace DL
open PySem PySem.Spec PyProof.Rows L2
section
variable {G : Gx} {h h' : Hv} {A : Ag} {b : Book} {hp : Heap'} {ms : MsL} {ws : WsL}
theorem OffG.refl : OffG A ws h h := fun _ _ => rfl
theorem OffG.trans {h2 : Hv} (x : OffG A ws h h') (y : OffG A ws h' h2) : OffG A ws h h2 := fun c hc => (y c hc).trans (x c hc)
theorem GrAt.frz (t : GrAt G h A b hp ms ws) {e : GK × List (Int × Int)} (he : e ∈ ws) {o : Obj} {xs : List (Key × V)} (hd : h' (A.w e.1) = some (.dF o xs (encI e.2))) (ho : ∀ c, c ≠ A.w e.1 → h' c = h c) (nd : (ws.map (·.1)).Nodup) : GrAt G h' A b hp ms ws := by
  have n := t.nw e he
  refine ⟨(ho _ n.1.symm).trans t.ins, (ho _ n.2.1.symm).trans t.ma, (ho _ n.2.2.symm).trans t.wa, fun f hf => ?_, t.nw, t.inj⟩
  by_cases c : f.1 = e.1
  · have : f = e := by
      have : ∀ {l : WsL}, (l.map (·.1)).Nodup → e ∈ l → f ∈ l → f = e := fun {l} => by
        induction l with
        | nil => intro _ h; cases h
        | cons x l ih =>
          intro nd h1 h2
          rw [List.map_cons, List.nodup_cons] at nd
          rcases List.mem_cons.mp h1 with e1 | e1
          · rcases List.mem_cons.mp h2 with e2 | e2
            · rw [e1, e2]
            · exact absurd (by rw [← e1, ← c]; exact List.mem_map_of_mem e2) nd.1
          · rcases List.mem_cons.mp h2 with e2 | e2
            · exact absurd (by rw [← e2, c]; exact List.mem_map_of_mem e1) nd.1
            · exact ih nd.2 e1 e2
      exact this nd he hf
    rw [this]
    exact .inr ⟨o, xs, hd⟩
  · have ne : A.w f.1 ≠ A.w e.1 := t.inj f hf e he c
    rcases t.w f hf with z | ⟨o', xs', z⟩
    · exact .inl ((ho _ ne).trans z)
    · exact .inr ⟨o', xs', (ho _ ne).trans z⟩
variable {ρ : Sl} {E : PX} {D : AE} {ds dn dz : ED}
end
end DL
namespace DL
open PySem PySem.Spec PyProof.Rows L2
theorem kO_ev {ρ : Sl} {h : Hv} {E : PX} {d1 d2 : ED} {b : Book} {z : Str} {o : Option Str} (e1 : EvE ρ h E d1 (encO o)) (e2 : EvE ρ h E d2 (.tup ((takesL b z).map .str))) : EvT ρ h E (dAnd (dTest (dBin fNotN d1 (dC .non))) (dTest (dBin fIn d1 d2))) (kO b z o) := by
  cases o with
  | none => exact (evt_and (k := false) (l := false) (evt_test (ev_bin e1 ev_c fun Q q => q)) fun z => nomatch z).cast rfl
  | some l => exact (evt_and (k := true) (l := decide (l ∈ takesL b z)) (evt_test (ev_bin e1 ev_c fun Q q => q)) fun _ => evt_test (ev_bin e1 e2 m_inT)).cast (by simp [kO])
end DL
namespace DL
open PySem PySem.Spec PyProof.Rows L2
def cntP (b : Book) (hp : Heap') (z : Str) (t : Tree) : Int := match t.land b hp with
  | some l => if l ∈ takesL b z then t.whole hp else 0
  | none => 0
theorem cntTs_sum (b : Book) (hp : Heap') (z : Str) (us : List Tree) : cntTs b hp z us = (us.map (cntP b hp z)).sum := by
  induction us with
  | nil => rfl
  | cons t us ih => rw [cntTs, ih]; rfl
theorem land_node (b : Book) (hp : Heap') (z : Str) (us : List Tree) : (Tree.node z us).land b hp = if enough b z (us.map (cntP b hp z)).sum ((Tree.node z us).whole hp) = true then some z else none := by
  rw [Tree.land, cntTs_sum, Tree.whole]
theorem so_aug {i : Nat} {v w u : Val} {f : F2} {de : ED} {ρ : Sl} {h : Hv} {E : PX} {D : AE} (e : ρ[i]? = some (some v)) (hd : EvE ρ h E de w) (hf : EvF h f v w u) (q : D.nx (ρ.set i (some u)) h) : sAug i f de ρ h D E := by
  show (match ρ[i]? with | some (some v) => _ | _ => False)
  rw [e]
  exact hd _ (hf _ q)
theorem ss_no {ρ : Sl} {h : Hv} {E : PX} {D : AE} {t : TD} {s1 s3 : SD} (ht : EvT ρ h E t false) (q : s3 ρ h D E) : sSeq (sIf t s1 sNext) s3 ρ h D E := ss_if ht (fun z => nomatch z) fun _ => q
theorem so_no {ρ : Sl} {h : Hv} {E : PX} {D : AE} {t : TD} {s1 : SD} (ht : EvT ρ h E t false) (q : D.nx ρ h) : sIf t s1 sNext ρ h D E := s_if ht (fun z => nomatch z) fun _ => q
theorem ss_yes {ρ : Sl} {h : Hv} {E : PX} {D : AE} {t : TD} {s1 s2 s3 : SD} (ht : EvT ρ h E t true) (q : s1 ρ h { D with nx := fun ρ h => s3 ρ h D E } E) : sSeq (sIf t s1 s2) s3 ρ h D E := ss_if ht (fun _ => q) fun z => nomatch z
theorem so_yes {ρ : Sl} {h : Hv} {E : PX} {D : AE} {t : TD} {s1 s2 : SD} (ht : EvT ρ h E t true) (q : s1 ρ h D E) : sIf t s1 s2 ρ h D E := s_if ht (fun _ => q) fun z => nomatch z
theorem bo_State_counted (G : Gx) (N : List Str) (hN : N.length = 9) (d : Nat) : ∀ as h Q E, as.length = 3 → SR_State_counted G (d + 1) as h Q E → den_State_counted G (SR_State_counted G d) (startA N as) h (endsR Q) (RX E) := by
  rintro as h Q E - ⟨a, b, s, n, rfl, t, wf, w, h0, h1, hd, d40, q⟩
  unfold den_State_counted
  simp only [startA, hN]
  obtain ⟨th, e⟩ := th_get h0 h1
  refine ss_asg (y_thing t ev_var ev_var h0 e) (v := encTh th) (ρ' := [some (.ref a), some (encB b), some (.int n), some (match th with | .raw w l => .int w | .made z xs => .str z), some (match th with | .raw w l => encO l | .made z xs => .lst (xs.map .int)), none, none, none, none]) (by cases th <;> rfl) ?_
  cases th with
  | raw v l =>
    rw [treeY_raw e] at q
    refine ss_yes (evt_not (k := false) (evt_truthB (ev_cb (eva2 ev_var ev_c) c_isO))) (s_ret ev_var (RT.same ?_))
    have := (hpY_raw e).2
    rw [Tree.land, this] at q
    exact q
  | made z xs =>
    refine ss_no (evt_not (k := true) (evt_truthB (ev_cb (eva2 ev_var ev_c) c_isL))) ?_
    have hd0 := hd
    have et := treeY_made w e
    rw [et] at hd
    obtain ⟨zn, -, xl, hx⟩ := w.made _ z xs e
    have hts := ht_part hd
    refine ss_par2 (v := .tup ((takesL b z).map .str)) (w := .int 0) (eva2 (ev_call (eva2 ev_var ev_var) rfl fun Q q => ⟨b, z, rfl, wf.pl, q⟩) ev_c) ?_
    refine ss_for (evi_it (v := .lst (xs.map .int)) ev_var rfl) fun dd hdd => ?_
    refine for_ind (fun vs ρ h' => ∃ (done L : List Int) (x7 x8 : Option Val), xs = done ++ L ∧ vs = L.map .int ∧ ρ = [some (.ref a), some (encB b), some (.int n), some (.str z), some (.lst (xs.map .int)), some (.tup ((takesL b z).map .str)), some (.int ((done.map fun x => cntP b (hpY s.things) z (treeY s.things x)).sum)), x7, x8] ∧ h' = h) ?_ ?_ _ _ _ ⟨[], xs, none, none, rfl, rfl, rfl, rfl⟩
    · rintro ρ h' ⟨done, L, x7, x8, e2, el, rfl, rfl⟩
      have : L = [] := by cases L with
        | nil => rfl
        | cons _ _ => cases el
      subst this
      rw [List.append_nil] at e2
      subst e2
      refine ⟨trivial, ?_⟩
      dsimp only
      refine s_ret (v := encO ((treeY s.things n).land b (hpY s.things))) ?_ (RT.same q)
      have en : EvE [some (.ref a), some (encB b), some (.int n), some (.str z), some (.lst (xs.map .int)), some (.tup ((takesL b z).map .str)), some (.int ((xs.map fun x => cntP b (hpY s.things) z (treeY s.things x)).sum)), x7, x8] h' (RX E) (dCall 4 S_is_enough (aCons (dVar 1) (aCons (dVar 3) (aCons (dVar 6) (aCons (dMeth (G.C "State") "worth" 2 (S_State_worth G) (dVar 0) (aCons (dVar 2) aNil)) aNil))))) (.bl (enough b z (xs.map fun x => cntP b (hpY s.things) z (treeY s.things x)).sum ((treeY s.things n).whole (hpY s.things)))) :=
        ev_call (eva_cons ev_var (eva_cons ev_var (eva2 ev_var (e_methE ev_var t rfl (eva1 ev_var) rfl fun Q q => ⟨a, b, s, n, rfl, t, w, h0, h1, by omega, q⟩)))) rfl fun Q q => ⟨b, z, _, _, rfl, wf, zn, q⟩
      have el : encO ((treeY s.things n).land b (hpY s.things)) = if enough b z (xs.map fun x => cntP b (hpY s.things) z (treeY s.things x)).sum ((treeY s.things n).whole (hpY s.things)) = true then .str z else .non := by
        rw [et, land_node, List.map_map]
        show encO (if enough b z ((xs.map (fun x => cntP b (hpY s.things) z (treeY s.things x))).sum) _ = true then some z else none) = _
        split <;> rfl
      rw [el]
      cases hk : enough b z (xs.map fun x => cntP b (hpY s.things) z (treeY s.things x)).sum ((treeY s.things n).whole (hpY s.things)) with
      | true => exact ev_if (k := true) (evt_truthB (hk ▸ en)) (fun _ => ev_var) fun z => nomatch z
      | false => exact ev_if (k := false) (evt_truthB (hk ▸ en)) (fun z => nomatch z) fun _ => ev_c
    · rintro v vs ρ h' ⟨done, L, x7, x8, e2, el, rfl, rfl⟩
      cases L with
      | nil => cases el
      | cons x L =>
        cases el
        have hxm : x ∈ xs := by rw [e2]; simp
        obtain ⟨x0, x1⟩ := hx x hxm
        refine ⟨trivial, _, rfl, fun Nx hNx => ?_⟩
        subst hdd
        refine ss_set (v := encO ((treeY s.things x).land b (hpY s.things))) (e_methE ev_var t rfl (eva2 ev_var ev_var) rfl fun Q q => ⟨a, b, s, x, rfl, t, wf, w, x0, by omega, hts x hxm, by omega, q⟩) ?_
        have es : ((done ++ [x]).map fun x => cntP b (hpY s.things) z (treeY s.things x)).sum = (done.map fun x => cntP b (hpY s.things) z (treeY s.things x)).sum + cntP b (hpY s.things) z (treeY s.things x) := by
          simp [List.map_append, List.sum_append]
        refine so_aug (v := .int ((done.map fun x => cntP b (hpY s.things) z (treeY s.things x)).sum)) (w := .int (cntP b (hpY s.things) z (treeY s.things x))) (u := .int ((done.map fun x => cntP b (hpY s.things) z (treeY s.things x)).sum + cntP b (hpY s.things) z (treeY s.things x))) rfl ?_ (fun Q q => q) (hNx _ _ ⟨done ++ [x], L, some (.int x), some (encO ((treeY s.things x).land b (hpY s.things))), by rw [e2]; simp, rfl, by rw [es]; rfl, rfl⟩)
        have ev7 : EvE [some (.ref a), some (encB b), some (.int n), some (.str z), some (.lst (xs.map .int)), some (.tup ((takesL b z).map .str)), some (.int ((done.map fun x => cntP b (hpY s.things) z (treeY s.things x)).sum)), some (.int x), some (encO ((treeY s.things x).land b (hpY s.things)))] h' (RX E) (dVar 8) (encO ((treeY s.things x).land b (hpY s.things))) := ev_var
        have ev5 : EvE [some (.ref a), some (encB b), some (.int n), some (.str z), some (.lst (xs.map .int)), some (.tup ((takesL b z).map .str)), some (.int ((done.map fun x => cntP b (hpY s.things) z (treeY s.things x)).sum)), some (.int x), some (encO ((treeY s.things x).land b (hpY s.things)))] h' (RX E) (dVar 5) (.tup ((takesL b z).map .str)) := ev_var
        have ec : cntP b (hpY s.things) z (treeY s.things x) = if kO b z ((treeY s.things x).land b (hpY s.things)) = true then (treeY s.things x).whole (hpY s.things) else 0 := by
          unfold cntP kO
          cases (treeY s.things x).land b (hpY s.things) with
          | none => simp
          | some l => by_cases m : l ∈ takesL b z <;> simp [m]
        rw [ec]
        have ek := kO_ev ev7 ev5
        cases hk : kO b z ((treeY s.things x).land b (hpY s.things)) with
        | true =>
          rw [hk] at ek
          exact ev_if ek (fun _ => e_methE ev_var t rfl (eva1 ev_var) rfl fun Q q => ⟨a, b, s, x, rfl, t, w, x0, by omega, by have := hts x hxm; omega, q⟩) fun z => nomatch z
        | false =>
          rw [hk] at ek
          exact ev_if ek (fun z => nomatch z) (fun _ => ev_c)
end DL
namespace DL
open PySem PySem.Spec PyProof.Rows L2
def den_is_none_or_land : SD := (sRet (vOr (dBin fIsN (dVar 1) (dC .non)) (vAnd (dCB fIsi (aCons (dVar 1) (aCons (dC (.ty "str")) aNil))) (dBin fIn (dVar 1) (dCall 1 S_names_of (aCons (dVar 0) aNil))))))
end DL
namespace DL
open PySem PySem.Spec PyProof.Rows L2
theorem ev_vOr {ρ : Sl} {h : Hv} {E : PX} {da db : ED} {k l : Bool} (ha : EvE ρ h E da (.bl k)) (hb : k = false → EvE ρ h E db (.bl l)) : EvE ρ h E (vOr da db) (.bl (k || l)) := fun Q q => ha _ (by
  show if k = true then Q (.bl k) h else db ρ h Q E
  cases k with
  | true => rw [if_pos rfl]; exact q
  | false => rw [if_neg Bool.false_ne_true]; exact hb rfl Q q)
theorem f_inZ {h : Hv} {z : Str} {ns : List Str} : EvF h fIn (.str z) (.lst (ns.map .str)) (.bl (decide (z ∈ ns))) := fun Q q => by
  refine ⟨rfl, ?_, Qv q (by rw [inA_str])⟩
  rw [List.all_map, List.all_eq_true]
  intro x _
  rfl
theorem bo_is_none_or_land (N : List Str) (hN : N.length = 2) : ∀ as h Q E, as.length = 2 → S_is_none_or_land as h Q E → den_is_none_or_land (startA N as) h (endsR Q) (RX E) := by
  rintro as h Q E - ⟨b, o, rfl, l4, q⟩
  unfold den_is_none_or_land
  simp only [startA, hN]
  cases o with
  | none => exact s_ret (v := .bl true) (ev_vOr (k := true) (l := true) (ev_bin (ev_var (v := encO none)) ev_c fun Q q => q) fun z => nomatch z) (RT.same q)
  | some z => exact s_ret (v := .bl (decide (z ∈ b.names))) ((ev_vOr (k := false) (l := decide (z ∈ b.names)) (ev_bin (ev_var (v := encO (some z))) ev_c fun Q q => q) fun _ => (ev_vAnd (k := true) (l := decide (z ∈ b.names)) (ev_cb (eva2 (ev_var (v := .str z)) ev_c) fun Q q => ⟨by decide, q⟩) fun _ => ev_bin (ev_var (v := .str z)) (ev_call (eva1 (ev_var (v := encB b))) rfl fun Q q => ⟨b, rfl, l4, q⟩) f_inZ)).cast (by simp)) (RT.same q)
theorem f_neOO {h : Hv} {a b : Option Str} : EvF h fNe (encO a) (encO b) (.bl (!decide (a = b))) := fun Q q => by
  cases b with
  | some z => exact fNe_encO2 q
  | none =>
    cases a with
    | none => exact Qv q (by simp)
    | some z => exact Qv q (by simp)
end DL
namespace DL
open PySem PySem.Spec PyProof.Rows L2
end DL
namespace DL
open PySem PySem.Spec PyProof.Rows L2
section
variable {b : Book} {hp : Heap'} {z : Str}
end
end DL
namespace DL
open PySem PySem.Spec PyProof.Rows L2
section
variable {prog : Program} {w : World} {A : Around} {E : Value → Shared → Prop} {s : Shared}
end
end DL
namespace DL
open PySem PySem.Spec PyProof.Rows L2
section
variable {ρ : Sl} {h : Hv} {E : PX} {Q : PV} {da db : ED} {aa : AD} {f : F2}
theorem x_bin (q : da ρ h (fun v h1 => db ρ h1 (fun w h2 => f v w h2 Q) E) E) : dBin f da db ρ h Q E := q
theorem x_tup (q : aa ρ h (fun vs h1 => vs.length ≤ sizeLine ∧ Q (.tup vs) h1) E) : dTup aa ρ h Q E := q
end
theorem eqD_lnil' (L : List Int) : eqD (.lst (L.map .int)) (.lst []) = decide (L = []) := by
  cases L with
  | nil => rw [List.map_nil, eqD_refl (d := 1) (by decide +kernel)]; rfl
  | cons x L =>
    rw [decide_eq_false (by simp)]
    unfold eqD
    rw [dat, dats_ints, dat, dats]
    rfl
theorem f_neLnil {h : Hv} {L : List Int} (hl : L.length ≤ 1000) : EvF h fNe (.lst (L.map .int)) (.lst []) (.bl (!decide (L = []))) := fun Q q => fNe_dat (okN_lints hl 63) (okN_lints (xs := []) (by simp) 63) (by rw [eqD_lnil']; exact q)
end DL
namespace DL
open PySem PySem.Spec PyProof.Rows L2
end DL
namespace DL
open PySem PySem.Spec PyProof.Rows L2
end DL
namespace DL
open PySem PySem.Spec PyProof.Rows L2
section
variable {ρ : Sl} {h : Hv} {E : PX} {D : AE} {dl dx : ED} {s2 : SD}
theorem s_app {a : Addr} {vs : List Val} {w : Val} (ho : EvE ρ h E dl (.ref a)) (e : h a = some (.lst vs)) (hl : vs.length < sizeLine) (hx : EvE ρ h E dx w) (q : D.nx ρ (put h a (.lst (vs ++ [w])))) : sExpr (dBM "list" fAppend dl (aCons dx aNil)) ρ h D E := ho _ ⟨by simp only [tyA, e], eva1 hx _ (by simp only [fAppend, e]; exact ⟨hl, q⟩)⟩
theorem ss_app {a : Addr} {vs : List Val} {w : Val} (ho : EvE ρ h E dl (.ref a)) (e : h a = some (.lst vs)) (hl : vs.length < sizeLine) (hx : EvE ρ h E dx w) (q : s2 ρ (put h a (.lst (vs ++ [w]))) D E) : sSeq (sExpr (dBM "list" fAppend dl (aCons dx aNil))) s2 ρ h D E := s_seq (s_app ho e hl hx q)
end
end DL
namespace DL
open PySem PySem.Spec PyProof.Rows L2
section
variable {G : Gx} {ρ : Sl} {h : Hv} {E : PX} {da db dv : ED} {a : Addr} {b : Book} {s : St} {A : Ay} {n : Int}
theorem yi_book (t : h a = some (.ins (G.C "Yard") (ydF b A))) (ha : EvE ρ h E da (.ref a)) : EvE ρ h E (dFld (G.C "Yard") "book" da) (encB b) := ev_fld ha t (by unfold ydF; rfl)
theorem yi_state (t : h a = some (.ins (G.C "Yard") (ydF b A))) (ha : EvE ρ h E da (.ref a)) : EvE ρ h E (dFld (G.C "Yard") "state" da) (.ref A.st) := ev_fld ha t (by unfold ydF; rfl)
theorem yi_done (t : h a = some (.ins (G.C "Yard") (ydF b A))) (ha : EvE ρ h E da (.ref a)) : EvE ρ h E (dFld (G.C "Yard") "done" da) (.ref A.dn) := ev_fld ha t (by unfold ydF; rfl)
theorem so_fld {D : AE} {C : Addr} {f : Str} {v : Val} {fl : List (Str × Val)} (hv : EvE ρ h E dv v) (hd : EvE ρ h E da (.ref a)) (e : h a = some (.ins C fl)) (l : fl.length < 1000) (q : D.nx ρ (put h a (.ins C (putFA f v fl)))) : sFldA C f da dv ρ h D E := hv _ (x_fld hd e l q)
theorem so_fldH {D : AE} {C : Addr} {f : Str} {fl : List (Str × Val)} (hd : ∀ h1, EvE ρ h1 E da (.ref a)) (e : h a = some (.ins C fl)) (l : fl.length < 1000) (q : ∀ p, h p = none → D.nx ρ (put (put h p (.lst [])) a (.ins C (putFA f (.ref p) fl)))) : sFldA C f da (dLstH aNil) ρ h D E :=
  ⟨by rw [sizeLine_eq]; simp, fun p np => x_fld (hd _) (by rw [put_ne (fun z => by rw [← z, e] at np; cases np)]; exact e) l (q p np)⟩
theorem so_fldN {D : AE} {C C2 : Addr} {f : Str} {n : Nat} {fs : SpF} {aa : AD} {vs : List Val} (hd : ∀ h1, EvE ρ h1 E da (.ref a)) (ha : EvA ρ h E aa vs) (hn : vs.length + 1 = n)
    (q : ∀ p, h p = none → ∃ N : Hv → Prop, (∀ h2, N h2 → ∃ fl, h2 a = some (.ins C fl) ∧ fl.length < 1000 ∧ D.nx ρ (put h2 a (.ins C (putFA f (.ref p) fl)))) ∧ ∀ Q2 : PV, (∀ h2, N h2 → Q2 .non h2) → fs (.ref p :: vs) (put h p (.ins C2 [])) Q2 (fun nm pl h' => E nm pl ρ h')) : sFldA C f da (dNew C2 n fs aa) ρ h D E :=
  ha _ fun p np => ⟨hn, by
    obtain ⟨N, h1, h2⟩ := q p np
    refine h2 _ fun h2 hN => ⟨rfl, ?_⟩
    obtain ⟨fl, e, l, q⟩ := h1 h2 hN
    exact x_fld (hd _) e l q⟩
end
theorem bo_State___init__ (G : Gx) (N : List Str) (hN : N.length = 4) : ∀ as h Q E, as.length = 4 → S_State___init__ G as h Q E → den_State___init__ G (startA N as) h (endsR Q) (RX E) := by
  rintro as h Q E - ⟨a, h0, x, y, z, rfl, rfl, q⟩
  unfold den_State___init__
  simp only [startA, hN]
  refine ss_fld (v := x) ev_var ev_var put_same (by simp) ?_
  rw [put_put]
  refine ss_fld (v := y) (fl := [("things", x)]) ev_var ev_var put_same (by simp) ?_
  rw [put_put]
  refine so_fld (v := z) (fl := [("things", x), ("lying", y)]) ev_var ev_var put_same (by simp) ?_
  rw [put_put]
  exact ⟨_, Lss.refl _, q⟩
theorem bo_Yard_become (G : Gx) (N : List Str) (hN : N.length = 5) : ∀ as h Q E, as.length = 5 → S_Yard_become G as h Q E → den_Yard_become G (startA N as) h (endsR Q) (RX E) := by
  rintro as h Q E - ⟨a, b, s, s', A, ds, us, d, rfl, t, dl, q⟩
  unfold den_Yard_become
  simp only [startA, hN]
  have nda : A.dn ≠ a := fun z => by have := t.dn; rw [z, t.ins] at this; cases this
  refine ss_app (yi_done t.ins ev_var) t.dn (by rw [List.length_map, sizeLine_eq]; omega) (ev_tup (eva2 (ev_var (v := d)) (yi_state t.ins ev_var)) (by rw [sizeLine_eq]; simp)) ?_
  have e1 : put h A.dn (.lst (ds.map encDd ++ [.tup [d, .ref A.st]])) a = some (.ins (G.C "Yard") (ydF b A)) := by rw [put_ne nda.symm]; exact t.ins
  refine s_seq ?_
  refine so_fldH (a := a) (fun h1 => ev_var) e1 (by simp [ydF]) fun un nu => ?_
  have una : un ≠ a := fun z => by rw [z, e1] at nu; cases nu
  have und : un ≠ A.dn := fun z => by rw [z, put_same] at nu; cases nu
  dsimp only
  refine so_fldN (a := a) (vs := [.lst (s'.things.map encTh), .lst (s'.lying.map .int), .lst (s'.gone.map encG)]) (fun h1 => ev_var) (eva_cons ev_var (eva2 ev_var ev_var)) rfl fun st ns => ⟨fun h2 => h2 = put (put (put (put h A.dn (.lst (ds.map encDd ++ [.tup [d, .ref A.st]]))) un (.lst [])) a (.ins (G.C "Yard") [("book", encB b), ("state", .ref A.st), ("done", .ref A.dn), ("undone", .ref un)])) st (.ins (G.C "State") (stF s')), ?_, fun Q2 hQ => ⟨st, _, _, _, _, rfl, rfl, hQ _ rfl⟩⟩
  rintro h2 rfl
  have sta : st ≠ a := fun z => by rw [z, put_same] at ns; cases ns
  have stu : st ≠ un := fun z => by rw [z, put_ne una, put_same] at ns; cases ns
  have std : st ≠ A.dn := fun z => by rw [z, put_ne nda, put_ne und.symm, put_same] at ns; cases ns
  refine ⟨[("book", encB b), ("state", .ref A.st), ("done", .ref A.dn), ("undone", .ref un)], by rw [put_ne sta.symm]; exact put_same, by simp, ?_⟩
  refine ⟨_, Lss.refl _, q _ st un ?_ ?_ (by rwa [put_ne und] at nu)⟩
  · refine ⟨put_same, ?_, ?_, ?_, und.symm⟩
    · show put _ _ _ st = _
      rw [put_ne sta, put_same]
    · show put _ _ _ A.dn = _
      rw [put_ne nda, put_ne std.symm, put_ne nda, put_ne und.symm, put_same, List.map_append]; rfl
    · show put _ _ _ un = _
      rw [put_ne una, put_ne stu.symm, put_ne una, put_same]; rfl
  · refine ⟨fun c ca cd => ?_, fun c o n1 n2 hc => ?_⟩
    · rw [put_ne ca]
      by_cases c1 : c = st
      · rw [c1]; left
        rw [put_ne sta, put_ne stu, put_ne std] at ns; exact ns
      · rw [put_ne c1, put_ne ca]
        by_cases c2 : c = un
        · rw [c2]; left
          rw [put_ne und] at nu; exact nu
        · rw [put_ne c2, put_ne cd]; exact .inr rfl
    · by_cases ca : c = a
      · rw [ca, put_same] at hc; exact absurd (Option.some.inj hc).symm (n1 _ _)
      · rw [put_ne ca] at hc
        by_cases c1 : c = st
        · rw [c1, put_same] at hc; exact absurd (Option.some.inj hc).symm (n1 _ _)
        · rw [put_ne c1, put_ne ca] at hc
          by_cases c2 : c = un
          · rw [c2, put_same] at hc; exact absurd (Option.some.inj hc).symm (n2 _)
          · rw [put_ne c2] at hc
            by_cases cd : c = A.dn
            · rw [cd, put_same] at hc; exact absurd (Option.some.inj hc).symm (n2 _)
            · rw [put_ne cd] at hc; exact hc
theorem bo_Yard_look_worth (G : Gx) (N : List Str) (hN : N.length = 3) : ∀ as h Q E, as.length = 3 → S_Yard_look_worth G as h Q E → den_Yard_look_worth G (startA N as) h (endsR Q) (RX E) := by
  rintro as h Q E - ⟨a, b, A, w, l, rfl, t, n4, q⟩
  unfold den_Yard_look_worth
  simp only [startA, hN]
  have hn : EvE [some (.ref a), some (.int w), some (encO l)] h (RX E) (dCall 3 S_is_number (aCons (dVar 1) (aCons (dC (.int 1)) (aCons (dC (.int 9999)) aNil)))) (.bl (decide (1 ≤ w) && decide (w ≤ 9999))) := ev_call (eva_cons ev_var (eva2 ev_c ev_c)) rfl fun Q q => ⟨.int w, 1, 9999, rfl, rfl, q⟩
  have hl : EvE [some (.ref a), some (.int w), some (encO l)] h (RX E) (dCall 2 S_is_none_or_land (aCons (dFld (G.C "Yard") "book" (dVar 0)) (aCons (dVar 2) aNil))) (.bl (inNm b l)) := ev_call (eva2 (yi_book t ev_var) ev_var) rfl fun Q q => ⟨b, l, rfl, n4, q⟩
  unfold wRef at q
  by_cases c : 1 ≤ w ∧ w ≤ 9999
  · rw [if_neg (fun z => z c)] at q
    refine ss_no (evt_not (k := true) (evt_truthB (EvE.cast hn (by simp [c.1, c.2])))) ?_
    cases hk : inNm b l with
    | true =>
      rw [hk, if_pos rfl] at q
      refine so_no (evt_not (k := true) (evt_truthB (hk ▸ hl))) ?_
      rcases q with ⟨-, q⟩ | ⟨e, z, _⟩
      · exact ⟨_, Lss.refl _, q⟩
      · cases z
    | false =>
      rw [hk, if_neg Bool.false_ne_true] at q
      refine so_yes (evt_not (k := false) (evt_truthB (hk ▸ hl))) ?_
      rcases q with ⟨z, _⟩ | ⟨e, z, q⟩
      · cases z
      · cases z; exact ⟨h, Lss.refl h, q⟩
  · rw [if_pos c] at q
    refine ss_yes (evt_not (k := false) (evt_truthB (EvE.cast hn (by
      congr 1
      rw [Bool.eq_false_iff]
      intro z
      rw [Bool.and_eq_true, decide_eq_true_eq, decide_eq_true_eq] at z
      exact c z)))) ?_
    rcases q with ⟨z, _⟩ | ⟨e, z, q⟩
    · cases z
    · cases z; exact ⟨h, Lss.refl h, q⟩
end DL
namespace DL
open PySem PySem.Spec PyProof.Rows L2
section
variable {G : Gx} {ρ : Sl} {h : Hv} {E : PX} {da db d1 d2 d3 : ED} {a : Addr} {b : Book} {s : St} {A : Ay} {n : Int}
theorem y_notnum {v lo hi : Int} (e1 : EvE ρ h E d1 (.int v)) (e2 : EvE ρ h E d2 (.int lo)) (e3 : EvE ρ h E d3 (.int hi)) : EvT ρ h E (dNot (dTruth (dCall 3 S_is_number (aCons d1 (aCons d2 (aCons d3 aNil)))))) (!(decide (lo ≤ v) && decide (v ≤ hi))) :=
  evt_not (evt_truthB (ev_call (eva_cons e1 (eva2 e2 e3)) rfl fun Q q => ⟨_, _, _, rfl, rfl, q⟩))
theorem y_isnum {v lo hi : Int} (e1 : EvE ρ h E d1 (.int v)) (e2 : EvE ρ h E d2 (.int lo)) (e3 : EvE ρ h E d3 (.int hi)) : EvE ρ h E (dCall 3 S_is_number (aCons d1 (aCons d2 (aCons d3 aNil)))) (.bl (decide (lo ≤ v) && decide (v ≤ hi))) :=
  ev_call (eva_cons e1 (eva2 e2 e3)) rfl fun Q q => ⟨_, _, _, rfl, rfl, q⟩
theorem c_lenL {xs : List Val} : EvC h fLen [.lst xs] (.int (xs.length : Int)) := c_len (n := xs.length) (by simp [lenA])
theorem y_len (t : StAt G h a s) (ha : EvE ρ h E da (.ref a)) : EvE ρ h E (dCB fLen (aCons (dFld (G.C "State") "things" da) aNil)) (.int (s.things.length : Int)) := (ev_cb (eva1 (y_things t ha)) c_lenL).cast (by rw [List.length_map])
theorem y_last (t : StAt G h a s) (ha : EvE ρ h E da (.ref a)) : EvE ρ h E (dBin fSub (dCB fLen (aCons (dFld (G.C "State") "things" da) aNil)) (dC (.int 1))) (.int ((s.things.length : Int) - 1)) := ev_bin (y_len t ha) ev_c (f_sub _ _)
theorem f_neOZ {o : Option Str} {z : Str} : EvF h fNe (encO o) (.str z) (.bl (!decide (o = some z))) := f_neOO (b := some z)
theorem c_sortY {xs : List Int} : EvC h fSorted [.lst (xs.map .int)] (.lst ((sortI xs).map .int)) := fun Q q => by
  unfold fSorted
  simp only [listOf, Option.bind_some, intsOf_map']
  exact q
theorem ev_tupleL {xs : List Val} {d : ED} (hd : EvE ρ h E d (.lst xs)) : EvE ρ h E (dCB fTuple (aCons d aNil)) (.tup xs) := ev_cb (eva1 hd) fun Q q => q
theorem rng_iff {n : Int} {m : Nat} : (decide (0 ≤ n) && decide (n ≤ (m : Int) - 1)) = decide (0 ≤ n ∧ n < (m : Int)) := by
  rw [Bool.eq_iff_iff, Bool.and_eq_true, decide_eq_true_eq, decide_eq_true_eq, decide_eq_true_eq]
  omega
end
theorem bo_Yard_look_thing (G : Gx) (N : List Str) (hN : N.length = 2) : ∀ as h Q E, as.length = 2 → S_Yard_look_thing G as h Q E → den_Yard_look_thing G (startA N as) h (endsR Q) (RX E) := by
  rintro as h Q E - ⟨a, b, s, A, n, rfl, t, st, l60, q⟩
  unfold den_Yard_look_thing
  simp only [startA, hN]
  have hn := (y_notnum (ρ := [some (.ref a), some (.int n)]) (h := h) (E := RX E) (d1 := dVar 1) (d2 := dC (.int 0)) ev_var ev_c (y_last st (yi_state t (ev_var (i := 0) (v := .ref a))))).cast (congrArg _ rng_iff)
  rcases q with ⟨h0, h1, q⟩ | ⟨c, q⟩
  · rw [decide_eq_true (show 0 ≤ n ∧ n < (s.things.length : Int) from ⟨h0, h1⟩)] at hn
    exact so_no hn ⟨_, Lss.refl _, q⟩
  · rw [decide_eq_false c] at hn
    exact so_yes hn ⟨_, Lss.refl _, q⟩
theorem bo_Yard_here (G : Gx) (N : List Str) (hN : N.length = 1) : ∀ as h Q E, as.length = 1 → S_Yard_here G as h Q E → den_Yard_here G (startA N as) h (endsR Q) (RX E) := by
  rintro as h Q E - ⟨a, b, s, A, ds, us, rfl, t, l60, q⟩
  unfold den_Yard_here
  simp only [startA, hN]
  exact s_ret (ev_tupleL (y_lying t.st (yi_state t.ins (ev_var (v := .ref a))))) (RT.same q)
theorem bo_Yard_tree (G : Gx) (N : List Str) (hN : N.length = 2) : ∀ as h Q E, as.length = 2 → S_Yard_tree G as h Q E → den_Yard_tree G (startA N as) h (endsR Q) (RX E) := by
  rintro as h Q E - ⟨a, b, s, A, ds, us, n, rfl, t, wy, hd, q⟩
  unfold den_Yard_tree
  simp only [startA, hN]
  refine s_seq (e_meth (ev_var (v := .ref a)) t.ins rfl (eva1 (ev_var (v := .int n))) rfl ⟨a, b, s, A, n, rfl, t.ins, t.st, wy.t.n, ?_⟩)
  rcases q with ⟨h0, h1, q⟩ | ⟨c, q⟩
  · refine .inl ⟨h0, h1, ?_⟩
    dsimp only
    exact s_ret (e_methE (yi_state t.ins (ev_var (v := .ref a))) t.st rfl (eva1 (ev_var (v := .int n))) rfl fun Q q => ⟨A.st, b, s, n, rfl, t.st, wy.t, h0, h1, hd, q⟩) (RT.same q)
  · exact .inr ⟨c, _, Lss.refl _, q⟩
theorem bo_Yard_counts (G : Gx) (N : List Str) (hN : N.length = 2) : ∀ as h Q E, as.length = 2 → S_Yard_counts G as h Q E → den_Yard_counts G (startA N as) h (endsR Q) (RX E) := by
  rintro as h Q E - ⟨a, b, s, A, ds, us, n, rfl, t, wf, wy, hd, q⟩
  unfold den_Yard_counts
  simp only [startA, hN]
  refine s_seq (e_meth (ev_var (v := .ref a)) t.ins rfl (eva1 (ev_var (v := .int n))) rfl ⟨a, b, s, A, n, rfl, t.ins, t.st, wy.t.n, ?_⟩)
  rcases q with ⟨h0, h1, q⟩ | ⟨c, q⟩
  · refine .inl ⟨h0, h1, ?_⟩
    dsimp only
    exact s_ret (e_methE (yi_state t.ins (ev_var (v := .ref a))) t.st rfl (eva2 (yi_book t.ins (ev_var (v := .ref a))) (ev_var (v := .int n))) rfl fun Q q => ⟨A.st, b, s, n, rfl, t.st, wf, wy.t, h0, h1, hd, by omega, q⟩) (RT.same q)
  · exact .inr ⟨c, _, Lss.refl _, q⟩
theorem bo_Yard_deeds (G : Gx) (N : List Str) (hN : N.length = 3) : ∀ as h Q E, as.length = 1 → S_Yard_deeds G as h Q E → den_Yard_deeds G (startA N as) h (endsR Q) (RX E) := by
  rintro as h Q E - ⟨a, b, s, A, ds, us, rfl, t, dl, q⟩
  unfold den_Yard_deeds
  simp only [startA, hN]
  refine s_ret (ev_tupleL (ev_lc ds encDd (·.1) (ok := fun h' => h' A.dn = some (.lst (ds.map encDd))) (evi_it (yi_done t.ins (ev_var (v := .ref a))) (by unfold iterOf; simp only [t.dn])) (fun h' sb => sb _ _ t.dn) (by rw [sizeLine_eq]; omega) fun x hx => ⟨_, rfl, fun h' sb => ev_var⟩)) (RT.same q)
theorem bo_Yard_false_ones (G : Gx) (N : List Str) (hN : N.length = 3) : ∀ as h Q E, as.length = 1 → S_Yard_false_ones G as h Q E → den_Yard_false_ones G (startA N as) h (endsR Q) (RX E) := by
  rintro as h Q E - ⟨a, b, s, A, ds, us, rfl, t, wf, wy, hd, q⟩
  unfold den_Yard_false_ones
  simp only [startA, hN]
  have ev : EvE [some (.ref a), none, none] h (RX E) (dLc (dIt (dFld (G.C "State") "gone" (dFld (G.C "Yard") "state" (dVar 0)))) (.tp [(.nm 1), (.nm 2)]) (dTest (dBin fNe (dMeth (G.C "State") "counted" 3 (S_State_counted G) (dFld (G.C "Yard") "state" (dVar 0)) (aCons (dFld (G.C "Yard") "book" (dVar 0)) (aCons (dVar 1) aNil))) (dVar 2))) (dVar 1) [1, 2]) (.lst (((s.gone.filter fun p => decide ((treeY s.things p.1).land b (hpY s.things) ≠ some p.2)).map (·.1)).map .int)) := by
    refine EvE.cast (ev_lcF s.gone encG (fun p => decide ((treeY s.things p.1).land b (hpY s.things) ≠ some p.2)) (fun p => .int p.1) (evi_it (y_gone t.st (yi_state t.ins (ev_var (v := .ref a)))) rfl) (fun _ _ => trivial) (by have := wy.gl; rw [sizeLine_eq]; omega) fun p hp => ⟨[some (.ref a), some (.int p.1), some (.str p.2)], rfl, fun h' sb => ?_, fun _ h' sb => ev_var⟩) (by rw [List.map_map]; rfl)
    have t1 := sb _ _ t.ins
    have t2 : StAt G h' A.st s := sb _ _ t.st
    obtain ⟨p0, p1⟩ := wy.gr p hp
    refine (evt_test (ev_bin (e_methE (yi_state t1 (ev_var (v := .ref a))) t2 rfl (eva2 (yi_book t1 (ev_var (v := .ref a))) (ev_var (v := .int p.1))) rfl fun Q q => ⟨A.st, b, s, p.1, rfl, t2, wf, wy.t, p0, p1, hd p hp, by omega, q⟩) (ev_var (v := .str p.2)) f_neOZ)).cast ?_
    by_cases c : (treeY s.things p.1).land b (hpY s.things) = some p.2 <;> simp [c]
  exact s_ret (ev_tupleL (ev_cb (eva1 ev) c_sortY)) (RT.same q)
end DL
namespace DL
open PySem PySem.Spec PyProof.Rows L2
theorem len_own {prog : Program} {w : World} {A : Around} {E : Value → Shared → Prop} {s : Shared} {K : PySem.W.Frag} {x C f : Addr} {ox : Obj} {od : Option Obj} {Q : Value → Shared → Prop} (X : K.In s.heap) (I : PySem.W.InstAt s.heap x ox C od) (hs : PySem.W.findIn K (.ref C) "__len__" = some (some (.ref f))) (hf : PySem.W.isFn K (.ref f) = true)
    (h : wpAny (model prog w) A.in1 (call (.ref f) [.ref x]) (PySem.W.LenBack Q) E s) : wpAny (model prog w) A (call (.builtin "len") [.ref x]) Q E s := by
  refine Calls.call_function_entry kind_len plain_len entry_len (args_len1 _) ?_
  unfold Builtin.«len»
  refine wpAny_bind (m := oneArg "len" _) (wpAny_pure ?_)
  refine wpAny_bind (m := callSpecial? (.ref x) (Str.ofString "__len__")) (PySem.W.special_fn X I hs (beq_iff_eq.mp hf) (wpAny_mono h (fun r s' hr => ?_) fun _ _ y => y))
  cases r <;> first | exact hr.elim | skip
  rename_i n u
  obtain ⟨⟨h0, h1⟩, hq⟩ := hr
  refine wpAny_bind (wpAny_holding (wpAny_pure ?_))
  refine wpAny_bind (wpAny_letGo ?_)
  show wpAny _ _ (if n < 0 then _ else _) _ _ _
  rw [if_neg (by omega)]
  show wpAny _ _ (if n ≥ 2 ^ 63 then _ else _) _ _ _
  rw [if_neg (by omega)]
  exact wpAny_bind (wpAny_mkInt (wpAny_pure ⟨_, rfl, hq⟩))
def LenF (P : Program) (w : World) (K : PySem.W.Frag) (mg : Str → Option Value) (base : Heap) (A : Around) (C : Addr) (fs : SpF) : Prop :=
  ∃ (k : Nat) (f : Addr) (fd : FuncData) (ps : List Str), FnOk P w K mg base (L2.CX P w) k f fd ps (spA K mg 1 fs) ∧ Room (k + 1) A ∧ PySem.W.findIn K (.ref C) "__len__" = some (some (.ref f)) ∧ PySem.W.isFn K (.ref f) = true ∧ L2.Binds K fd ps []
theorem MtR.len {P : Program} {w : World} {K : PySem.W.Frag} {mg : Str → Option Value} {base : Heap} {k j : Nat} {C : Addr} {fs : SpF} {A : Around} (F : MtR P w K mg base k C "__len__" 1 fs) (hr : Room j A) (h : k + 1 ≤ j := by decide) : LenF P w K mg base A C fs :=
  let ⟨f, fd, ps, a, b, c⟩ := F; ⟨k, f, fd, ps, a, hr.mono h, b.at_, b.fn, c⟩
def rLenO (K : PySem.W.Frag) (mg : Str → Option Value) (C : Addr) (fs : SpF) : List V → Hp → VK → Prop := fun xs H Q => ∃ a dx fl, xs = [V.ref a] ∧ H a = some (.ins C dx fl) ∧ spA K mg 1 fs [.ref a] H (fun z H' => ∃ i : Int, z = .int i ∧ 0 ≤ i ∧ i < 2 ^ 62 ∧ Q z H') (fun _ _ _ => False)
theorem call_lenO {X : Cx} {C : Addr} {fs : SpF} (F : LenF X.prog X.w X.K X.mg X.base X.A C fs) : CallR X (.builtin "len") (rLenO X.K X.mg C fs) := by
  obtain ⟨k, f, fd, ps, G, hr, hs, hf, hb⟩ := F
  intro pins s σ H xs us Q I r h
  obtain ⟨a, dx, fl, rfl, e, q⟩ := h
  obtain ⟨u, rfl, ru⟩ := r.one
  cases (show u = Value.ref a from ru)
  obtain ⟨mA, O, _, _, _, _⟩ := ins_get I.hok e
  obtain ⟨od, J, _⟩ := O.look
  have r1 : Vals [V.ref a] [Value.ref a] := .cons rfl .nil
  have hl : ([Value.ref a] ++ []).length = ps.length := by
    have e := G.len _ _ _ _ q
    simpa using e
  have b := hb _ [Value.ref a] I.kIn hl
  rw [List.append_nil] at b
  refine len_own I.kIn J hs hf (wpAny_mono (wpAny_call (Q := EP X pins σ fun z H' => ∃ i : Int, z = .int i ∧ 0 ≤ i ∧ i < 2 ^ 62 ∧ Q z H') (E := X.xe) (codeAny_mono (G.run _ X.stack _ _ ⟨[Value.ref a], []⟩ [Value.ref a] _ _ (fun _ _ _ => False) (Room.in1 hr) I.env0.in1 b r1 q) fun r s' hq => ?_)) (fun w s' z => ?_) fun _ _ x => x)
  · cases r with
    | error e =>
      obtain ⟨_, _, _, _, _, _, _, _, _, _, _, _, hE⟩ := hq
      exact hE.elim
    | ok fl =>
      cases fl with
      | ret u => exact I.after hq
      | next => exact False.elim hq
      | brk => exact False.elim hq
      | cont => exact False.elim hq
  · obtain ⟨z', H', I', rz, i, ei, i0, i1, qz⟩ := z
    subst ei
    obtain ⟨t, e⟩ := (show ∃ t, w = Value.int i t from rz)
    cases e
    exact ⟨⟨i0, by omega⟩, .int i, H', I'.tok _, ⟨_, rfl⟩, qz⟩
def fLenO (C : Addr) (fs : SpF) : FA := fun vs h Q => match vs with
  | [.ref a] => (match h a with
    | some (.ins C' fl) => C' = C ∧ fs [.ref a] h (fun v h2 => ∃ i : Int, v = .int i ∧ 0 ≤ i ∧ i < 2 ^ 62 ∧ Q v h2) (fun _ _ _ => False)
    | _ => False)
  | _ => False
theorem cl_lenO {K : PySem.W.Frag} {mg : Str → Option Value} {C : Addr} {fs : SpF} : CaL K (fLenO C fs) (rLenO K mg C fs) := fun vs xs h H Q' Q r rs q c => by
  unfold fLenO at q
  split at q
  · rename_i a
    obtain ⟨x, ys, e, rv, r2⟩ := (show ∃ y ys, xs = y :: ys ∧ RV K H h (.ref a) y ∧ RVs K H h [] ys by rw [RVs] at rs; exact rs)
    rw [RV] at rv
    rw [RVs] at r2
    subst rv r2
    split at q
    · rename_i C' fl hfl
      obtain ⟨rfl, q⟩ := q
      obtain ⟨dx, fl2, e1, e2, n2, _⟩ := r a _ hfl
      refine ⟨a, dx, fl2, e, e1, [.ref a], h, _, _, RVs.cons (by rw [RV]) RVs.nil, r, rfl, q, fun v h2 x H2 q2 st rv2 r2 => ?_, fun nm pl h' cls d H' hE _ _ _ _ => hE.elim⟩
      obtain ⟨i, rfl, i0, i1, q2⟩ := q2
      have rv3 := rv2
      rw [RV] at rv3
      exact ⟨i, rv3, i0, i1, c _ _ _ _ q2 st rv2 r2⟩
    · exact q.elim
  · exact q.elim
end DL
namespace DL
open PySem PySem.Spec PyProof.Rows L2
def den_State_holds (G : Gx) (R : SpF) : SD := (sSeq (sSet 3 (dBin fIx (dBin fIx (dFld (G.C "State") "things" (dVar 0)) (dVar 1)) (dC (.int 1)))) (sRet (vAnd (dCB fIsi (aCons (dVar 3) (aCons (dC (.ty "list")) aNil))) (dCB fAny (aCons (dLc (dIt (dVar 3)) (.nm 4) tTrue (vOr (dBin fEq (dVar 4) (dVar 2)) (dMeth (G.C "State") "holds" 3 R (dVar 0) (aCons (dVar 4) (aCons (dVar 2) aNil)))) [4]) aNil)))))
def den_Yard_find (G : Gx) : SD := (sSeq (sExpr (dMeth (G.C "Yard") "look_thing" 2 (S_Yard_look_thing G) (dVar 0) (aCons (dVar 1) aNil))) (sSeq (sSet 4 (dFld (G.C "Yard") "state" (dVar 0))) (sSeq (sIf (dTruth (dCB fIsi (aCons (dBin fIx (dBin fIx (dFld (G.C "State") "things" (dVar 4)) (dVar 1)) (dC (.int 1))) (aCons (dC (.ty "list")) aNil)))) (sRaise "NoThing") sNext) (sSeq (sExpr (dMeth (G.C "Yard") "look_worth" 3 (S_Yard_look_worth G) (dVar 0) (aCons (dVar 2) (aCons (dVar 3) aNil)))) (sSeq (sSet 5 (dBin fAdd (dBin fAdd (dSl fSl (dFld (G.C "State") "things" (dVar 4)) oNone (oSome (dVar 1))) (dLst (aCons (dTup (aCons (dVar 2) (aCons (dVar 3) aNil))) aNil))) (dSl fSl (dFld (G.C "State") "things" (dVar 4)) (oSome (dBin fAdd (dVar 1) (dC (.int 1)))) oNone))) (sExpr (dMeth (G.C "Yard") "become" 5 (S_Yard_become G) (dVar 0) (aCons (dTup (aCons (dC (.str "find")) (aCons (dTup (aCons (dVar 1) (aCons (dVar 2) (aCons (dVar 3) aNil)))) aNil))) (aCons (dVar 5) (aCons (dFld (G.C "State") "lying" (dVar 4)) (aCons (dFld (G.C "State") "gone" (dVar 4)) aNil)))))))))))
def den_Yard_sent (G : Gx) : SD := (sRet (dCB fTuple (aCons (dFld (G.C "State") "gone" (dFld (G.C "Yard") "state" (dVar 0))) aNil)))
def den_Yard_worth (G : Gx) : SD := (sSeq (sExpr (dMeth (G.C "Yard") "look_thing" 2 (S_Yard_look_thing G) (dVar 0) (aCons (dVar 1) aNil))) (sRet (dMeth (G.C "State") "worth" 2 (S_State_worth G) (dFld (G.C "Yard") "state" (dVar 0)) (aCons (dVar 1) aNil))))
def den_Yard___len__ (G : Gx) : SD := (sRet (dCB fLen (aCons (dFld (G.C "State") "lying" (dFld (G.C "Yard") "state" (dVar 0))) aNil)))
def den_Yard_holders (G : Gx) : SD := (sSeq (sExpr (dMeth (G.C "Yard") "look_thing" 2 (S_Yard_look_thing G) (dVar 0) (aCons (dVar 1) aNil))) (sRet (dCB fTuple (aCons (dLc (dIt (dListRange (dCB fLen (aCons (dFld (G.C "State") "things" (dFld (G.C "Yard") "state" (dVar 0))) aNil)))) (.nm 2) (dTruth (dMeth (G.C "State") "holds" 3 (S_State_holds G) (dFld (G.C "Yard") "state" (dVar 0)) (aCons (dVar 2) (aCons (dVar 1) aNil)))) (dVar 2) [2]) aNil))))
end DL
namespace DL
open PySem PySem.Spec PyProof.Rows L2
section
variable {b : Book} {ts : List Th} {t n : Int}
theorem holdsY_fuel (w : WFT b ts) : ∀ (k : Nat) (n : Int), n.toNat < k → holdsY ts t k n = holdsY ts t (n.toNat + 1) n := by
  intro k
  induction k using Nat.strongRecOn with
  | ind k ih =>
    intro n hn
    cases k with
    | zero => exact absurd hn (Nat.not_lt_zero _)
    | succ k =>
      unfold holdsY
      cases e : ts[n.toNat]? with
      | none => rfl
      | some th =>
        cases th with
        | raw v l => rfl
        | made z xs =>
          obtain ⟨-, -, -, hx⟩ := w.made _ z xs e
          have : ∀ x ∈ xs, (decide (x = t) || holdsY ts t k x) = (decide (x = t) || holdsY ts t n.toNat x) := fun x hxm => by
            obtain ⟨h0, h1⟩ := hx x hxm
            rw [ih k (Nat.lt_succ_self _) x (by omega)]
            by_cases hk2 : n.toNat = k
            · rw [hk2, ih k (Nat.lt_succ_self _) x (by omega)]
            · rw [ih n.toNat (by omega) x (by omega)]
          show xs.any _ = xs.any _
          rw [Bool.eq_iff_iff, List.any_eq_true, List.any_eq_true]
          exact ⟨fun ⟨x, h1, h2⟩ => ⟨x, h1, by rw [← this x h1]; exact h2⟩, fun ⟨x, h1, h2⟩ => ⟨x, h1, by rw [this x h1]; exact h2⟩⟩
theorem holdY_made (w : WFT b ts) {z : Str} {xs : List Int} (e : ts[n.toNat]? = some (.made z xs)) : holdY ts t n = xs.any fun x => decide (x = t) || holdY ts t x := by
  unfold holdY
  rw [holdsY, e]
  obtain ⟨-, -, -, hx⟩ := w.made _ z xs e
  have : ∀ x ∈ xs, (decide (x = t) || holdsY ts t n.toNat x) = (decide (x = t) || holdsY ts t (x.toNat + 1) x) := fun x hxm => by
    obtain ⟨h0, h1⟩ := hx x hxm
    rw [holdsY_fuel w n.toNat x (by omega)]
  show xs.any _ = xs.any _
  rw [Bool.eq_iff_iff, List.any_eq_true, List.any_eq_true]
  exact ⟨fun ⟨x, h1, h2⟩ => ⟨x, h1, by rw [← this x h1]; exact h2⟩, fun ⟨x, h1, h2⟩ => ⟨x, h1, by rw [this x h1]; exact h2⟩⟩
theorem holdY_raw {v : Int} {l : Option Str} (e : ts[n.toNat]? = some (.raw v l)) : holdY ts t n = false := by
  unfold holdY
  rw [holdsY, e]
end
theorem ev_vOrY {ρ : Sl} {h : Hv} {E : PX} {da db : ED} {k l : Bool} (ha : EvE ρ h E da (.bl k)) (hb : k = false → EvE ρ h E db (.bl l)) : EvE ρ h E (vOr da db) (.bl (k || l)) := fun Q q => ha _ (by
  show if k = true then Q (.bl k) h else db ρ h Q E
  cases k with
  | true => rw [if_pos rfl]; exact q
  | false => rw [if_neg Bool.false_ne_true]; exact hb rfl Q q)
theorem f_eqIY {h : Hv} {i j : Int} : EvF h fEq (.int i) (.int j) (.bl (decide (i = j))) := fun Q q => q
theorem bo_State_holds (G : Gx) (N : List Str) (hN : N.length = 5) (d : Nat) : ∀ as h Q E, as.length = 3 → SR_State_holds G (d + 1) as h Q E → den_State_holds G (SR_State_holds G d) (startA N as) h (endsR Q) (RX E) := by
  rintro as h Q E - ⟨a, b, s, n, u, rfl, t, w, h0, h1, hd, q⟩
  unfold den_State_holds
  simp only [startA, hN]
  obtain ⟨th, e⟩ := th_get h0 h1
  change Q (.bl (holdY s.things u n)) h at q
  refine ss_set (v := match th with | .raw w l => encO l | .made z xs => .lst (xs.map .int)) (ev_bin (y_thing t ev_var ev_var h0 e) ev_c (f_ixI (i := 1) (vs := match th with | .raw w l => [.int w, encO l] | .made z xs => [.str z, .lst (xs.map .int)]) (by cases th <;> rfl) (by decide) (by cases th <;> rfl))) ?_
  cases th with
  | raw v l =>
    rw [holdY_raw e] at q
    exact s_ret (v := .bl false) (ev_vAnd (k := false) (l := false) (ev_cb (eva2 (ev_var (v := encO l)) ev_c) c_isO) fun z => nomatch z) (RT.same q)
  | made z xs =>
    rw [holdY_made w e] at q
    rw [treeY_made w e] at hd
    obtain ⟨-, -, xl, hx⟩ := w.made _ z xs e
    have hts := ht_part hd
    refine s_ret (v := .bl (xs.any fun x => decide (x = u) || holdY s.things u x)) ((ev_vAnd (k := true) (ev_cb (eva2 (ev_var (v := .lst (xs.map .int))) ev_c) c_isL) fun _ => ?_).cast (by rw [Bool.true_and])) (RT.same q)
    refine ev_any xs .int (fun x => decide (x = u) || holdY s.things u x) (evi_it (v := .lst (xs.map .int)) ev_var rfl) (fun _ _ => trivial) (by rw [sizeLine_eq]; omega) fun x hxm => ⟨_, rfl, fun h' sb => ?_⟩
    have t' : StAt G h' a s := sb a _ t
    obtain ⟨x0, x1⟩ := hx x hxm
    exact ev_vOrY (ev_bin (ev_var (v := .int x)) (ev_var (v := .int u)) f_eqIY) fun _ => e_methE (ev_var (v := .ref a)) t' rfl (eva2 (ev_var (v := .int x)) (ev_var (v := .int u))) rfl fun Q q => ⟨a, b, s, x, u, rfl, t', w, x0, by omega, hts x hxm, q⟩
theorem bo_Yard_sent (G : Gx) (N : List Str) (hN : N.length = 1) : ∀ as h Q E, as.length = 1 → S_Yard_sent G as h Q E → den_Yard_sent G (startA N as) h (endsR Q) (RX E) := by
  rintro as h Q E - ⟨a, b, s, A, ds, us, rfl, t, q⟩
  unfold den_Yard_sent
  simp only [startA, hN]
  exact s_ret (ev_tupleL (y_gone t.st (yi_state t.ins (ev_var (v := .ref a))))) (RT.same q)
theorem bo_Yard___len__ (G : Gx) (N : List Str) (hN : N.length = 1) : ∀ as h Q E, as.length = 1 → S_Yard___len__ G as h Q E → den_Yard___len__ G (startA N as) h (endsR Q) (RX E) := by
  rintro as h Q E - ⟨a, b, s, A, ds, us, rfl, t, q⟩
  unfold den_Yard___len__
  simp only [startA, hN]
  exact s_ret ((ev_cb (eva1 (y_lying t.st (yi_state t.ins (ev_var (v := .ref a))))) c_lenL).cast (by rw [List.length_map])) (RT.same q)
theorem bo_Yard_worth (G : Gx) (N : List Str) (hN : N.length = 2) : ∀ as h Q E, as.length = 2 → S_Yard_worth G as h Q E → den_Yard_worth G (startA N as) h (endsR Q) (RX E) := by
  rintro as h Q E - ⟨a, b, s, A, ds, us, n, rfl, t, wy, hd, q⟩
  unfold den_Yard_worth
  simp only [startA, hN]
  refine s_seq (e_meth (ev_var (v := .ref a)) t.ins rfl (eva1 (ev_var (v := .int n))) rfl ⟨a, b, s, A, n, rfl, t.ins, t.st, wy.t.n, ?_⟩)
  rcases q with ⟨h0, h1, q⟩ | ⟨c, q⟩
  · refine .inl ⟨h0, h1, ?_⟩
    dsimp only
    exact s_ret (e_methE (yi_state t.ins (ev_var (v := .ref a))) t.st rfl (eva1 (ev_var (v := .int n))) rfl fun Q q => ⟨A.st, b, s, n, rfl, t.st, wy.t, h0, h1, hd, q⟩) (RT.same q)
  · exact .inr ⟨c, _, Lss.refl _, q⟩
theorem bo_Yard_holders (G : Gx) (N : List Str) (hN : N.length = 3) : ∀ as h Q E, as.length = 2 → S_Yard_holders G as h Q E → den_Yard_holders G (startA N as) h (endsR Q) (RX E) := by
  rintro as h Q E - ⟨a, b, s, A, ds, us, n, rfl, t, wy, hd, q⟩
  unfold den_Yard_holders
  simp only [startA, hN]
  have n60 := wy.t.n
  refine s_seq (e_meth (ev_var (v := .ref a)) t.ins rfl (eva1 (ev_var (v := .int n))) rfl ⟨a, b, s, A, n, rfl, t.ins, t.st, wy.t.n, ?_⟩)
  rcases q with ⟨h0, h1, q⟩ | ⟨c, q⟩
  · refine .inl ⟨h0, h1, ?_⟩
    dsimp only
    refine s_ret (ev_tupleL (EvE.cast (ev_lcF ((List.range s.things.length).map fun (i : Nat) => (i : Int)) .int (fun i => holdY s.things n i) .int (ok := fun _ => True) (evi_it (v := .lst (((List.range s.things.length).map fun (i : Nat) => (i : Int)).map .int)) (fun Q q => (y_len t.st (yi_state t.ins (ev_var (v := .ref a)))) _ ⟨by omega, by omega, by rw [Int.toNat_natCast]; exact q⟩) rfl) (fun _ _ => trivial) (by rw [List.length_map, List.length_range, sizeLine_eq]; omega) fun i hi => ⟨_, rfl, fun h' sb => ?_, fun _ h' sb => ev_var⟩) rfl)) (RT.same q)
    obtain ⟨j, hj, rfl⟩ := List.mem_map.mp hi
    have hj := List.mem_range.mp hj
    have t1 := sb _ _ t.ins
    have t2 : StAt G h' A.st s := sb _ _ t.st
    exact evt_truthB (e_methE (yi_state t1 (ev_var (v := .ref a))) t2 rfl (eva2 (ev_var (v := .int (j : Int))) (ev_var (v := .int n))) rfl fun Q q => ⟨A.st, b, s, _, n, rfl, t2, wy.t, by omega, by omega, hd j hj, q⟩)
  · exact .inr ⟨c, _, Lss.refl _, q⟩
end DL
namespace DL
open PySem PySem.Spec PyProof.Rows L2
theorem bo_Yard___init__ (G : Gx) (N : List Str) (hN : N.length = 2) : ∀ as h Q E, as.length = 2 → S_Yard___init__ G as h Q E → den_Yard___init__ G (startA N as) h (endsR Q) (RX E) := by
  rintro as h Q E - ⟨a, h0, v, rfl, na, rfl, q⟩
  unfold den_Yard___init__
  simp only [startA, hN]
  have eb : okD v = true → EvE [some (.ref a), some v] (put h0 a (.ins (G.C "Yard") [])) (RX E) (dCall 1 S_is_book (aCons (dVar 1) aNil)) (.bl (isBook v)) := fun ok => ev_call (eva1 ev_var) rfl fun Q q => ⟨v, rfl, ok, q⟩
  rcases q with ⟨b, rfl, bk, ok, q⟩ | ⟨ok, bk, q⟩
  · refine ss_no (evt_not (k := true) (evt_truthB (bk ▸ eb ok))) ?_
    refine ss_fld (v := encB b) (fl := []) (ev_var (v := encB b)) (ev_var (v := .ref a)) put_same (by simp) ?_
    rw [put_put]
    refine s_seq ?_
    refine so_fldN (a := a) (vs := [.lst [], .lst [], .lst []]) (fun h1 => ev_var) (eva_cons (ev_lst eva_nil (by rw [sizeLine_eq]; simp)) (eva2 (ev_lst eva_nil (by rw [sizeLine_eq]; simp)) (ev_lst eva_nil (by rw [sizeLine_eq]; simp)))) rfl fun st ns => ⟨fun h2 => h2 = put (put h0 a (.ins (G.C "Yard") [("book", encB b)])) st (.ins (G.C "State") (stF ⟨[], [], []⟩)), ?_, fun Q2 hQ => ⟨st, _, _, _, _, rfl, rfl, hQ _ rfl⟩⟩
    rintro h2 rfl
    have sta : st ≠ a := fun z => by rw [z, put_same] at ns; cases ns
    have ns0 : h0 st = none := by rw [put_ne sta] at ns; exact ns
    refine ⟨[("book", encB b)], by rw [put_ne sta.symm]; exact put_same, by simp, ?_⟩
    dsimp only
    refine s_seq ?_
    refine so_fldH (a := a) (fl := [("book", encB b), ("state", .ref st)]) (fun h1 => ev_var) put_same (by simp) fun dn nd => ?_
    have dna : dn ≠ a := fun z => by rw [z, put_same] at nd; cases nd
    have dns : dn ≠ st := fun z => by rw [z, put_ne sta, put_same] at nd; cases nd
    have nd0 : h0 dn = none := by rw [put_ne dna, put_ne dns, put_ne dna] at nd; exact nd
    dsimp only
    refine so_fldH (a := a) (fl := [("book", encB b), ("state", .ref st), ("done", .ref dn)]) (fun h1 => ev_var) put_same (by simp) fun un nu => ?_
    have una : un ≠ a := fun z => by rw [z, put_same] at nu; cases nu
    have und : un ≠ dn := fun z => by rw [z, put_ne dna, put_same] at nu; cases nu
    have uns : un ≠ st := fun z => by rw [z, put_ne sta, put_ne dns.symm, put_ne sta, put_same] at nu; cases nu
    have nu0 : h0 un = none := by rw [put_ne una, put_ne und, put_ne una, put_ne uns, put_ne una] at nu; exact nu
    refine ⟨_, Lss.refl _, q _ ⟨st, dn, un⟩ ⟨put_same, ?_, ?_, ?_, und.symm⟩ ⟨fun c => ?_, fun c o n1 n2 hc => ?_⟩ nd0 nu0⟩
    · show put _ _ _ st = _
      rw [put_ne sta, put_ne uns.symm, put_ne sta, put_ne dns.symm, put_ne sta, put_same]
    · show put _ _ _ dn = _
      rw [put_ne dna, put_ne und.symm, put_ne dna, put_same]; rfl
    · show put _ _ _ un = _
      rw [put_ne una, put_same]; rfl
    · by_cases ca : c = a
      · rw [ca]; exact .inl na
      · rw [put_ne ca]
        by_cases cu : c = un
        · rw [cu]; exact .inl nu0
        · rw [put_ne cu, put_ne ca]
          by_cases cd : c = dn
          · rw [cd]; exact .inl nd0
          · rw [put_ne cd, put_ne ca]
            by_cases cs : c = st
            · rw [cs]; exact .inl ns0
            · rw [put_ne cs, put_ne ca]; exact .inr rfl
    · by_cases ca : c = a
      · rw [ca, put_same] at hc; exact absurd (Option.some.inj hc).symm (n1 _ _)
      · rw [put_ne ca] at hc
        by_cases cu : c = un
        · rw [cu, put_same] at hc; exact absurd (Option.some.inj hc).symm (n2 _)
        · rw [put_ne cu, put_ne ca] at hc
          by_cases cd : c = dn
          · rw [cd, put_same] at hc; exact absurd (Option.some.inj hc).symm (n2 _)
          · rw [put_ne cd, put_ne ca] at hc
            by_cases cs : c = st
            · rw [cs, put_same] at hc; exact absurd (Option.some.inj hc).symm (n1 _ _)
            · rw [put_ne cs, put_ne ca] at hc; exact hc
  · exact ss_yes (evt_not (k := false) (evt_truthB (bk ▸ eb ok))) ⟨_, Lss.refl _, q⟩
theorem bo_Yard_take_in (G : Gx) (N : List Str) (hN : N.length = 5) : ∀ as h Q E, as.length = 3 → S_Yard_take_in G as h Q E → den_Yard_take_in G (startA N as) h (endsR Q) (RX E) := by
  rintro as h Q E - ⟨a, b, s, A, ds, us, w, l, rfl, t, wy, n4, dl, q⟩
  unfold den_Yard_take_in
  simp only [startA, hN]
  refine s_seq (e_meth (ev_var (v := .ref a)) t.ins rfl (eva2 (ev_var (v := .int w)) (ev_var (v := encO l))) rfl ⟨a, b, A, w, l, rfl, t.ins, n4, ?_⟩)
  rcases q with ⟨hw, q⟩ | ⟨e, he, q⟩
  · refine .inl ⟨hw, ?_⟩
    dsimp only
    refine ss_set (yi_state t.ins (ev_var (v := .ref a))) ?_
    refine ss_set (y_len t.st (ev_var (v := .ref A.st))) ?_
    have n60 := wy.t.n
    have l60 := wy.ll
    refine s_seq (e_meth (vs := [.tup [.str "take_in", .tup [.int w, encO l]], .lst ((s.take w l).things.map encTh), .lst ((s.take w l).lying.map .int), .lst ((s.take w l).gone.map encG)]) (ev_var (v := .ref a)) t.ins rfl (eva_cons (ev_tup (eva2 ev_c (ev_tup (eva2 (ev_var (v := .int w)) (ev_var (v := encO l))) (by rw [sizeLine_eq]; simp))) (by rw [sizeLine_eq]; simp)) (eva_cons ?_ (eva2 ?_ (y_gone (s := s) t.st (ev_var (v := .ref A.st)))))) rfl ⟨a, b, s, s.take w l, A, ds, us, _, rfl, t, dl, fun h' st un t' f' n' => ?_⟩)
    · refine EvE.cast (ev_bin (y_things t.st (ev_var (v := .ref A.st))) (ev_lst (eva1 (ev_tup (eva2 (ev_var (v := .int w)) (ev_var (v := encO l))) (by rw [sizeLine_eq]; simp))) (by rw [sizeLine_eq]; simp)) (f_addL rfl rfl (by rw [sizeLine_eq, List.length_map]; simp; omega))) ?_
      unfold St.take
      rw [List.map_append]; rfl
    · refine EvE.cast (ev_bin (y_lying t.st (ev_var (v := .ref A.st))) (ev_lst (eva1 (ev_var (v := .int (s.things.length : Int)))) (by rw [sizeLine_eq]; simp)) (f_addL rfl rfl (by rw [sizeLine_eq, List.length_map]; simp; omega))) ?_
      unfold St.take
      rw [List.map_append]; rfl
    · dsimp only
      exact s_ret (ev_var (v := .int (s.things.length : Int))) (RT.same (q h' st un t' f' n'))
  · exact .inr ⟨e, he, _, Lss.refl _, q⟩
end DL
namespace DL
open PySem PySem.Spec PyProof.Rows L2
theorem odd_str {b : Book} {z : Str} (h : z ∉ b.names) : odd b (.str z) := ⟨rfl, by rw [inA_str]; exact decide_eq_false h⟩
theorem mem_rngY {b : Book} {s : St} (wy : WFY b s) {x : Int} : (decide (0 ≤ x) && decide (x ≤ (s.things.length : Int) - 1) && decide (x ∈ s.lying)) = decide (x ∈ s.lying) := by
  rw [rng_iff]
  by_cases m : x ∈ s.lying
  · rw [decide_eq_true (wy.lr x m)]; rfl
  · rw [decide_eq_false m, Bool.and_false]
section
variable {ρ : Sl} {h : Hv} {E : PX} {d : ED}
theorem nd_lenY : ∀ {xs ks : List Int}, ks.Nodup → (∀ k, k ∈ ks ↔ k ∈ xs) → ks.length ≤ xs.length ∧ (ks.length = xs.length → xs.Nodup)
  | [], ks, _, k2 => by
    cases ks with
    | nil => exact ⟨Nat.le_refl _, fun _ => List.nodup_nil⟩
    | cons k _ => exact absurd ((k2 k).mp List.mem_cons_self) (by simp)
  | x :: xs, ks, k1, k2 => by
    by_cases m : x ∈ xs
    · have := (nd_lenY (xs := xs) k1 fun k => by
        rw [k2 k, List.mem_cons]
        exact ⟨fun h => h.elim (fun e => e ▸ m) id, .inr⟩).1
      exact ⟨by simp; omega, fun e => by simp at e; omega⟩
    · have hx : x ∈ ks := (k2 x).mpr List.mem_cons_self
      obtain ⟨l1, l2⟩ := nd_lenY (xs := xs) (k1.erase x) fun k => by
        rw [k1.mem_erase_iff, k2 k, List.mem_cons]
        exact ⟨fun h => h.2.elim (fun e => absurd e h.1) id, fun h => ⟨fun e => m (e ▸ h), .inr h⟩⟩
      rw [List.length_erase_of_mem hx] at l1 l2
      have := List.length_pos_of_mem hx
      exact ⟨by simp; omega, fun e => List.nodup_cons.mpr ⟨m, l2 (by simp at e; omega)⟩⟩
theorem fn_lenSet {xs : List Int} {Q : PV} {h : Hv} (q : Q (.bl (!decide xs.Nodup)) h) : ∀ ks : List Int, ks.Nodup → (∀ k, k ∈ ks ↔ k ∈ xs) → fNe (.int (ks.length : Nat)) (.int (xs.length : Int)) h Q := fun ks k1 k2 => by
  show Q (.bl (!decide (((ks.length : Nat) : Int) = ((xs.length : Nat) : Int)))) h
  have e : (((ks.length : Nat) : Int) = ((xs.length : Nat) : Int)) ↔ xs.Nodup := by
    rw [Int.ofNat_inj]
    constructor
    · exact (nd_lenY k1 k2).2
    · intro n
      exact ((List.perm_ext_iff_of_nodup k1 n).mpr k2).length_eq
  by_cases c : xs.Nodup
  · rw [decide_eq_true c] at q; rw [decide_eq_true (e.mpr c)]; exact q
  · rw [decide_eq_false c] at q; rw [decide_eq_false (fun z => c (e.mp z))]; exact q
theorem evt_lenSet {xs : List Int} (hd : EvE ρ h E d (.tup (xs.map .int))) (hl : xs.length ≤ 4000) : EvT ρ h E (dTest (dBin fNe (dLenSetT d) (dCB fLen (aCons d aNil)))) (!decide xs.Nodup) := fun Q q => hd _ (by
  show match intsOf (xs.map .int) with
    | some ns => ns.length ≤ 4000 ∧ ∀ ks : List Int, ks.Nodup → (∀ k, k ∈ ks ↔ k ∈ ns) → _
    | none => False
  rw [intsOf_map']
  exact ⟨hl, fun ks k1 k2 => (ev_cb (eva1 hd) (c_len (n := xs.length) (by simp [lenA]))) _ (fn_lenSet (Q := fun v h => match v with | .bl k => Q k h | _ => False) q ks k1 k2)⟩)
theorem c_lenT {xs : List Val} : EvC h fLen [.tup xs] (.int (xs.length : Int)) := c_len (n := xs.length) (by simp [lenA])
end
theorem bo_Yard_make (G : Gx) (N : List Str) (hN : N.length = 7) : ∀ as h Q E, as.length = 3 → S_Yard_make G as h Q E → den_Yard_make G (startA N as) h (endsR Q) (RX E) := by
  rintro as h Q E - ⟨a, b, s, A, ds, us, z, xs, rfl, t, wy, n4, dl, x60, q⟩
  unfold den_Yard_make
  simp only [startA, hN]
  have n60 := wy.t.n
  have l60 := wy.ll
  unfold mRef at q
  refine s_seq (s_call (eva2 (yi_book t.ins (ev_var (v := .ref a))) (ev_var (v := .str z))) rfl ⟨b, .str z, rfl, n4, ?_⟩)
  by_cases zn : z ∈ b.names
  · rw [if_neg (fun z => z zn)] at q
    refine .inl ⟨z, rfl, zn, ?_⟩
    dsimp only
    refine ss_set (yi_state t.ins (ev_var (v := .ref a))) ?_
    have hr : (xs = [] ∨ (∃ x ∈ xs, x ∉ s.lying) ∨ ¬xs.Nodup) → RX E "NoThing" none [some (.ref a), some (.str z), some (.tup (xs.map .int)), some (.ref A.st), none, none, none] h := fun c => by
      rw [if_pos c] at q
      rcases q with ⟨w, _⟩ | ⟨e, w, q⟩
      · cases w
      · cases w; exact ⟨_, Lss.refl _, q⟩
    have v2 : EvE [some (.ref a), some (.str z), some (.tup (xs.map .int)), some (.ref A.st), none, none, none] h (RX E) (dVar 2) (.tup (xs.map .int)) := ev_var
    have v3 : EvE [some (.ref a), some (.str z), some (.tup (xs.map .int)), some (.ref A.st), none, none, none] h (RX E) (dVar 3) (.ref A.st) := ev_var
    by_cases c1 : xs = []
    · refine ss_yes ((evt_or (k := false) (l := true) (evt_not (k := true) (evt_truthB (ev_cb (eva2 v2 ev_c) (c_isi (t := "tuple") rfl (by decide))))) fun _ => evt_not (k := false) (evt_truth v2 (by rw [c1]; rfl))).cast rfl) (hr (.inl c1))
    refine ss_no ((evt_or (k := false) (l := false) (evt_not (k := true) (evt_truthB (ev_cb (eva2 v2 ev_c) (c_isi (t := "tuple") rfl (by decide))))) fun _ => evt_not (k := true) (evt_truth v2 (by
      show some (!(xs.map Val.int).isEmpty) = some true
      cases xs with
      | nil => exact absurd rfl c1
      | cons _ _ => rfl))).cast rfl) ?_
    have ea := ev_all (ρ := [some (.ref a), some (.str z), some (.tup (xs.map .int)), some (.ref A.st), none, none, none]) (h := h) (E := RX E) (di := dIt (dVar 2)) (t := .nm 4) (vs := [4]) (ok := fun _ => True) (te := vAnd (dCall 3 S_is_number (aCons (dVar 4) (aCons (dC (.int 0)) (aCons (dBin fSub (dCB fLen (aCons (dFld (G.C "State") "things" (dVar 3)) aNil)) (dC (.int 1))) aNil)))) (dBin fIn (dVar 4) (dFld (G.C "State") "lying" (dVar 3)))) xs .int (fun x => decide (x ∈ s.lying)) (evi_it v2 rfl) (fun _ _ => trivial) (by rw [sizeLine_eq]; omega) (fun x hx => ⟨_, rfl, fun h' sb => by
      have t2 : StAt G h' A.st s := sb _ _ t.st
      refine EvE.cast (ev_vAnd (y_isnum (ev_var (v := .int x)) ev_c (y_last t2 (ev_var (v := .ref A.st)))) fun _ => ev_bin (ev_var (v := .int x)) (y_lying t2 (ev_var (v := .ref A.st))) (f_inI rfl)) (by rw [mem_rngY wy])⟩)
    by_cases c2 : ∃ x ∈ xs, x ∉ s.lying
    · refine ss_yes (evt_not (k := false) (evt_truthB (ea.cast ?_))) (hr (.inr (.inl c2)))
      obtain ⟨x, hx, nx⟩ := c2
      congr 1
      rw [List.all_eq_false]
      exact ⟨x, hx, by simpa using nx⟩
    have c2' : ∀ x ∈ xs, x ∈ s.lying := fun x hx => Classical.byContradiction fun n => c2 ⟨x, hx, n⟩
    refine ss_no (evt_not (k := true) (evt_truthB (ea.cast (by
      congr 1
      rw [List.all_eq_true]
      exact fun x hx => decide_eq_true (c2' x hx))))) ?_
    have et := evt_lenSet v2 (by omega)
    by_cases c3 : xs.Nodup
    · rw [decide_eq_true c3] at et
      refine ss_no et ?_
      rw [if_neg (fun c => c.elim c1 fun c => c.elim c2 fun n => n c3)] at q
      rcases q with ⟨-, q⟩ | ⟨_, w, _⟩
      rotate_left
      · cases w
      refine ss_set (y_len t.st v3) ?_
      refine ss_set (v := .lst ((s.mk' z xs).lying.map .int)) (EvE.cast (ev_bin (ev_lcF s.lying .int (fun x => decide (x ∉ xs)) .int (evi_it (y_lying t.st (ev_var (v := .ref A.st))) rfl) (fun _ _ => trivial) (by rw [sizeLine_eq]; omega) fun x hx => ⟨_, rfl, fun h' sb => (evt_test (ev_bin (ev_var (v := .int x)) (ev_var (v := .tup (xs.map .int))) (f_notInI rfl))).cast (by by_cases m : x ∈ xs <;> simp [m]), fun _ h' sb => ev_var⟩) (ev_lst (eva1 (ev_var (v := .int (s.things.length : Int)))) (by rw [sizeLine_eq]; simp)) (f_addL rfl rfl (by
          have := List.length_filter_le (fun x => decide (x ∉ xs)) s.lying
          rw [sizeLine_eq, List.length_map]; simp at this ⊢; omega))) (by unfold St.mk'; rw [List.map_append]; rfl)) ?_
      refine s_seq (e_meth (vs := [.tup [.str "make", .tup [.str z, .tup (xs.map .int)]], .lst ((s.mk' z xs).things.map encTh), .lst ((s.mk' z xs).lying.map .int), .lst ((s.mk' z xs).gone.map encG)]) (ev_var (v := .ref a)) t.ins rfl (eva_cons (ev_tup (eva2 ev_c (ev_tup (eva2 (ev_var (v := .str z)) (ev_var (v := .tup (xs.map .int)))) (by rw [sizeLine_eq]; simp))) (by rw [sizeLine_eq]; simp)) (eva_cons ?_ (eva2 (ev_var (v := .lst ((s.mk' z xs).lying.map .int))) (y_gone (s := s) t.st (ev_var (v := .ref A.st)))))) rfl ⟨a, b, s, s.mk' z xs, A, ds, us, _, rfl, t, dl, fun h' st un t' f' n' => ?_⟩)
      · refine EvE.cast (ev_bin (y_things t.st (ev_var (v := .ref A.st))) (ev_lst (eva1 (ev_tup (eva2 (ev_var (v := .str z)) (ev_cb (u := .lst (xs.map .int)) (eva1 (ev_var (v := .tup (xs.map .int)))) (fun Q q => q))) (by rw [sizeLine_eq]; simp))) (by rw [sizeLine_eq]; simp)) (f_addL rfl rfl (by rw [sizeLine_eq, List.length_map]; simp; omega))) ?_
        unfold St.mk'
        rw [List.map_append]; rfl
      · dsimp only
        exact s_ret (ev_var (v := .int (s.things.length : Int))) (RT.same (q h' st un t' f' n'))
    · rw [decide_eq_false c3] at et
      exact ss_yes et (hr (.inr (.inr c3)))
  · rw [if_pos zn] at q
    refine .inr ⟨odd_str zn, ?_⟩
    rcases q with ⟨w, _⟩ | ⟨e, w, q⟩
    · cases w
    · cases w; exact ⟨_, Lss.refl _, q⟩
end DL
namespace DL
open PySem PySem.Spec PyProof.Rows L2
theorem f_neIY {h : Hv} {i j : Int} : EvF h fNe (.int i) (.int j) (.bl (!decide (i = j))) := fun Q q => q
theorem s_expr' {ρ : Sl} {h : Hv} {E : PX} {D : AE} {d : ED} (q : d ρ h (fun _ h2 => D.nx ρ h2) E) : sExpr d ρ h D E := q
theorem bo_Yard_send (G : Gx) (N : List Str) (hN : N.length = 7) : ∀ as h Q E, as.length = 3 → S_Yard_send G as h Q E → den_Yard_send G (startA N as) h (endsR Q) (RX E) := by
  rintro as h Q E - ⟨a, b, s, A, ds, us, n, z, rfl, t, wf, wy, dl, hd, q⟩
  unfold den_Yard_send
  simp only [startA, hN]
  have n60 := wy.t.n
  have l60 := wy.ll
  have g60 := wy.gl
  refine ss_set (yi_state t.ins (ev_var (v := .ref a))) ?_
  have v1 : EvE [some (.ref a), some (.int n), some (.str z), some (.ref A.st), none, none, none] h (RX E) (dVar 1) (.int n) := ev_var
  have v3 : EvE [some (.ref a), some (.int n), some (.str z), some (.ref A.st), none, none, none] h (RX E) (dVar 3) (.ref A.st) := ev_var
  have et : EvT [some (.ref a), some (.int n), some (.str z), some (.ref A.st), none, none, none] h (RX E) (dOr (dNot (dTruth (dCall 3 S_is_number (aCons (dVar 1) (aCons (dC (.int 0)) (aCons (dBin fSub (dCB fLen (aCons (dFld (G.C "State") "things" (dVar 3)) aNil)) (dC (.int 1))) aNil)))))) (dTest (dBin fNotIn (dVar 1) (dFld (G.C "State") "lying" (dVar 3))))) (!decide (n ∈ s.lying)) := (evt_or (y_notnum v1 ev_c (y_last t.st v3)) fun _ => evt_test (ev_bin v1 (y_lying t.st v3) (f_notInI rfl))).cast (by conv => rhs; rw [← mem_rngY wy, Bool.not_and])
  by_cases c1 : n ∈ s.lying
  · rw [decide_eq_true c1] at et
    refine ss_no et ?_
    obtain ⟨n0, n1⟩ := wy.lr n c1
    refine s_seq (s_call (eva2 (yi_book t.ins (ev_var (v := .ref a))) (ev_var (v := .str z))) rfl ⟨b, .str z, rfl, wf.n4, ?_⟩)
    by_cases zn : z ∈ b.names
    · refine .inl ⟨z, rfl, zn, ?_⟩
      dsimp only
      refine ss_set (v := encO ((treeY s.things n).land b (hpY s.things))) (e_methE (ev_var (v := .ref A.st)) t.st rfl (eva2 (yi_book t.ins (ev_var (v := .ref a))) (ev_var (v := .int n))) rfl fun Q q => ⟨A.st, b, s, n, rfl, t.st, wf, wy.t, n0, n1, hd c1, by omega, q⟩) ?_
      have e2 : EvT [some (.ref a), some (.int n), some (.str z), some (.ref A.st), some (encO ((treeY s.things n).land b (hpY s.things))), none, none] h (RX E) (dTest (dBin fNe (dVar 4) (dVar 2))) (!decide ((treeY s.things n).land b (hpY s.things) = some z)) := evt_test (ev_bin ev_var (ev_var (v := .str z)) f_neOZ)
      by_cases c2 : (treeY s.things n).land b (hpY s.things) = some z
      · rw [decide_eq_true c2] at e2
        refine ss_no e2 ?_
        rcases q with ⟨-, -, -, q⟩ | ⟨w, _⟩ | ⟨_, w, _⟩ | ⟨_, _, w, _⟩
        rotate_left
        · exact absurd c1 w
        · exact absurd zn w
        · exact absurd c2 w
        refine ss_set (v := .lst ((s.snd n z).lying.map .int)) (ev_lcF s.lying .int (fun x => decide (x ≠ n)) .int (evi_it (y_lying t.st (ev_var (v := .ref A.st))) rfl) (fun _ _ => trivial) (by rw [sizeLine_eq]; omega) fun x hx => ⟨_, rfl, fun h' sb => (evt_test (ev_bin (ev_var (v := .int x)) (ev_var (v := .int n)) f_neIY)).cast (by by_cases m : x = n <;> simp [m]), fun _ h' sb => ev_var⟩) ?_
        refine s_expr' (e_meth (vs := [.tup [.str "send", .tup [.int n, .str z]], .lst ((s.snd n z).things.map encTh), .lst ((s.snd n z).lying.map .int), .lst ((s.snd n z).gone.map encG)]) (ev_var (v := .ref a)) t.ins rfl (eva_cons (ev_tup (eva2 ev_c (ev_tup (eva2 (ev_var (v := .int n)) (ev_var (v := .str z))) (by rw [sizeLine_eq]; simp))) (by rw [sizeLine_eq]; simp)) (eva_cons (y_things (s := s) t.st (ev_var (v := .ref A.st))) (eva2 (ev_var (v := .lst ((s.snd n z).lying.map .int))) ?_))) rfl ⟨a, b, s, s.snd n z, A, ds, us, _, rfl, t, dl, fun h' st un t' f' n' => ?_⟩)
        · refine EvE.cast (ev_bin (y_gone t.st (ev_var (v := .ref A.st))) (ev_lst (eva1 (ev_tup (eva2 (ev_var (v := .int n)) (ev_var (v := .str z))) (by rw [sizeLine_eq]; simp))) (by rw [sizeLine_eq]; simp)) (f_addL rfl rfl (by rw [sizeLine_eq, List.length_map]; simp; omega))) ?_
          unfold St.snd
          rw [List.map_append]; rfl
        · exact ⟨_, Lss.refl _, q h' st un t' f' n'⟩
      · rw [decide_eq_false c2] at e2
        refine ss_yes e2 ?_
        rcases q with ⟨_, _, w, _⟩ | ⟨w, _⟩ | ⟨_, w, _⟩ | ⟨_, _, _, q⟩
        · exact absurd w c2
        · exact absurd c1 w
        · exact absurd zn w
        show dVar 4 _ _ _ _
        exact (ev_var (v := encO ((treeY s.things n).land b (hpY s.things)))) _ ⟨_, Lss.refl _, q⟩
    · refine .inr ⟨odd_str zn, ?_⟩
      rcases q with ⟨_, w, _⟩ | ⟨w, _⟩ | ⟨_, _, q⟩ | ⟨_, w, _⟩
      · exact absurd w zn
      · exact absurd c1 w
      · exact ⟨_, Lss.refl _, q⟩
      · exact absurd w zn
  · rw [decide_eq_false c1] at et
    refine ss_yes et ?_
    rcases q with ⟨w, _⟩ | ⟨_, q⟩ | ⟨w, _⟩ | ⟨w, _⟩
    · exact absurd w c1
    · exact ⟨_, Lss.refl _, q⟩
    · exact absurd w c1
    · exact absurd w c1
end DL
namespace DL
open PySem PySem.Spec PyProof.Rows L2
theorem cut_toY (vs : List Val) {n : Int} (h0 : 0 ≤ n) (h1 : n < (vs.length : Int)) : cutA vs none (some n) = vs.take n.toNat := by
  obtain ⟨k, rfl⟩ := Int.eq_ofNat_of_zero_le h0
  unfold cutA
  rw [HT.sIx_none, HT.sIx_nat, Nat.min_eq_left (by omega), List.drop_zero, Nat.sub_zero, Int.toNat_natCast]
theorem cut_fromY (vs : List Val) {n : Int} (h0 : 0 ≤ n) (h1 : n < (vs.length : Int)) : cutA vs (some (n + 1)) none = vs.drop (n.toNat + 1) := by
  obtain ⟨k, rfl⟩ := Int.eq_ofNat_of_zero_le h0
  unfold cutA
  rw [show ((k : Nat) : Int) + 1 = ((k + 1 : Nat) : Int) by omega, HT.sIx_none, HT.sIx_nat, Nat.min_eq_left (by omega), Int.toNat_natCast]
  exact List.take_of_length_le (by rw [List.length_drop]; omega)
theorem isMade_raw {ts : List Th} {n : Int} {w : Int} {l : Option Str} (e : ts[n.toNat]? = some (.raw w l)) : isMade ts n = false := by
  unfold isMade
  rw [e]
theorem isMade_made {ts : List Th} {n : Int} {z : Str} {xs : List Int} (e : ts[n.toNat]? = some (.made z xs)) : isMade ts n = true := by
  unfold isMade
  rw [e]
theorem bo_Yard_find (G : Gx) (N : List Str) (hN : N.length = 6) : ∀ as h Q E, as.length = 4 → S_Yard_find G as h Q E → den_Yard_find G (startA N as) h (endsR Q) (RX E) := by
  rintro as h Q E - ⟨a, b, s, A, ds, us, n, w, l, rfl, t, wy, n4, dl, q⟩
  unfold den_Yard_find
  simp only [startA, hN]
  have n60 := wy.t.n
  unfold fRef at q
  have hr : (¬(0 ≤ n ∧ n < (s.things.length : Int)) ∨ isMade s.things n = true) → E "NoThing" none h := fun c => by
    rw [if_pos c] at q
    rcases q with ⟨z, _⟩ | ⟨e, z, q⟩
    · cases z
    · cases z; exact q
  refine s_seq (e_meth (ev_var (v := .ref a)) t.ins rfl (eva1 (ev_var (v := .int n))) rfl ⟨a, b, s, A, n, rfl, t.ins, t.st, wy.t.n, ?_⟩)
  by_cases c : 0 ≤ n ∧ n < (s.things.length : Int)
  · refine .inl ⟨c.1, c.2, ?_⟩
    dsimp only
    obtain ⟨th, e⟩ := th_get c.1 c.2
    refine ss_set (yi_state t.ins (ev_var (v := .ref a))) ?_
    have e1 : EvE [some (.ref a), some (.int n), some (.int w), some (encO l), some (.ref A.st), none] h (RX E) (dBin fIx (dBin fIx (dFld (G.C "State") "things" (dVar 4)) (dVar 1)) (dC (.int 1))) (match th with | .raw w l => encO l | .made z xs => .lst (xs.map .int)) := ev_bin (y_thing t.st (ev_var (v := .ref A.st)) (ev_var (v := .int n)) c.1 e) ev_c (f_ixI (i := 1) (vs := match th with | .raw w l => [.int w, encO l] | .made z xs => [.str z, .lst (xs.map .int)]) (by cases th <;> rfl) (by decide) (by cases th <;> rfl))
    cases th with
    | made z xs =>
      exact ss_yes (evt_truthB (ev_cb (eva2 e1 ev_c) c_isL)) ⟨_, Lss.refl _, hr (.inr (isMade_made e))⟩
    | raw w0 l0 =>
      refine ss_no (evt_truthB (ev_cb (eva2 e1 ev_c) c_isO)) ?_
      rw [if_neg (fun z => z.elim (fun z => z c) fun z => by rw [isMade_raw e] at z; cases z)] at q
      refine s_seq (e_meth (ev_var (v := .ref a)) t.ins rfl (eva2 (ev_var (v := .int w)) (ev_var (v := encO l))) rfl ⟨a, b, A, w, l, rfl, t.ins, n4, ?_⟩)
      rcases q with ⟨hw, q⟩ | ⟨er, he, q⟩
      · refine .inl ⟨hw, ?_⟩
        dsimp only
        have vlen : ((s.things.map encTh).length : Int) = s.things.length := by rw [List.length_map]
        refine ss_set (v := .lst ((s.fnd n w l).things.map encTh)) (EvE.cast (ev_bin (ev_bin (ev_sl (u := .lst ((s.things.map encTh).take n.toNat)) (y_things t.st (ev_var (v := .ref A.st))) evo_none (evo_some (ev_var (v := .int n))) fun Q q => ?_) (ev_lst (eva1 (ev_tup (eva2 (ev_var (v := .int w)) (ev_var (v := encO l))) (by rw [sizeLine_eq]; simp))) (by rw [sizeLine_eq]; simp)) (f_addL rfl rfl (by rw [sizeLine_eq]; simp; omega))) (ev_sl (u := .lst ((s.things.map encTh).drop (n.toNat + 1))) (y_things t.st (ev_var (v := .ref A.st))) (evo_some (ev_bin (ev_var (v := .int n)) ev_c (f_add _ _))) evo_none fun Q q => ?_) (f_addL rfl rfl (by rw [sizeLine_eq]; simp; omega))) ?_) ?_
        · show Q (.lst (cutA (s.things.map encTh) none (some n))) h
          rw [cut_toY _ c.1 (by rw [vlen]; exact c.2)]; exact q
        · show Q (.lst (cutA (s.things.map encTh) (some (n + 1)) none)) h
          rw [cut_fromY _ c.1 (by rw [vlen]; exact c.2)]; exact q
        · unfold St.fnd
          rw [List.map_set, List.set_eq_take_append_cons_drop, if_pos (by rw [List.length_map]; omega)]
          simp
          rfl
        refine s_expr' (e_meth (vs := [.tup [.str "find", .tup [.int n, .int w, encO l]], .lst ((s.fnd n w l).things.map encTh), .lst ((s.fnd n w l).lying.map .int), .lst ((s.fnd n w l).gone.map encG)]) (ev_var (v := .ref a)) t.ins rfl (eva_cons (ev_tup (eva2 ev_c (ev_tup (eva_cons (ev_var (v := .int n)) (eva2 (ev_var (v := .int w)) (ev_var (v := encO l)))) (by rw [sizeLine_eq]; simp))) (by rw [sizeLine_eq]; simp)) (eva_cons (ev_var (v := .lst ((s.fnd n w l).things.map encTh))) (eva2 (y_lying (s := s) t.st (ev_var (v := .ref A.st))) (y_gone (s := s) t.st (ev_var (v := .ref A.st)))))) rfl ⟨a, b, s, s.fnd n w l, A, ds, us, _, rfl, t, dl, fun h' st un t' f' n' => ?_⟩)
        exact ⟨_, Lss.refl _, q h' st un t' f' n'⟩
      · exact .inr ⟨er, he, _, Lss.refl _, q⟩
  · exact .inr ⟨c, _, Lss.refl _, hr (.inl c)⟩
end DL
namespace DL
open PySem PySem.Spec PyProof.Rows L2
abbrev so0 (w : World) : Obj := { cls := .type "set", dict := none, data := .set #[] 0 (.fresh 0 0 (!w.params.followText "set-order")) }
section
variable {P : Program} {w : World} {A : Around} {E : Value → Shared → Prop} {s : Shared}
set_option maxHeartbeats 3200000 in
theorem set_lstI {l : Addr} {items : Array Value} (ns : List Int) {Q : Value → Shared → Prop} (hh : A.handled = none) (hl : s.heap.IsList l items) (hit : IntsAre items.toList ns) (hb : ns.length + 1 < scanBound)
    (h : ∀ (h' : Heap) (tk c : Nat), SetR w h' s.heap.objs.size (fun j => decide (j ∈ ns)) c → c ≤ ns.length → (∀ b o, s.heap.get? b = some o → h'.get? b = some o) → Q (.ref s.heap.objs.size) { s with heap := h', toks := tk }) :
    wpAny (model P w) A (call (.type "set") [.ref l]) Q E s := by
  have size : items.size = ns.length := by
    have q := IntsAre.length hit
    rwa [Array.length_toList] at q
  obtain ⟨c0, tl0, mro0⟩ := PySem.F.called_set.mro
  have made0 := PySem.F.called_set.made
  have sub0 := PySem.F.called_set.sub
  refine wpAny_call (codeAny_of_tree ?_)
  show wpAny _ _ (callAny (.type "set") _) _ _ _
  refine wpAny_pure ⟨Code.quiet_builtin _ (by decide +kernel), codeAny_builtin PySem.F.entry_type_call ?_⟩
  rw [Around.under_plain (weight_type_call_type "set" [.ref l] []) rfl]
  have n1 := PySem.F.called_set.notType
  have n2 := PySem.F.called_set.canCreate
  have n3 := PySem.F.typeCall_set_1 (.ref l)
  repeat (any_goals (first | assumption | wp_step))
  refine codeAny_mono (code_set_led1 (.ref l) (E := E) (Q₁ := fun obj s₁ => obj = .ref s.heap.objs.size ∧ s₁ = { s with heap := s.heap.push (so0 w) }) ⟨rfl, rfl⟩) fun r s₁ hr => ?_
  cases r with
  | error e => exact hr
  | ok fl =>
    cases fl with
    | ret obj =>
      obtain ⟨rfl, rfl⟩ := hr
      have at0 : (s.heap.push (so0 w)).get? s.heap.objs.size = some (so0 w) := Heap.get?_push_size _ rfl
      have ty0 : Shared.TypeIs { s with heap := s.heap.push (so0 w) } (.ref s.heap.objs.size) "set" := ⟨_, at0, rfl⟩
      have i1 := PySem.F.called_set.init.lookup
      have i2 := PySem.F.called_set.init.bind (.ref s.heap.objs.size)
      repeat (any_goals (first | assumption | wp_step))
      refine codeAny_mono (codeAny_call_builtin (R := wants (fun r s₂ => r = .none ∧ ∃ h' tk c, s₂ = { s with heap := h', toks := tk } ∧ SetR w h' s.heap.objs.size (fun j => decide (j ∈ ns)) c ∧ c ≤ ns.length ∧ (∀ b o, s.heap.get? b = some o → h'.get? b = some o)) E) PySem.F.called_set.init.plain PySem.F.entry_set_init (check_set_init_1 ty0 ?_)) fun r₂ s₂ hr₂ => ?_
      · obtain ⟨ol, hol, hcl, hdl⟩ := id hl
        have lS : l < s.heap.objs.size := Heap.lt_size hol
        obtain ⟨ocls, odict, odata, oslots⟩ := ol
        simp only at hcl
        subst hcl
        have hol' : (s.heap.push (so0 w)).get? l = some { cls := .type "list", dict := odict, data := odata, slots := oslots } := Heap.get?_push_of_some _ hol
        have f1 := PySem.F.sub_list_set
        have f2 := PySem.F.sub_list_frozenset
        have f3 : (Value.type "list" == Value.type "dict") = false := by decide
        have hl1 : (s.heap.push (so0 w)).IsList l items := hl.push _
        unfold Builtin.«set.__init__» noKeywords Builtin.Frozenset.updateFrom
        generalize hPI : pyIter = PI
        wp_walk
        subst hPI
        refine wpAny_pyIter_list hl1 ?_
        refine wpAny_bind (wpAny_runValue ?_)
        have hh3 : A.in1.in1.in1.handled = none := by simp [hh]
        have ne1 : l ≠ (s.heap.push (so0 w)).objs.size := by rw [Heap.size_push]; exact Nat.ne_of_lt (Nat.lt_succ_of_lt lS)
        have nin : s.heap.objs.size ∉ [(s.heap.push (so0 w)).objs.size, l] := by
          rw [Heap.size_push]
          simp only [List.mem_cons, List.mem_singleton, List.not_mem_nil, or_false, not_or]
          exact ⟨Nat.ne_of_lt (Nat.lt_succ_self _), Nat.ne_of_gt lS⟩
        have vals : ∀ (i : Nat) (v : Value), items[i]? = some v → ∃ k t, ns[i]? = some k ∧ v = .int k t := fun i v hv => by
          have hi : i < ns.length := by rw [← size]; exact (Array.getElem?_eq_some_iff.mp hv).1
          obtain ⟨t, e⟩ := PyProof.Rows.IntsAre.int_at hit i v (by rw [Array.getElem?_toList]; exact hv)
          exact ⟨ns[i], t, List.getElem?_eq_getElem hi, by rw [e, List.getD_eq_getElem?_getD, List.getElem?_eq_getElem hi] <;> rfl⟩
        refine set_update_ints ((Walks.list hh3 _ l ne1 items).toS) s.heap.objs.size nin ns size hb vals (items.size - 0) 0 _ (by omega) (Nat.zero_le _) ⟨⟨_, Heap.get?_push_size _ rfl, rfl, rfl⟩, (hl1.push _)⟩ ⟨0, Nat.le_refl 0, setR_new_at (Heap.get?_push_of_some _ at0)⟩ fun s' c' hm hc' hS' => ?_
        obtain ⟨h', g2, d', tk', os'⟩ := s'
        obtain rfl : g2 = s.gens := hm.gens
        obtain rfl : d' = s.drawn := hm.drawn
        obtain rfl : os' = s.os := hm.os
        show wpAny _ _ _ _ _ _
        refine wpAny_pure ?_
        show wpAny _ _ (ret Value.none) _ _ _
        rw [size] at hc'
        refine wpAny_pure ⟨rfl, h', tk', c', rfl, hS', hc', fun b o e => ?_⟩
        have b0 : b < s.heap.objs.size := Heap.lt_size e
        refine hm.heap b o ?_ (Heap.get?_push_of_some _ (Heap.get?_push_of_some _ e))
        rw [Heap.size_push]
        simp only [List.mem_cons, List.mem_singleton, List.not_mem_nil, or_false, not_or]
        exact ⟨Nat.ne_of_lt b0, Nat.ne_of_lt (Nat.lt_succ_of_lt b0)⟩
      · cases r₂ with
        | error e => exact hr₂
        | ok fl₂ =>
          cases fl₂ with
          | ret r =>
            obtain ⟨rfl, h', tk, c', rfl, hS', hc', hk'⟩ := hr₂
            repeat (any_goals (first | assumption | wp_step))
            exact h _ _ _ hS' hc' hk'
          | _ => exact hr₂.elim
    | _ => exact hr.elim
end
end DL
namespace DL
open PySem PySem.Spec PyProof.Rows L2
theorem sortedI {X : Cx} (hc : X.calm = true) {pins : List (Addr × Obj)} {s : Shared} {σ : L2.St} {H : Hp} {Q : VK} {a : Addr} {S : Int → Bool} {n : Nat} (I : Inv X pins σ H s) (R : SetR X.w s.heap a S n) (h64 : n < 64)
    (q : ∀ (ns : List Int) (p : Addr), ns.Pairwise (· < ·) → (∀ k : Int, k ∈ ns ↔ S k = true) → ns.length = n → H p = none → Q (.ref p) (upd H p (.lst (ns.map V.int)))) : wpAny (model X.prog X.w) X.A (call (.builtin "sorted") [.ref a]) (EP X pins σ Q) X.xe s := by
  refine sorted_set R (I.ok.hd hc) h64 fun s' p out c ms k g o hp hgt hi hs hm hln => ?_
  have hn : H p = none := I.hok.fresh hp
  have hlen : (ms.map V.int).length ≤ sizeLine := by rw [List.length_map, hln, sizeLine_eq]; omega
  exact ⟨.ref p, _, I.call' (H' := upd H p (.lst (ms.map V.int))) (ch := []) o (Un.laid k hp hn) (I.hok.laid k hp ⟨hlen, out.toList, c, vals_of_ints hi, hgt⟩) (by rw [g]; exact I.bare) (fun _ z => nomatch z), rfl, q ms p hs hm hln hn⟩
def tSortSet (K : PySem.W.Frag) (ta : TE) : TE := fun σ H Q => ta σ H fun x H1 => ∃ (l : Addr) (ns : List Int), x = .ref l ∧ SqL K H1 l (ns.map V.int) ∧ ns.length < 60 ∧ ∀ (ms : List Int) (p : Addr), ms.Pairwise (· < ·) → (∀ k : Int, k ∈ ms ↔ k ∈ ns) → H1 p = none → Q (.ref p) (upd H1 p (.lst (ms.map V.int)))
theorem pe_sortSet {X : Cx} {a : Expr} {ta : TE} {p p2 q pos : Pos} (hg : Gl X "sorted") (hm : X.mg "sorted" = none) (hg2 : Gl X "set") (hm2 : X.mg "set" = none) (ha : PE X a ta) (hc : X.calm = true := by rfl)
    (na : starEach [a] X.env = (false, eval a X.env) :: starEach [] X.env := by rfl) : PE X (.Call (.Name "sorted" p) [.Call (.Name "set" p2) [a] [] q] [] pos) (tSortSet X.K ta) := by
  refine ⟨fun pins s σ H Q I h => ?_⟩
  refine Call_ (ld_blt I hg hm boot_sorted ?_)
  refine PyProof.Rows.callWith_builtin1 (PyProof.Rows.args_cons ?_ rfl) rfl rfl
  refine Call_ (ld_blt I hg2 hm2 boot_set ?_)
  refine PyProof.Rows.callWith_type1 (PyProof.Rows.args_cons (thn (ha.run pins s σ H _ I h) fun v s1 ⟨x, H1, I1, r1, q1⟩ => PyProof.Rows.args_nil ?_) na) na rfl
  obtain ⟨l, ns, rfl, hq, hl, q1⟩ := q1
  cases r1
  obtain ⟨its, r, pl, hz⟩ := I1.list hq
  refine set_lstI ns (I1.ok.hd hc) pl.isList (by simpa using RZ.intsAre_vals r) (by unfold scanBound; omega) fun h' tk c R hc' hk => ?_
  refine PyProof.Rows.args_nil ?_
  have I2 : Inv X pins σ H1 { s1 with heap := h', toks := tk } := I1.kept hk
  exact sortedI hc I2 R (by omega) fun ms p hs hm _ hn => q1 ms p hs (fun k => by rw [hm k]; simp) hn
def dSortSet (de : ED) : ED := fun ρ h Q E => de ρ h (fun v h1 => ∃ ns : List Int, (listOf v h1).bind intsOf = some ns ∧ ns.length < 60 ∧ ∀ ms : List Int, ms.Pairwise (· < ·) → (∀ k : Int, k ∈ ms ↔ k ∈ ns) → Q (.lst (ms.map .int)) h1) E
theorem de_sortSet {X : Cx} {B : Bs} {a : Expr} {da : ED} {p p2 q pos : Pos} (hg : Gl X "sorted") (hm : X.mg "sorted" = none) (hg2 : Gl X "set") (hm2 : X.mg "set" = none) (ha : DE X B a da) (hc : X.calm = true := by rfl)
    (na : starEach [a] X.env = (false, eval a X.env) :: starEach [] X.env := by rfl) : DE X B (.Call (.Name "sorted" p) [.Call (.Name "set" p2) [a] [] q] [] pos) (dSortSet da) :=
  PEi (pe_sortSet hg hm hg2 hm2 ha hc na) fun σ H Q ⟨ρ, h, Q', S, q, C⟩ => ⟨ρ, h, _, S, q, fun v h1 x H1 q1 s1 rv1 r1 => by
    obtain ⟨ns, eb, hl, q1⟩ := q1
    obtain ⟨ws, e1, e2⟩ := Option.bind_eq_some_iff.mp eb
    obtain ⟨a, ys, e3, ha, rss⟩ := listOf_rel r1 rv1 e1
    rw [intsOf_eq e2] at rss
    rw [rss.ints] at ha
    exact ⟨a, ns, e3, .of ha, hl, fun ms p hs hm np => (C.trans s1).lst r1 (RVs.ofInts ms) np (q1 ms hs hm)⟩⟩
end DL
namespace DL
open PySem PySem.Spec PyProof.Rows L2
def den__law_call (G : Gx) : SD := (sSeq (sIf (dTest (dBin fEq (dVar 1) (dC (.str "take_in")))) (sRet (dMeth (G.C "Yard") "take_in" 3 (S_Yard_take_in G) (dVar 0) (aCons (dBin fIx (dVar 2) (dC (.int 0))) (aCons (dBin fIx (dVar 2) (dC (.int 1))) aNil)))) sNext) (sSeq (sIf (dTest (dBin fEq (dVar 1) (dC (.str "make")))) (sRet (dMeth (G.C "Yard") "make" 3 (S_Yard_make G) (dVar 0) (aCons (dBin fIx (dVar 2) (dC (.int 0))) (aCons (dBin fIx (dVar 2) (dC (.int 1))) aNil)))) sNext) (sSeq (sIf (dTest (dBin fEq (dVar 1) (dC (.str "send")))) (sRet (dMeth (G.C "Yard") "send" 3 (S_Yard_send G) (dVar 0) (aCons (dBin fIx (dVar 2) (dC (.int 0))) (aCons (dBin fIx (dVar 2) (dC (.int 1))) aNil)))) sNext) (sRet (dMeth (G.C "Yard") "find" 4 (S_Yard_find G) (dVar 0) (aCons (dBin fIx (dVar 2) (dC (.int 0))) (aCons (dBin fIx (dVar 2) (dC (.int 1))) (aCons (dBin fIx (dVar 2) (dC (.int 2))) aNil))))))))
def den__law_a_deed : SD := (sSeq (sPar [5, 6] (aCons (dCB fLen (aCons (dDGet (dVar 3) (dC (.str "things"))) aNil)) (aCons (dLc (dIt (dBin fIx (dVar 2) (dC (.int 0)))) (.nm 4) tTrue (dBin fIx (dVar 4) (dC (.int 0))) [4]) aNil))) (sSeq (sSet 7 (dBin fIx (dLst (aCons (dC (.str "take_in")) (aCons (dC (.str "take_in")) (aCons (dC (.str "make")) (aCons (dC (.str "make")) (aCons (dC (.str "send")) (aCons (dC (.str "find")) aNil))))))) (dCall 3 S__law_draw (aCons (dVar 0) (aCons (dVar 1) (aCons (dC (.int 6)) aNil)))))) (sSeq (sSet 4 (dBin fIx (dVar 6) (dCall 3 S__law_draw (aCons (dVar 0) (aCons (dVar 1) (aCons (dCB fLen (aCons (dVar 6) aNil)) aNil)))))) (sSeq (sPar [8, 9] (aCons (dCall 3 S__law_draw (aCons (dVar 0) (aCons (dVar 1) (aCons (dBin fAdd (dVar 5) (dC (.int 1))) aNil)))) (aCons (dCall 3 S__law_draw (aCons (dVar 0) (aCons (dVar 1) (aCons (dBin fAdd (dVar 5) (dC (.int 1))) aNil)))) aNil))) (sSeq (sIf (dTest (dBin fEq (dVar 7) (dC (.str "make")))) (sSeq (sSet 10 (dDGet (dVar 3) (dC (.str "here")))) (sSeq (sSet 11 (dLst (aCons (dC (.int 0)) aNil))) (sSeq (sIf (dTest (dBin fNe (dVar 10) (dLst aNil))) (sSet 11 (dLc (dRange1 (aCons (dBin fAdd (dC (.int 1)) (dCall 3 S__law_draw (aCons (dVar 0) (aCons (dVar 1) (aCons (dC (.int 3)) aNil))))) aNil)) (.nm 14) tTrue (dBin fIx (dVar 10) (dCall 3 S__law_draw (aCons (dVar 0) (aCons (dVar 1) (aCons (dCB fLen (aCons (dVar 10) aNil)) aNil))))) [14])) sNext) (sSeq (sSet 11 (dIfE (dTest (dBin fGt (dCall 3 S__law_draw (aCons (dVar 0) (aCons (dVar 1) (aCons (dC (.int 6)) aNil)))) (dC (.int 0)))) (dSortSet (dVar 11)) (dBin fAdd (dVar 11) (dLst (aCons (dVar 9) aNil))))) (sRet (dTup (aCons (dVar 7) (aCons (dTup (aCons (dIfE (dTest (dBin fGt (dCall 3 S__law_draw (aCons (dVar 0) (aCons (dVar 1) (aCons (dC (.int 12)) aNil)))) (dC (.int 0)))) (dVar 4) (dC (.str "zz"))) (aCons (dCB fTuple (aCons (dVar 11) aNil)) aNil))) aNil)))))))) sNext) (sSeq (sIf (dTest (dBin fEq (dVar 7) (dC (.str "send")))) (sSeq (sIf (dAnd (dTest (dBin fNe (dDGet (dVar 3) (dC (.str "here"))) (dLst aNil))) (dTest (dBin fGt (dCall 3 S__law_draw (aCons (dVar 0) (aCons (dVar 1) (aCons (dC (.int 6)) aNil)))) (dC (.int 0))))) (sSet 8 (dBin fIx (dDGet (dVar 3) (dC (.str "here"))) (dCall 3 S__law_draw (aCons (dVar 0) (aCons (dVar 1) (aCons (dCB fLen (aCons (dDGet (dVar 3) (dC (.str "here"))) aNil)) aNil)))))) sNext) (sRet (dTup (aCons (dVar 7) (aCons (dTup (aCons (dVar 8) (aCons (dIfE (dTest (dBin fGt (dCall 3 S__law_draw (aCons (dVar 0) (aCons (dVar 1) (aCons (dC (.int 12)) aNil)))) (dC (.int 0)))) (dVar 4) (dC (.str "zz"))) aNil))) aNil))))) sNext) (sSeq (sSet 12 (dBin fAdd (dC (.int 1)) (dCall 3 S__law_draw (aCons (dVar 0) (aCons (dVar 1) (aCons (dC (.int 40)) aNil)))))) (sSeq (sSet 12 (dIfE (dTest (dBin fGt (dCall 3 S__law_draw (aCons (dVar 0) (aCons (dVar 1) (aCons (dC (.int 10)) aNil)))) (dC (.int 0)))) (dVar 12) (dBin fIx (dLst (aCons (dC (.int 0)) (aCons (dC (.int 10000)) aNil))) (dCall 3 S__law_draw (aCons (dVar 0) (aCons (dVar 1) (aCons (dC (.int 2)) aNil))))))) (sSeq (sSet 13 (dIfE (dTest (dBin fGt (dCall 3 S__law_draw (aCons (dVar 0) (aCons (dVar 1) (aCons (dC (.int 12)) aNil)))) (dC (.int 0)))) (dBin fIx (dBin fAdd (dVar 6) (dLst (aCons (dC .non) (aCons (dC .non) aNil)))) (dCall 3 S__law_draw (aCons (dVar 0) (aCons (dVar 1) (aCons (dBin fAdd (dCB fLen (aCons (dVar 6) aNil)) (dC (.int 2))) aNil))))) (dC (.str "zz")))) (sRet (dTup (aCons (dVar 7) (aCons (dIfE (dTest (dBin fEq (dVar 7) (dC (.str "take_in")))) (dTup (aCons (dVar 12) (aCons (dVar 13) aNil))) (dTup (aCons (dVar 8) (aCons (dVar 12) (aCons (dVar 13) aNil))))) aNil)))))))))))))
end DL
namespace DL
open PySem PySem.Spec PyProof.Rows L2
theorem x_retY {ρ : Sl} {h : Hv} {E : PX} {D : AE} {d : ED} (q : d ρ h (fun v h1 => D.rt v h1) E) : sRet d ρ h D E := q
theorem evt_word {ρ : Sl} {h : Hv} {E : PX} {d : ED} {x y : Str} {k : Bool} (e : EvE ρ h E d (.str x)) (hk : decide (x = y) = k) : EvT ρ h E (dTest (dBin fEq d (dC (.str y)))) k := (evt_test (ev_bin e ev_c (u := .bl (decide (x = y))) fun Q q => q)).cast hk
theorem ev_ixT {ρ : Sl} {h : Hv} {E : PX} {d : ED} {vs : List Val} {i : Nat} {u : Val} (e : EvE ρ h E d (.tup vs)) (hu : vs[i]? = some u) : EvE ρ h E (dBin fIx d (dC (.int (i : Int)))) u := ev_bin e ev_c (f_ixL rfl hu)
theorem bo__law_call (G : Gx) (N : List Str) (hN : N.length = 3) : ∀ as h Q E, as.length = 3 → S__law_call G as h Q E → den__law_call G (startA N as) h (endsR Q) (RX E) := by
  rintro as h Q E - ⟨a, b, s, A, ds, us, d, rfl, t, wf, wy, dl, dok, hh, q⟩
  unfold den__law_call
  simp only [startA, hN]
  cases d with
  | take w l =>
    refine ss_yes (evt_word (ev_var (v := .str "take_in")) (by decide +kernel)) (x_retY ?_)
    have v2 : EvE [some (.ref a), some (.str "take_in"), some (.tup [.int w, encO l])] h (RX E) (dVar 2) (.tup [.int w, encO l]) := ev_var
    refine e_meth (ev_var (v := .ref a)) t.ins rfl (eva2 (ev_ixT (i := 0) v2 rfl) (ev_ixT (i := 1) v2 rfl)) rfl ⟨a, b, s, A, ds, us, w, l, rfl, t, wy, wf.n4, dl, ?_⟩
    rcases q with ⟨hr, q⟩ | ⟨e, pl, hr, q⟩
    · exact .inl ⟨Option.map_eq_none_iff.mp hr, fun h' st un t' f' n' => RT.same (q h' st un t' f' n')⟩
    · obtain ⟨e', he, e2⟩ := Option.map_eq_some_iff.mp hr
      cases e2
      exact .inr ⟨_, he, _, Lss.refl _, q⟩
  | make z xs =>
    refine ss_no (evt_word (ev_var (v := .str "make")) (by decide +kernel)) ?_
    refine ss_yes (evt_word (ev_var (v := .str "make")) (by decide +kernel)) (x_retY ?_)
    have v2 : EvE [some (.ref a), some (.str "make"), some (.tup [.str z, .tup (xs.map .int)])] h (RX E) (dVar 2) (.tup [.str z, .tup (xs.map .int)]) := ev_var
    refine e_meth (ev_var (v := .ref a)) t.ins rfl (eva2 (ev_ixT (i := 0) v2 rfl) (ev_ixT (i := 1) v2 rfl)) rfl ⟨a, b, s, A, ds, us, z, xs, rfl, t, wy, wf.n4, dl, by have := dok.1; omega, ?_⟩
    rcases q with ⟨hr, q⟩ | ⟨e, pl, hr, q⟩
    · exact .inl ⟨Option.map_eq_none_iff.mp hr, fun h' st un t' f' n' => RT.same (q h' st un t' f' n')⟩
    · obtain ⟨e', he, e2⟩ := Option.map_eq_some_iff.mp hr
      cases e2
      exact .inr ⟨_, he, _, Lss.refl _, q⟩
  | send n z =>
    refine ss_no (evt_word (ev_var (v := .str "send")) (by decide +kernel)) ?_
    refine ss_no (evt_word (ev_var (v := .str "send")) (by decide +kernel)) ?_
    refine ss_yes (evt_word (ev_var (v := .str "send")) (by decide +kernel)) (x_retY ?_)
    have v2 : EvE [some (.ref a), some (.str "send"), some (.tup [.int n, .str z])] h (RX E) (dVar 2) (.tup [.int n, .str z]) := ev_var
    refine e_meth (ev_var (v := .ref a)) t.ins rfl (eva2 (ev_ixT (i := 0) v2 rfl) (ev_ixT (i := 1) v2 rfl)) rfl ⟨a, b, s, A, ds, us, n, z, rfl, t, wf, wy, dl, hh n, ?_⟩
    change (sRef b s n z = none ∧ _) ∨ (∃ e pl, sRef b s n z = some (e, pl) ∧ _) at q
    unfold sRef at q
    by_cases c1 : n ∈ s.lying
    · rw [if_neg (fun z => z c1)] at q
      by_cases c2 : z ∈ b.names
      · rw [if_neg (fun z => z c2)] at q
        by_cases c3 : (treeY s.things n).land b (hpY s.things) = some z
        · rw [if_pos c3] at q
          rcases q with ⟨-, q⟩ | ⟨e, pl, hr, q⟩
          · exact .inl ⟨c1, c2, c3, fun h' st un t' f' n' => RT.same (q h' st un t' f' n')⟩
          · cases hr
        · rw [if_neg c3] at q
          rcases q with ⟨hr, _⟩ | ⟨e, pl, hr, q⟩
          · cases hr
          · cases hr
            exact .inr (.inr (.inr ⟨c1, c2, c3, _, Lss.refl _, q⟩))
      · rw [if_pos c2] at q
        rcases q with ⟨hr, _⟩ | ⟨e, pl, hr, q⟩
        · cases hr
        · cases hr
          exact .inr (.inr (.inl ⟨c1, c2, _, Lss.refl _, q⟩))
    · rw [if_pos c1] at q
      rcases q with ⟨hr, _⟩ | ⟨e, pl, hr, q⟩
      · cases hr
      · cases hr
        exact .inr (.inl ⟨c1, _, Lss.refl _, q⟩)
  | find n w l =>
    refine ss_no (evt_word (ev_var (v := .str "find")) (by decide +kernel)) ?_
    refine ss_no (evt_word (ev_var (v := .str "find")) (by decide +kernel)) ?_
    refine ss_no (evt_word (ev_var (v := .str "find")) (by decide +kernel)) (x_retY ?_)
    have v2 : EvE [some (.ref a), some (.str "find"), some (.tup [.int n, .int w, encO l])] h (RX E) (dVar 2) (.tup [.int n, .int w, encO l]) := ev_var
    refine e_meth (ev_var (v := .ref a)) t.ins rfl (eva_cons (ev_ixT (i := 0) v2 rfl) (eva2 (ev_ixT (i := 1) v2 rfl) (ev_ixT (i := 2) v2 rfl))) rfl ⟨a, b, s, A, ds, us, n, w, l, rfl, t, wy, wf.n4, dl, ?_⟩
    rcases q with ⟨hr, q⟩ | ⟨e, pl, hr, q⟩
    · exact .inl ⟨Option.map_eq_none_iff.mp hr, fun h' st un t' f' n' => RT.same (q h' st un t' f' n')⟩
    · obtain ⟨e', he, e2⟩ := Option.map_eq_some_iff.mp hr
      cases e2
      exact .inr ⟨_, he, _, Lss.refl _, q⟩
end DL
namespace DL
open PySem PySem.Spec PyProof.Rows L2
section
variable {b : Book} {ts ex : List Th} {s s1 s2 : St}
theorem trY_app (w : WFT b ts) : ∀ (k : Nat) (n : Int), 0 ≤ n → n < (ts.length : Int) → trY (ts ++ ex) k n = trY ts k n := by
  intro k
  induction k with
  | zero => intro n _ _; rfl
  | succ k ih =>
    intro n h0 h1
    unfold trY
    rw [List.getElem?_append_left (by omega)]
    cases e : ts[n.toNat]? with
    | none => rfl
    | some th =>
      cases th with
      | raw v l => rfl
      | made z xs =>
        obtain ⟨-, -, -, hx⟩ := w.made _ z xs e
        have : xs.map (trY (ts ++ ex) k) = xs.map (trY ts k) := List.map_congr_left fun x hxm => by
          obtain ⟨x0, x1⟩ := hx x hxm
          exact ih x x0 (by omega)
        simp only [this]
theorem treeY_app (w : WFT b ts) {n : Int} (h0 : 0 ≤ n) (h1 : n < (ts.length : Int)) : treeY (ts ++ ex) n = treeY ts n := trY_app w _ n h0 h1
theorem len_rng : ∀ (m : Nat) (l : List Int), l.Nodup → (∀ x ∈ l, 0 ≤ x ∧ x < (m : Int)) → l.length ≤ m
  | 0, l, _, h => by
    cases l with
    | nil => exact Nat.le_refl _
    | cons x _ => have := h x List.mem_cons_self; omega
  | m + 1, l, nd, h => by
    by_cases hm : (m : Int) ∈ l
    · have := len_rng m (l.erase (m : Int)) (nd.erase _) fun x hx => by
        rw [nd.mem_erase_iff] at hx
        obtain ⟨x0, x1⟩ := h x hx.2
        exact ⟨x0, by have := hx.1; omega⟩
      rw [List.length_erase_of_mem hm] at this
      omega
    · have := len_rng m l nd fun x hx => by
        obtain ⟨x0, x1⟩ := h x hx
        exact ⟨x0, by
          have : x ≠ (m : Int) := fun e => hm (e ▸ hx)
          omega⟩
      omega
theorem WFT.snoc (w : WFT b ts) {th : Th} (l : ts.length < 200) (hr : ∀ v o, th = .raw v o → 1 ≤ v ∧ v ≤ 9999 ∧ ∀ z, o = some z → z ∈ b.names) (hm : ∀ z xs, th = .made z xs → z ∈ b.names ∧ xs ≠ [] ∧ xs.length ≤ 200 ∧ ∀ x ∈ xs, 0 ≤ x ∧ x < (ts.length : Int)) : WFT b (ts ++ [th]) := by
  have get : ∀ (i : Nat) u, (ts ++ [th])[i]? = some u → ts[i]? = some u ∨ (i = ts.length ∧ u = th) := fun i u e => by
    by_cases hi : i < ts.length
    · rw [List.getElem?_append_left hi] at e; exact .inl e
    · rw [List.getElem?_append_right (by omega)] at e
      by_cases h0 : i - ts.length = 0
      · rw [h0] at e
        exact .inr ⟨by omega, (Option.some.inj e).symm⟩
      · have : i - ts.length = (i - ts.length - 1) + 1 := by omega
        rw [this] at e
        cases e
  refine ⟨by simp; omega, fun i v o e => ?_, fun i z xs e => ?_⟩
  · rcases get i _ e with e | ⟨_, e⟩
    · exact w.raw i v o e
    · exact hr v o e.symm
  · rcases get i _ e with e | ⟨hi, e⟩
    · exact w.made i z xs e
    · rw [hi]; exact hm z xs e.symm
theorem WFY.mk' (w : WFY b s) {z : Str} {xs : List Int} (zn : z ∈ b.names) (ne : xs ≠ []) (hx : ∀ x ∈ xs, x ∈ s.lying) (nd : xs.Nodup) (l : s.things.length < 200) : WFY b (s.mk' z xs) := by
  have xl : xs.length ≤ 200 := Nat.le_trans (len_rng s.things.length xs nd fun x h => w.lr x (hx x h)) w.t.n
  have lr : ∀ x ∈ (s.lying.filter fun x => decide (x ∉ xs)) ++ [(s.things.length : Int)], 0 ≤ x ∧ x < ((s.things ++ [Th.made z xs]).length : Int) := fun x h => by
    rw [List.length_append]
    rcases List.mem_append.mp h with h | h
    · obtain ⟨x0, x1⟩ := w.lr x (List.mem_filter.mp h).1
      exact ⟨x0, by simp; omega⟩
    · rw [List.mem_singleton.mp h]; exact ⟨by omega, by simp; omega⟩
  have ln : ((s.lying.filter fun x => decide (x ∉ xs)) ++ [(s.things.length : Int)]).Nodup := by
    rw [List.nodup_append]
    refine ⟨w.ln.filter _, by simp, fun x h y hy e => ?_⟩
    rw [List.mem_singleton.mp hy] at e
    have := (w.lr x (List.mem_filter.mp h).1).2
    omega
  refine ⟨w.t.snoc l (fun v o e => nomatch e) fun z' xs' e => ?_, ln, lr, ?_, w.gl, fun p hp => ?_⟩
  · cases e; exact ⟨zn, ne, xl, fun x h => w.lr x (hx x h)⟩
  · have := len_rng _ _ ln lr
    have e : ((s.things ++ [Th.made z xs]).length) = s.things.length + 1 := by simp
    show ((s.lying.filter fun x => decide (x ∉ xs)) ++ [(s.things.length : Int)]).length ≤ 200
    omega
  · obtain ⟨p0, p1⟩ := w.gr p hp
    refine ⟨p0, ?_⟩
    show p.1 < ((s.things ++ [Th.made z xs]).length : Int)
    rw [List.length_append]
    simp; omega
theorem WFY.take (w : WFY b s) {v : Int} {o : Option Str} (hv : 1 ≤ v ∧ v ≤ 9999) (ho : ∀ z, o = some z → z ∈ b.names) (l : s.things.length < 200) : WFY b (s.take v o) := by
  have lr : ∀ x ∈ s.lying ++ [(s.things.length : Int)], 0 ≤ x ∧ x < ((s.things ++ [Th.raw v o]).length : Int) := fun x h => by
    rw [List.length_append]
    rcases List.mem_append.mp h with h | h
    · obtain ⟨x0, x1⟩ := w.lr x h
      exact ⟨x0, by simp; omega⟩
    · rw [List.mem_singleton.mp h]; exact ⟨by omega, by simp; omega⟩
  have ln : (s.lying ++ [(s.things.length : Int)]).Nodup := by
    rw [List.nodup_append]
    refine ⟨w.ln, by simp, fun x h y hy e => ?_⟩
    rw [List.mem_singleton.mp hy] at e
    have := (w.lr x h).2
    omega
  refine ⟨w.t.snoc l (fun v' o' e => ?_) fun z' xs' e => (nomatch e), ln, lr, ?_, w.gl, fun p hp => ?_⟩
  · cases e; exact ⟨hv.1, hv.2, ho⟩
  · have := len_rng _ _ ln lr
    have e : ((s.things ++ [Th.raw v o]).length) = s.things.length + 1 := by simp
    show (s.lying ++ [(s.things.length : Int)]).length ≤ 200
    omega
  · obtain ⟨p0, p1⟩ := w.gr p hp
    refine ⟨p0, ?_⟩
    show p.1 < ((s.things ++ [Th.raw v o]).length : Int)
    rw [List.length_append]
    simp; omega
end
def mkD (p : Str × List Int) : Val := .tup [.str "make", .tup [.str p.1, .tup (p.2.map .int)]]
structure MadeR (b : Book) (s s' : St) (ts : List Tree) (ms : List Int) (dd : List (Val × Addr)) : Prop where
  wy : WFY b s'
  th : ∃ ex, s'.things = s.things ++ ex ∧ ex.length = (landsTs ts).length
  gn : s'.gone = s.gone
  ly : ∀ x, x ∈ s'.lying ↔ (x ∈ s.lying ∧ x ∉ thingsTs ts) ∨ x ∈ ms
  tr : ms.map (treeY s'.things) = ts
  mr : ∀ x ∈ ms, x ∈ thingsTs ts ∨ (s.things.length : Int) ≤ x
  nd : ms.Nodup
  dd : ∃ zs : List (Str × List Int), dd.map (·.1) = zs.map mkD ∧ (zs.map (·.1)).Perm (landsTs ts)
def Raws (s : St) (xs : List Int) : Prop := ∀ x ∈ xs, x ∈ s.lying ∧ ∃ w l, s.things[x.toNat]? = some (.raw w l)
section
variable {b : Book} {s s1 s2 : St} {ts : List Tree} {ms : List Int} {dd dd2 : List (Val × Addr)} {t : Tree} {m n : Int}
theorem MadeR.nil (w : WFY b s) : MadeR b s s [] [] [] := ⟨w, ⟨[], by simp, rfl⟩, rfl, fun x => by simp [thingsTs], rfl, fun _ h => absurd h (by simp), List.nodup_nil, [], rfl, by simp [landsTs]⟩
theorem MadeR.leaf (w : WFY b s) (hn : n ∈ s.lying) {v : Int} {l : Option Str} (e : s.things[n.toNat]? = some (.raw v l)) : MadeR b s s [.leaf n] [n] [] := by
  refine ⟨w, ⟨[], by simp, rfl⟩, rfl, fun x => ?_, by simp [treeY_raw e], fun x h => .inl ?_, by simp, [], rfl, by simp [landsTs, Tree.lands]⟩
  · simp only [thingsTs, Tree.things, List.append_nil, List.mem_singleton]
    constructor
    · intro h
      by_cases c : x = n
      · exact .inr c
      · exact .inl ⟨h, c⟩
    · rintro (h | h)
      · exact h.1
      · rw [h]; exact hn
  · simpa [thingsTs, Tree.things] using h
theorem Raws.lt (w : WFY b s) {xs : List Int} (r : Raws s xs) : ∀ x ∈ xs, 0 ≤ x ∧ x < (s.things.length : Int) := fun x h => w.lr x (r x h).1
theorem MadeR.snoc (w : WFY b s) (r : MadeR b s s1 ts ms dd) (r2 : MadeR b s1 s2 [t] [m] dd2) (ht : Raws s t.things) (dj : ∀ x ∈ t.things, x ∉ thingsTs ts) : MadeR b s s2 (ts ++ [t]) (ms ++ [m]) (dd ++ dd2) := by
  obtain ⟨ex, et, el⟩ := r.th
  obtain ⟨ex2, et2, el2⟩ := r2.th
  have t1 : thingsTs [t] = t.things := by simp [thingsTs]
  have ta : thingsTs (ts ++ [t]) = thingsTs ts ++ t.things := by rw [thingsTs_map, thingsTs_map, List.flatMap_append]; simp
  have la : landsTs (ts ++ [t]) = landsTs ts ++ landsTs [t] := by rw [landsTs_map, landsTs_map, landsTs_map, List.flatMap_append]
  have mt : ∀ x ∈ ms, x ∉ t.things := fun x hx hxt => by
    rcases r.mr x hx with h | h
    · exact dj x hxt h
    · have := (ht.lt w x hxt).2; omega
  have ml : ∀ x ∈ ms, 0 ≤ x ∧ x < (s1.things.length : Int) := fun x hx => r.wy.lr x ((r.ly x).mpr (.inr hx))
  have sl : s.things.length ≤ s1.things.length := by rw [et]; simp
  refine ⟨r2.wy, ⟨ex ++ ex2, by rw [et2, et, List.append_assoc], by rw [List.length_append, la, List.length_append, el, el2]⟩, r2.gn.trans r.gn, fun x => ?_, ?_, fun x hx => ?_, ?_, ?_⟩
  · rw [r2.ly, r.ly, ta, t1, List.mem_append, List.mem_append, List.mem_singleton]
    constructor
    · rintro (⟨h1 | h1, h2⟩ | h)
      · exact .inl ⟨h1.1, fun z => z.elim h1.2 h2⟩
      · exact .inr (.inl h1)
      · exact .inr (.inr h)
    · rintro (⟨h1, h2⟩ | h | h)
      · exact .inl ⟨.inl ⟨h1, fun z => h2 (.inl z)⟩, fun z => h2 (.inr z)⟩
      · exact .inl ⟨.inr h, mt x h⟩
      · exact .inr h
  · rw [List.map_append, r2.tr]
    congr 1
    rw [← r.tr]
    refine List.map_congr_left fun x hx => ?_
    obtain ⟨x0, x1⟩ := ml x hx
    rw [et2]
    exact treeY_app r.wy.t x0 x1
  · rw [ta]
    rcases List.mem_append.mp hx with h | h
    · rcases r.mr x h with h | h
      · exact .inl (List.mem_append_left _ h)
      · exact .inr h
    · rcases r2.mr x h with h | h
      · rw [t1] at h; exact .inl (List.mem_append_right _ h)
      · exact .inr (by omega)
  · rw [List.nodup_append]
    refine ⟨r.nd, by simp, fun x hx y hy e => ?_⟩
    have hy := List.mem_singleton.mp hy
    rcases r2.mr m List.mem_cons_self with h | h
    · rw [t1] at h; exact mt x hx (by rw [e, hy]; exact h)
    · have := (ml x hx).2; omega
  · obtain ⟨zs, e1, p1⟩ := r.dd
    obtain ⟨zs2, e2, p2⟩ := r2.dd
    exact ⟨zs ++ zs2, by rw [List.map_append, List.map_append, e1, e2], by rw [List.map_append, la]; exact p1.append p2⟩
theorem MadeR.node (w : WFY b s) {z : Str} (r : MadeR b s s1 ts ms dd) (zn : z ∈ b.names) (ne : ms ≠ []) (l : s1.things.length < 200) (st : Addr) : MadeR b s (s1.mk' z ms) [.node z ts] [(s1.things.length : Int)] (dd ++ [(mkD (z, ms), st)]) := by
  obtain ⟨ex, et, el⟩ := r.th
  have t1 : thingsTs [Tree.node z ts] = thingsTs ts := by simp [thingsTs, Tree.things]
  have l1 : landsTs [Tree.node z ts] = z :: landsTs ts := by simp [landsTs, Tree.lands]
  have ml : ∀ x ∈ ms, x ∈ s1.lying := fun x hx => (r.ly x).mpr (.inr hx)
  have wy := r.wy.mk' zn ne ml r.nd l
  have sl : s.things.length ≤ s1.things.length := by rw [et]; simp
  refine ⟨wy, ⟨ex ++ [.made z ms], by show s1.things ++ _ = _; rw [et, List.append_assoc], by rw [List.length_append, l1, el]; rfl⟩, r.gn, fun x => ?_, ?_, fun x hx => .inr ?_, by simp, ?_⟩
  · show x ∈ (s1.lying.filter fun x => decide (x ∉ ms)) ++ [(s1.things.length : Int)] ↔ _
    rw [List.mem_append, List.mem_filter, r.ly, t1, decide_eq_true_eq, List.mem_singleton]
    constructor
    · rintro (⟨h1 | h1, h2⟩ | h)
      · exact .inl h1
      · exact absurd h1 h2
      · exact .inr h
    · rintro (⟨h1, h2⟩ | h)
      · refine .inl ⟨.inl ⟨h1, h2⟩, fun hm => ?_⟩
        rcases r.mr x hm with h | h
        · exact h2 h
        · have := (w.lr x h1).2; omega
      · exact .inr h
  · have e : (s1.mk' z ms).things[((s1.things.length : Int)).toNat]? = some (.made z ms) := by
      show (s1.things ++ [Th.made z ms])[_]? = _
      rw [Int.toNat_natCast, List.getElem?_append_right (Nat.le_refl _), Nat.sub_self]
      rfl
    rw [List.map_cons, List.map_nil, treeY_made wy.t e]
    congr 2
    rw [← r.tr]
    refine List.map_congr_left fun x hx => ?_
    obtain ⟨x0, x1⟩ := r.wy.lr x (ml x hx)
    exact treeY_app r.wy.t x0 x1
  · rw [List.mem_singleton.mp hx]; omega
  · obtain ⟨zs, e1, p1⟩ := r.dd
    refine ⟨zs ++ [(z, ms)], by rw [List.map_append, List.map_append, e1]; rfl, ?_⟩
    rw [List.map_append, l1]
    exact (List.perm_append_singleton z _).trans (p1.cons z)
end
end DL
namespace DL
open PySem PySem.Spec PyProof.Rows L2
end DL
namespace DL
open PySem PySem.Spec PyProof.Rows L2
end DL
namespace DL
open PySem PySem.Spec PyProof.Rows L2
section
variable {G : Gx} {ρ : Sl} {h h1 h2 : Hv} {E : PX} {da : ED} {a : Addr} {b : Book} {s s1 : St} {A A1 : Ay} {ds us : List (Val × Addr)}
theorem x_cb1 {f : FA} {Q : PV} (q : da ρ h (fun v h1 => f [v] h1 Q) E) : dCB f (aCons da aNil) ρ h Q E := q
theorem YFr.refl : YFr a A h h := ⟨fun _ _ _ => .inr rfl, fun _ _ _ _ h => h⟩
theorem YFr.trans (x : YFr a A h h1) (y : YFr a A1 h1 h2) (e : A1.dn = A.dn) : YFr a A h h2 := by
  refine ⟨fun c ca cd => ?_, fun c o n1 n2 hc => x.b c o n1 n2 (y.b c o n1 n2 hc)⟩
  rcases x.o c ca cd with h | h
  · exact .inl h
  · rcases y.o c ca (e ▸ cd) with h' | h'
    · rw [h] at h'; exact .inl h'
    · exact .inr (h'.trans h)
theorem YdAt.keep (t : YdAt G h a b s A ds us) {D : Addr} (nD : h D = none) {o : Ob} : YdAt G (put h D o) a b s A ds us := by
  have k : ∀ {c : Addr} {u : Ob}, h c = some u → put h D o c = some u := fun {c u} e => by
    rw [put_ne (fun z => by rw [z, nD] at e; cases e)]; exact e
  exact ⟨k t.ins, k t.st, k t.dn, k t.un, t.ne⟩
theorem YdAt.drop (t : YdAt G h a b s A ds us) {D : Addr} (bD : h D = some .busy) : YdAt G (DL.drop h D) a b s A ds us := by
  have k : ∀ {c : Addr} {u : Ob}, u ≠ .busy → h c = some u → DL.drop h D c = some u := fun {c u} n e => by
    rw [drop_ne (fun z => by rw [z, bD] at e; exact n (Option.some.inj e).symm)]; exact e
  exact ⟨k (fun z => nomatch z) t.ins, k (fun z => nomatch z) t.st, k (fun z => nomatch z) t.dn, k (fun z => nomatch z) t.un, t.ne⟩
theorem YFr.drop {D : Addr} (nD : h D = none) (f : YFr a A (put h D .busy) h1) : YFr a A h (DL.drop h1 D) := by
  refine ⟨fun c ca cd => ?_, fun c o n1 n2 hc => ?_⟩
  · by_cases e : c = D
    · rw [e]; exact .inl nD
    · rw [drop_ne e]
      have := f.o c ca cd
      rwa [put_ne e] at this
  · by_cases e : c = D
    · rw [e, drop_same] at hc; cases hc
    · rw [drop_ne e] at hc
      have := f.b c o n1 n2 hc
      rwa [put_ne e] at this
theorem YFr.busy {D : Addr} (t : YdAt G h a b s A ds us) (nD : h D = none) (f : YFr a A (put h D .busy) h1) : h1 D = some .busy := by
  rcases f.o D (fun z => by rw [z, t.ins] at nD; cases nD) (fun z => by rw [z, t.dn] at nD; cases nD) with e | e
  · rw [put_same] at e; cases e
  · rw [e, put_same]
end
end DL
namespace DL
open PySem PySem.Spec PyProof.Rows L2
theorem ss_setX {ρ : Sl} {h : Hv} {E : PX} {D : AE} {i : Nat} {d : ED} {s2 : SD} (q : d ρ h (fun v h1 => s2 (ρ.set i (some v)) h1 D E) E) : sSeq (sSet i d) s2 ρ h D E := q
theorem x_new {ρ : Sl} {h : Hv} {E : PX} {C : Addr} {n : Nat} {fs : SpF} {aa : AD} {vs : List Val} {Q : PV} (ha : EvA ρ h E aa vs) (q : ∀ a, h a = none → vs.length + 1 = n ∧ fs (.ref a :: vs) (put h a (.ins C [])) (fun v h2 => v = .non ∧ Q (.ref a) h2) (fun nm pl h' => E nm pl ρ h')) : dNew C n fs aa ρ h Q E := ha _ q
end DL
namespace DL
open PySem PySem.Spec PyProof.Rows L2
theorem WFY.snd {b : Book} {s : St} (w : WFY b s) {n : Int} (z : Str) (h : n ∈ s.lying) (l : s.gone.length < 200) : WFY b (s.snd n z) := by
  refine ⟨w.t, w.ln.filter _, fun x hx => w.lr x (List.mem_filter.mp hx).1, Nat.le_trans (List.length_filter_le _ _) w.ll, ?_, fun p hp => ?_⟩
  · show (s.gone ++ [(n, z)]).length ≤ 200
    simp; omega
  · rcases List.mem_append.mp hp with hp | hp
    · exact w.gr p hp
    · rw [List.mem_singleton.mp hp]; exact w.lr n h
section
variable {b : Book} {k : Int}
end
end DL
namespace DL
open PySem PySem.Spec PyProof.Rows L2
inductive Run (b : Book) : St → List Deed → Prop
  | nil : Run b ⟨[], [], []⟩ []
  | step {s : St} {L : List Deed} {d : Deed} : Run b s L → d.ok → d.ref b s = none → Run b (d.does s) (L ++ [d])
section
variable {b : Book} {ts : List Th} {s : St} {L : List Deed}
theorem ht_trY (w : WFT b ts) : ∀ (k : Nat) (n : Int), (trY ts k n).ht ≤ n.toNat
  | 0, n => by rw [trY, Tree.ht]; exact Nat.zero_le _
  | k + 1, n => by
    unfold trY
    cases e : ts[n.toNat]? with
    | none => exact Nat.zero_le _
    | some th =>
      cases th with
      | raw v l => exact Nat.zero_le _
      | made z xs =>
        obtain ⟨-, ne, -, hx⟩ := w.made _ z xs e
        show (Tree.node z (xs.map (trY ts k))).ht ≤ _
        rw [Tree.ht]
        have : htTs (xs.map (trY ts k)) ≤ n.toNat - 1 := htTs_le fun t ht => by
          obtain ⟨x, hxm, rfl⟩ := List.mem_map.mp ht
          have h1 := ht_trY w k x
          obtain ⟨x0, x1⟩ := hx x hxm
          omega
        obtain ⟨x, hxm⟩ := List.exists_mem_of_ne_nil xs ne
        obtain ⟨x0, x1⟩ := hx x hxm
        omega
theorem ht_treeY (w : WFT b ts) (n : Int) : (treeY ts n).ht ≤ n.toNat := ht_trY w _ n
theorem inNm_mem {b : Book} {l : Option Str} (h : inNm b l = true) : ∀ z, l = some z → z ∈ b.names := fun z e => by
  subst e
  exact of_decide_eq_true h
theorem wRef_ok {w : Int} {l : Option Str} (h : wRef b w l = none) : (1 ≤ w ∧ w ≤ 9999) ∧ ∀ z, l = some z → z ∈ b.names := by
  unfold wRef at h
  by_cases c : 1 ≤ w ∧ w ≤ 9999
  · rw [if_neg (fun z => z c)] at h
    by_cases c2 : inNm b l = true
    · exact ⟨c, inNm_mem c2⟩
    · rw [if_neg c2] at h; cases h
  · rw [if_pos c] at h; cases h
theorem WFY.fnd (w : WFY b s) {n v : Int} {o : Option Str} (h0 : 0 ≤ n) (hn : isMade s.things n = false) (hl : n < (s.things.length : Int)) (hv : 1 ≤ v ∧ v ≤ 9999) (ho : ∀ z, o = some z → z ∈ b.names) : WFY b (s.fnd n v o) := by
  have len : (s.things.set n.toNat (.raw v o)).length = s.things.length := List.length_set
  have get : ∀ (i : Nat) u, (s.things.set n.toNat (.raw v o))[i]? = some u → (i = n.toNat ∧ u = .raw v o) ∨ (i ≠ n.toNat ∧ s.things[i]? = some u) := fun i u e => by
    by_cases hi : i = n.toNat
    · subst hi
      rw [List.getElem?_set_self (by omega)] at e
      exact .inl ⟨rfl, (Option.some.inj e).symm⟩
    · rw [List.getElem?_set_ne (Ne.symm hi)] at e
      exact .inr ⟨hi, e⟩
  refine ⟨⟨by show (s.things.set _ _).length ≤ 200; rw [len]; exact w.t.n, fun i v' o' e => ?_, fun i z xs e => ?_⟩, w.ln, fun x hx => ?_, w.ll, w.gl, fun p hp => ?_⟩
  · rcases get i _ e with ⟨_, e⟩ | ⟨_, e⟩
    · cases e; exact ⟨hv.1, hv.2, ho⟩
    · exact w.t.raw i v' o' e
  · rcases get i _ e with ⟨_, e⟩ | ⟨_, e⟩
    · cases e
    · exact w.t.made i z xs e
  · show 0 ≤ x ∧ x < ((s.things.set _ _).length : Int)
    rw [len]; exact w.lr x hx
  · show 0 ≤ p.1 ∧ p.1 < ((s.things.set _ _).length : Int)
    rw [len]; exact w.gr p hp
theorem does_wf (w : WFY b s) {d : Deed} (hd : d.ref b s = none) (l : s.things.length < 200) (g : s.gone.length < 200) : WFY b (d.does s) := by
  cases d with
  | take v o =>
    obtain ⟨h1, h2⟩ := wRef_ok (Option.map_eq_none_iff.mp hd)
    exact w.take h1 h2 l
  | make z xs =>
    have h : mRef b s z xs = none := Option.map_eq_none_iff.mp hd
    unfold mRef at h
    by_cases c : z ∈ b.names
    · rw [if_neg (fun n => n c)] at h
      by_cases c2 : xs = [] ∨ (∃ x ∈ xs, x ∉ s.lying) ∨ ¬xs.Nodup
      · rw [if_pos c2] at h; cases h
      · exact w.mk' c (fun e => c2 (.inl e)) (fun x hx => Classical.byContradiction fun n => c2 (.inr (.inl ⟨x, hx, n⟩))) (Classical.byContradiction fun n => c2 (.inr (.inr n))) l
    · rw [if_pos c] at h; cases h
  | send n z =>
    have h : sRef b s n z = none := hd
    unfold sRef at h
    by_cases c : n ∈ s.lying
    · exact w.snd z c g
    · rw [if_pos c] at h; cases h
  | find n v o =>
    have h : fRef b s n v o = none := Option.map_eq_none_iff.mp hd
    unfold fRef at h
    by_cases c : ¬(0 ≤ n ∧ n < (s.things.length : Int)) ∨ isMade s.things n = true
    · rw [if_pos c] at h; cases h
    · rw [if_neg c] at h
      obtain ⟨h1, h2⟩ := wRef_ok h
      have c1 : 0 ≤ n ∧ n < (s.things.length : Int) := Classical.byContradiction fun x => c (.inl x)
      exact w.fnd c1.1 (by
        cases hm : isMade s.things n with
        | false => rfl
        | true => exact absurd (.inr hm) c) c1.2 h1 h2
theorem Run.len (r : Run b s L) : s.things.length ≤ L.length ∧ s.gone.length ≤ L.length := by
  induction r with
  | nil => exact ⟨Nat.le_refl _, Nat.le_refl _⟩
  | @step s L d _ _ _ ih =>
    rw [List.length_append]
    cases d with
    | take v o => exact ⟨by show (s.things ++ _).length ≤ _; simp; omega, by show s.gone.length ≤ _; simp; omega⟩
    | make z xs => exact ⟨by show (s.things ++ _).length ≤ _; simp; omega, by show s.gone.length ≤ _; simp; omega⟩
    | send n z => exact ⟨by show s.things.length ≤ _; simp; omega, by show (s.gone ++ _).length ≤ _; simp; omega⟩
    | find n v o => exact ⟨by show (s.things.set _ _).length ≤ _; simp; omega, by show s.gone.length ≤ _; simp; omega⟩
theorem Run.wf (r : Run b s L) (l : L.length < 200) : WFY b s := by
  induction r with
  | nil => exact ⟨⟨by simp, fun i _ _ e => (nomatch e), fun i _ _ e => (nomatch e)⟩, List.nodup_nil, fun _ h => absurd h (by simp), by simp, by simp, fun _ h => absurd h (by simp)⟩
  | @step s L d r _ hd ih =>
    rw [List.length_append] at l
    have := r.len
    exact does_wf (ih (by omega)) hd (by omega) (by omega)
theorem Run.count (r : Run b s L) : ((L.map Deed.enc).filter isNew).length = s.things.length := by
  induction r with
  | nil => rfl
  | @step s L d _ _ _ ih =>
    rw [List.map_append, List.filter_append, List.length_append, ih]
    cases d with
    | take v o =>
      show s.things.length + _ = (s.things ++ _).length
      rw [List.length_append]; congr 1
    | make z xs =>
      show s.things.length + _ = (s.things ++ _).length
      rw [List.length_append]; congr 1
    | send n z => show s.things.length + _ = s.things.length; rfl
    | find n v o =>
      show s.things.length + _ = (s.things.set _ _).length
      rw [List.length_set]; rfl
end
end DL
namespace DL
open PySem PySem.Spec PyProof.Rows L2
structure DwS (ns : List Int) (t r p : Addr) (kvs : List (Key × Val)) (h0 h : Hv) : Prop where
  T : Town t r h
  o : Only t r h0 h
  hp : h p = some (.dK kvs)
section
variable {ns : List Int} {t r p : Addr} {kvs : List (Key × Val)} {h0 h : Hv} {ρ : Sl} {E : PX}
theorem DwS.next (s : DwS ns t r p kvs h0 h) (pt : p ≠ t) (pr : p ≠ r) {h' : Hv} (T : Town t r h') (o : Only t r h h') : DwS ns t r p kvs h0 h' := ⟨T, s.o.trans o, by rw [o p pt pr]; exact s.hp⟩
theorem DwS.ne (s : DwS ns t r p kvs h0 h) {D : Addr} (nD : h D = none) : D ≠ t ∧ D ≠ r ∧ D ≠ p := by
  obtain ⟨_, _, e1⟩ := s.T.tc
  obtain ⟨_, e2, _⟩ := s.T.rc
  exact ⟨fun z => (by rw [z, e1] at nD; cases nD), fun z => (by rw [z, e2] at nD; cases nD), fun z => (by rw [z, s.hp] at nD; cases nD)⟩
theorem DwS.bz (s : DwS ns t r p kvs h0 h) {D : Addr} (nD : h D = none) : DwS ns t r p kvs (DL.put h0 D .busy) (DL.put h D .busy) := by
  obtain ⟨n1, n2, n3⟩ := s.ne nD
  obtain ⟨c, c0, e1⟩ := s.T.tc
  obtain ⟨rs, e2, k⟩ := s.T.rc
  refine ⟨⟨s.T.ne, ⟨c, c0, by rw [put_ne n1.symm]; exact e1⟩, rs, by rw [put_ne n2.symm]; exact e2, k⟩, fun a h1 h2 => ?_, by rw [put_ne n3.symm]; exact s.hp⟩
  by_cases e : a = D
  · rw [e, put_same, put_same]
  · rw [put_ne e, put_ne e]; exact s.o a h1 h2
theorem DwS.dr {D : Addr} (nD : h0 D = none) (n1 : D ≠ t) (n2 : D ≠ r) (n3 : D ≠ p) (s : DwS ns t r p kvs (DL.put h0 D .busy) h) : DwS ns t r p kvs h0 (DL.drop h D) := by
  obtain ⟨c, c0, e1⟩ := s.T.tc
  obtain ⟨rs, e2, k⟩ := s.T.rc
  refine ⟨⟨s.T.ne, ⟨c, c0, by rw [drop_ne n1.symm]; exact e1⟩, rs, by rw [drop_ne n2.symm]; exact e2, k⟩, fun a h1 h2 => ?_, by rw [drop_ne n3.symm]; exact s.hp⟩
  by_cases e : a = D
  · rw [e, drop_same, nD]
  · rw [drop_ne e, s.o a h1 h2, put_ne e]
theorem x_drw {dm : ED} {m : Int} {Q : PV} (s : DwS ns t r p kvs h0 h) (nl : ns.length ≤ 63) (pt : p ≠ t) (pr : p ≠ r) (m0 : 0 < m) (m1 : m < 1073741824) (e0 : ρ[0]? = some (some (.scr ns))) (e1 : ρ[1]? = some (some (.ref t))) (hm : EvE ρ h E dm (.int m))
    (q : ∀ n h', 0 ≤ n → n < m → DwS ns t r p kvs h0 h' → Q (.int n) h') : dCall 3 S__law_draw (aCons (dVar 0) (aCons (dVar 1) (aCons dm aNil))) ρ h Q E :=
  (eva_cons (ev_var e0) (eva2 (ev_var e1) hm)) _ ⟨rfl, ns, t, r, m, rfl, m0, m1, nl, s.T, fun n h' n0 n1 T' o' => q n h' n0 n1 (s.next pt pr T' o')⟩
theorem x_ifDrw {dm a b : ED} {m : Int} {Q : PV} (s : DwS ns t r p kvs h0 h) (nl : ns.length ≤ 63) (pt : p ≠ t) (pr : p ≠ r) (m0 : 0 < m) (m1 : m < 1073741824) (e0 : ρ[0]? = some (some (.scr ns))) (e1 : ρ[1]? = some (some (.ref t))) (hm : EvE ρ h E dm (.int m))
    (q1 : ∀ h', DwS ns t r p kvs h0 h' → a ρ h' Q E) (q2 : ∀ h', DwS ns t r p kvs h0 h' → b ρ h' Q E) : dIfE (dTest (dBin fGt (dCall 3 S__law_draw (aCons (dVar 0) (aCons (dVar 1) (aCons dm aNil)))) (dC (.int 0)))) a b ρ h Q E := by
  show dCall 3 S__law_draw _ _ _ _ _
  refine x_drw s nl pt pr m0 m1 e0 e1 hm fun n h' n0 n1 s' => ?_
  show if decide (n > 0) = true then a ρ h' Q E else b ρ h' Q E
  split
  · exact q1 h' s'
  · exact q2 h' s'
theorem ev_plain {d : ED} {k : Str} {v : Val} (hp : h p = some (.dK kvs)) (e : EvE ρ h E d (.ref p)) (hv : valA kvs (.inr k) = some v) : EvE ρ h E (dDGet d (dC (.str k))) v := ev_dget e ev_c (by
  unfold dgetA
  simp only [hp, keyOf, hv])
end
theorem x_lastZ {ρ : Sl} {h : Hv} {E : PX} {da : ED} {QA : List Val → Hv → Prop} (q : da ρ h (fun v h1 => QA [v] h1) E) : aCons da aNil ρ h QA E := q
theorem x_consZ {ρ : Sl} {h : Hv} {E : PX} {da : ED} {aa : AD} {QA : List Val → Hv → Prop} (q : da ρ h (fun v h1 => aa ρ h1 (fun vs h2 => QA (v :: vs) h2) E) E) : aCons da aa ρ h QA E := q
theorem x_andZ {ρ : Sl} {h : Hv} {E : PX} {ta tb : TD} {QT : Bool → Hv → Prop} (q : ta ρ h (fun k h1 => if k = true then tb ρ h1 QT E else QT false h1) E) : dAnd ta tb ρ h QT E := q
theorem x_setZ {i : Nat} {d : ED} {ρ : Sl} {h : Hv} {E : PX} {D : AE} (q : d ρ h (fun v h => D.nx (ρ.set i (some v)) h) E) : sSet i d ρ h D E := q
theorem x_par2Z {i j : Nat} {d1 d2 : ED} {s2 : SD} {ρ : Sl} {h : Hv} {D : AE} {E : PX} (q : d1 ρ h (fun v h1 => d2 ρ h1 (fun w h2 => s2 ((ρ.set i (some v)).set j (some w)) h2 D E) E) E) : sSeq (sPar [i, j] (aCons d1 (aCons d2 aNil))) s2 ρ h D E := q
set_option maxHeartbeats 1000000 in
theorem bo__law_a_deed (N : List Str) (hN : N.length = 15) : ∀ as h Q E, as.length = 4 → S__law_a_deed as h Q E → den__law_a_deed (startA N as) h (endsR Q) (RX E) := by
  rintro as h0 Q E - ⟨ns, t, r, p, b, kvs, vs, here, rfl, nl, T, db, hp, k1, k2, vl, hl, hp0, pt, pr, q⟩
  unfold den__law_a_deed
  simp only [startA, hN]
  have wf := db.wf
  have n1 := wf.n1
  have n4 := wf.n4
  have s0 : DwS ns t r p kvs h0 h0 := ⟨T, Only.refl _, hp⟩
  have bl : b.names.length = b.lands.length := by unfold Book.names; rw [List.length_map]
  refine ss_par2 (v := .int (vs.length : Int)) (w := .lst (b.names.map .str)) (eva2 (ev_cb (eva1 (ev_plain hp (ev_var (v := .ref p)) k1)) c_lenL) ((ev_lc b.lands encL (fun l => .str l.nm) (evi_it (v := .tup (b.lands.map encL)) (ev_bin (ev_var (v := encB b)) ev_c (f_ixI (i := 0) rfl (by decide) rfl)) rfl) (fun _ _ => trivial) (by rw [sizeLine_eq]; omega) fun l hl => ⟨_, rfl, fun h' sb => ev_bin (ev_var (v := encL l)) ev_c (f_ixI (i := 0) rfl (by decide) rfl)⟩).cast (by unfold Book.names; rw [List.map_map]; rfl))) ?_
  refine x_set (x_bin (ev_lst (vs := (["take_in", "take_in", "make", "make", "send", "find"] : List Str).map .str) (eva_cons ev_c (eva_cons ev_c (eva_cons ev_c (eva_cons ev_c (eva2 ev_c ev_c))))) (by rw [sizeLine_eq]; simp) _ (x_drw (m := 6) s0 nl pt pr (by decide) (by decide) rfl rfl ev_c fun k6 h1 k60 k61 s1 => ?_)))
  obtain ⟨wd, hw, wm⟩ : ∃ wd : Str, (["take_in", "take_in", "make", "make", "send", "find"] : List Str)[k6.toNat]? = some wd ∧ (wd = "take_in" ∨ wd = "make" ∨ wd = "send" ∨ wd = "find") := by
    have : k6.toNat < 6 := by omega
    match k6.toNat, this with
    | 0, _ => exact ⟨_, rfl, .inl rfl⟩
    | 1, _ => exact ⟨_, rfl, .inl rfl⟩
    | 2, _ => exact ⟨_, rfl, .inr (.inl rfl)⟩
    | 3, _ => exact ⟨_, rfl, .inr (.inl rfl)⟩
    | 4, _ => exact ⟨_, rfl, .inr (.inr (.inl rfl))⟩
    | 5, _ => exact ⟨_, rfl, .inr (.inr (.inr rfl))⟩
  refine f_ixI (u := .str wd) (vs := (["take_in", "take_in", "make", "make", "send", "find"] : List Str).map .str) rfl k60 (by rw [List.getElem?_map, hw]; rfl) _ ?_
  refine x_set (x_bin ((ev_var (v := .lst (b.names.map .str))) _ (x_drw (m := (b.names.length : Int)) s1 nl pt pr (by omega) (by omega) rfl rfl ((ev_cb (eva1 (ev_var (v := .lst (b.names.map .str)))) c_lenL).cast (by rw [List.length_map])) fun kz h2 kz0 kz1 s2 => ?_)))
  obtain ⟨z, hz⟩ : ∃ z, b.names[kz.toNat]? = some z := ⟨b.names[kz.toNat]'(by omega), List.getElem?_eq_getElem (by omega)⟩
  have zm : z ∈ b.names := List.mem_of_getElem? hz
  refine f_ixI (u := .str z) (vs := b.names.map .str) rfl kz0 (by rw [List.getElem?_map, hz]; rfl) _ ?_
  refine x_par2Z (x_drw (m := (vs.length : Int) + 1) s2 nl pt pr (by omega) (by omega) rfl rfl (ev_bin (ev_var (v := .int (vs.length : Int))) ev_c (f_add _ _)) fun one h3 o0 o1 s3 => x_drw (m := (vs.length : Int) + 1) s3 nl pt pr (by omega) (by omega) rfl rfl (ev_bin (ev_var (v := .int (vs.length : Int))) ev_c (f_add _ _)) fun two h4 t0 t1 s4 => ?_)
  have fin : ∀ (d : Deed) h', DwS ns t r p kvs h0 h' → d.ok → (∀ z ∈ d.lands, z ∈ b.names ∨ z = "zz") → RT Q d.enc h' := fun d h' s' ok ld => RT.same (q d h' ok ld s'.T s'.o)
  have xz : ∀ {ρ : Sl} {h : Hv} {E : PX} {Q : PV} (s : DwS ns t r p kvs h0 h) (e0 : ρ[0]? = some (some (.scr ns))) (e1 : ρ[1]? = some (some (.ref t))) (e4 : ρ[4]? = some (some (.str z))) (q : ∀ y h', (y ∈ b.names ∨ y = "zz") → DwS ns t r p kvs h0 h' → Q (.str y) h'), dIfE (dTest (dBin fGt (dCall 3 S__law_draw (aCons (dVar 0) (aCons (dVar 1) (aCons (dC (.int 12)) aNil)))) (dC (.int 0)))) (dVar 4) (dC (.str "zz")) ρ h Q E := fun s e0 e1 e4 q =>
    x_ifDrw s nl pt pr (by decide) (by decide) e0 e1 ev_c (fun h' s' => (ev_var e4) _ (q z h' (.inl zm) s')) (fun h' s' => q "zz" h' (.inr rfl) s')
  by_cases cm : wd = "make"
  · subst cm
    refine ss_yes (evt_word (ev_var (v := .str "make")) (by decide +kernel)) ?_
    refine ss_set (ev_plain s4.hp (ev_var (v := .ref p)) k2) ?_
    refine ss_set (v := .lst (([0] : List Int).map .int)) (ev_lst (eva1 ev_c) (by rw [sizeLine_eq]; simp)) ?_
    refine seq_mid (fun ρ h => DwS ns t r p kvs h0 h ∧ ∃ (xs : List Int) (x14 : Option Val), xs.length ≤ 4 ∧ (∀ x ∈ xs, 0 ≤ x) ∧ ρ = [some (.scr ns), some (.ref t), some (encB b), some (.ref p), some (.str z), some (.int (vs.length : Int)), some (.lst (b.names.map .str)), some (.str "make"), some (.int one), some (.int two), some (.lst (here.map .int)), some (.lst (xs.map .int)), none, none, x14]) (fun N1 hN1 => ?_) ?_
    · have et : EvT [some (.scr ns), some (.ref t), some (encB b), some (.ref p), some (.str z), some (.int (vs.length : Int)), some (.lst (b.names.map .str)), some (.str "make"), some (.int one), some (.int two), some (.lst (here.map .int)), some (.lst (([0] : List Int).map .int)), none, none, none] h4 (RX E) (dTest (dBin fNe (dVar 10) (dLst aNil))) (!decide (here = [])) := evt_test (ev_bin (ev_var (v := .lst (here.map .int))) (ev_lst eva_nil (by rw [sizeLine_eq]; simp)) (f_neLnil (by omega)))
      by_cases c0 : here = []
      · rw [decide_eq_true c0] at et
        exact so_no et (hN1 _ _ ⟨s4, [0], none, by simp, by simp, rfl⟩)
      · rw [decide_eq_false c0] at et
        refine so_yes et ?_
        have hlen : 0 < here.length := List.length_pos_iff.mpr c0
        show dCall 3 S__law_draw _ _ _ _ _
        refine x_drw (m := 3) s4 nl pt pr (by decide) (by decide) rfl rfl ev_c fun kk h5 kk0 kk1 s5 => ?_
        have step : dLc (fun _ h Q _ => Q ⟨(List.range (1 + kk).toNat).map fun (i : Nat) => .int (0 + (i : Nat)), fun _ => True⟩ h) (.nm 14) tTrue (dBin fIx (dVar 10) (dCall 3 S__law_draw (aCons (dVar 0) (aCons (dVar 1) (aCons (dCB fLen (aCons (dVar 10) aNil)) aNil))))) [14] [some (.scr ns), some (.ref t), some (encB b), some (.ref p), some (.str z), some (.int (vs.length : Int)), some (.lst (b.names.map .str)), some (.str "make"), some (.int one), some (.int two), some (.lst (here.map .int)), some (.lst (([0] : List Int).map .int)), none, none, none] h5 (fun v h' => N1 [some (.scr ns), some (.ref t), some (encB b), some (.ref p), some (.str z), some (.int (vs.length : Int)), some (.lst (b.names.map .str)), some (.str "make"), some (.int one), some (.int two), some (.lst (here.map .int)), some v, none, none, none] h') (RX E) := by
          refine lc_ind (items := (List.range (1 + kk).toNat).map fun (i : Nat) => .int (0 + (i : Nat))) (ok := fun _ => True) (fun D items acc h' => ∃ xs : List Int, acc = xs.map .int ∧ xs.length + items.length ≤ 4 ∧ (∀ x ∈ xs, 0 ≤ x) ∧ h5 D = none ∧ DwS ns t r p kvs (put h0 D .busy) h') (fun R r => r) (fun D nD => ⟨[], rfl, by simp; omega, fun _ h => absurd h (by simp), nD, s5.bz nD⟩) ?_ ?_
          · rintro D acc h' ⟨xs, rfl, xl, x0, nD, s'⟩
            obtain ⟨n1, n2, n3⟩ := s5.ne nD
            exact ⟨trivial, hN1 _ _ ⟨DwS.dr (by rw [← s5.o D n1 n2]; exact nD) n1 n2 n3 s', xs, none, by simpa using xl, x0, rfl⟩⟩
          · rintro D v items acc h' ⟨xs, rfl, xl, x0, nD, s'⟩
            refine ⟨trivial, _, rfl, fun N2 hN2 => ?_⟩
            simp only [tTrue, if_true]
            refine x_bin ((ev_var (v := .lst (here.map .int))) _ (x_drw (m := (here.length : Int)) s' nl pt pr (by omega) (by omega) rfl rfl ((ev_cb (eva1 (ev_var (v := .lst (here.map .int)))) c_lenL).cast (by rw [List.length_map])) fun j h6 j0 j1 s6 => ?_))
            have hj : j.toNat < here.length := by omega
            refine f_ixI (u := .int (here[j.toNat])) (vs := here.map .int) rfl j0 (by rw [List.getElem?_map, List.getElem?_eq_getElem hj]; rfl) _ ?_
            refine ⟨by rw [List.length_map, sizeLine_eq]; omega, hN2 _ _ ⟨xs ++ [here[j.toNat]], by rw [List.map_append]; rfl, by simp at xl ⊢; omega, fun x hx => ?_, nD, s6⟩⟩
            rcases List.mem_append.mp hx with h | h
            · exact x0 x h
            · rw [List.mem_singleton.mp h]; exact hp0 _ (List.getElem_mem hj)
        exact ⟨by show -(2 ^ 62) ≤ 1 + kk; omega, by show 1 + kk < 2 ^ 62; omega, step⟩
    · rintro ρ h5 ⟨s5, xs, x14, xl, x0, rfl⟩
      have tail : ∀ h6 (ys : List Int), DwS ns t r p kvs h0 h6 → ys.length ≤ 8 → (∀ y ∈ ys, 0 ≤ y) → sRet (dTup (aCons (dVar 7) (aCons (dTup (aCons (dIfE (dTest (dBin fGt (dCall 3 S__law_draw (aCons (dVar 0) (aCons (dVar 1) (aCons (dC (.int 12)) aNil)))) (dC (.int 0)))) (dVar 4) (dC (.str "zz"))) (aCons (dCB fTuple (aCons (dVar 11) aNil)) aNil))) aNil))) [some (.scr ns), some (.ref t), some (encB b), some (.ref p), some (.str z), some (.int (vs.length : Int)), some (.lst (b.names.map .str)), some (.str "make"), some (.int one), some (.int two), some (.lst (here.map .int)), some (.lst (ys.map .int)), none, none, x14] h6 (endsR Q) (RX E) := fun h6 ys s6 yl y0 => by
        refine x_retY (x_tup (x_cons (v := .str "make") (ev_var (v := .str "make")) (x_lastZ (x_tup (x_consZ (xz s6 rfl rfl rfl fun y h7 hy s7 => ?_))))))
        refine x_lastZ (ev_tupleL (ev_var (v := .lst (ys.map .int))) _ ?_)
        exact ⟨by rw [sizeLine_eq]; simp, by rw [sizeLine_eq]; simp, fin (.make y ys) h7 s7 ⟨yl, y0⟩ fun z hz => by rw [List.mem_singleton.mp hz]; exact hy⟩
      refine x_set (x_ifDrw s5 nl pt pr (by decide) (by decide) rfl rfl ev_c (fun h6 s6 => ?_) (fun h6 s6 => ?_))
      · refine (ev_var (v := .lst (xs.map .int))) _ ⟨xs, by simp only [listOf, Option.bind_some, intsOf_map'], by omega, fun ms pw mm => tail h6 ms s6 ?_ fun y hy => x0 y ((mm y).mp hy)⟩
        have := (nd_lenY (pw.imp fun h => Int.ne_of_lt h) mm).1
        omega
      · refine ev_bin (ev_var (v := .lst (xs.map .int))) (ev_lst (eva1 (ev_var (v := .int two))) (by rw [sizeLine_eq]; simp)) (f_addL rfl rfl (by rw [sizeLine_eq, List.length_map]; simp; omega)) _ ?_
        have := tail h6 (xs ++ [two]) s6 (by simp; omega) (fun y hy => by
          rcases List.mem_append.mp hy with h | h
          · exact x0 y h
          · rw [List.mem_singleton.mp h]; exact t0)
        rw [List.map_append] at this
        exact this
  · refine ss_no (evt_word (ev_var (v := .str wd)) (decide_eq_false cm)) ?_
    by_cases cs : wd = "send"
    · subst cs
      refine ss_yes (evt_word (ev_var (v := .str "send")) (by decide +kernel)) ?_
      have eh : ∀ {h : Hv} {ρ : Sl} {E : PX}, DwS ns t r p kvs h0 h → ρ[3]? = some (some (.ref p)) → EvE ρ h E (dDGet (dVar 3) (dC (.str "here"))) (.lst (here.map .int)) := fun s e => ev_plain s.hp (ev_var e) k2
      refine seq_mid (fun ρ h => DwS ns t r p kvs h0 h ∧ ∃ m : Int, 0 ≤ m ∧ ρ = [some (.scr ns), some (.ref t), some (encB b), some (.ref p), some (.str z), some (.int (vs.length : Int)), some (.lst (b.names.map .str)), some (.str "send"), some (.int m), some (.int two), none, none, none, none, none]) (fun N1 hN1 => ?_) ?_
      · refine x_if (x_andZ (evt_test (ev_bin (eh s4 rfl) (ev_lst eva_nil (by rw [sizeLine_eq]; simp)) (f_neLnil (by omega))) _ ?_))
        by_cases c0 : here = []
        · rw [decide_eq_true c0]
          exact hN1 _ _ ⟨s4, one, o0, rfl⟩
        · rw [decide_eq_false c0, if_pos (show (!false) = true from rfl)]
          show dCall 3 S__law_draw _ _ _ _ _
          refine x_drw (m := 6) s4 nl pt pr (by decide) (by decide) rfl rfl ev_c fun k9 h5 k90 k91 s5 => ?_
          show if decide (k9 > 0) = true then _ else _
          split
          · have hlen : 0 < here.length := List.length_pos_iff.mpr c0
            refine x_setZ (x_bin ((eh s5 rfl) _ (x_drw (m := (here.length : Int)) s5 nl pt pr (by omega) (by omega) rfl rfl ((ev_cb (eva1 (eh s5 rfl)) c_lenL).cast (by rw [List.length_map])) fun j h6 j0 j1 s6 => ?_)))
            have hj : j.toNat < here.length := by omega
            refine f_ixI (u := .int (here[j.toNat])) (vs := here.map .int) rfl j0 (by rw [List.getElem?_map, List.getElem?_eq_getElem hj]; rfl) _ ?_
            exact hN1 _ _ ⟨s6, _, hp0 _ (List.getElem_mem hj), rfl⟩
          · exact hN1 _ _ ⟨s5, one, o0, rfl⟩
      · rintro ρ h5 ⟨s5, m, m0, rfl⟩
        refine (x_retY (x_tup (x_cons (v := .str "send") (ev_var (v := .str "send")) (x_lastZ (x_tup (x_cons (v := .int m) (ev_var (v := .int m)) (x_lastZ (xz s5 rfl rfl rfl fun y h7 hy s7 => ?_))))))))
        exact ⟨by rw [sizeLine_eq]; simp, by rw [sizeLine_eq]; simp, fin (.send m y) h7 s7 m0 fun z hz => by rw [List.mem_singleton.mp hz]; exact hy⟩
    · refine ss_no (evt_word (ev_var (v := .str wd)) (decide_eq_false cs)) ?_
      refine x_set (x_bin (ev_c _ (x_drw (m := 40) s4 nl pt pr (by decide) (by decide) rfl rfl ev_c fun w0 h5 w00 w01 s5 => ?_)))
      have wf2 : wd = "take_in" ∨ wd = "find" := by
        rcases wm with e | e | e | e
        · exact .inl e
        · exact absurd e cm
        · exact absurd e cs
        · exact .inr e
      have tail : ∀ h6 (w : Int) (o : Option Str), DwS ns t r p kvs h0 h6 → 0 ≤ w → w ≤ 10000 → (∀ y, o = some y → y ∈ b.names ∨ y = "zz") → sRet (dTup (aCons (dVar 7) (aCons (dIfE (dTest (dBin fEq (dVar 7) (dC (.str "take_in")))) (dTup (aCons (dVar 12) (aCons (dVar 13) aNil))) (dTup (aCons (dVar 8) (aCons (dVar 12) (aCons (dVar 13) aNil))))) aNil))) [some (.scr ns), some (.ref t), some (encB b), some (.ref p), some (.str z), some (.int (vs.length : Int)), some (.lst (b.names.map .str)), some (.str wd), some (.int one), some (.int two), none, none, some (.int w), some (encO o), none] h6 (endsR Q) (RX E) := fun h6 w o s6 w0 w1 ho => by
        have ol : ∀ y ∈ o.toList, y ∈ b.names ∨ y = "zz" := fun y hy => ho y (by simpa using hy)
        rcases wf2 with e | e
        · subst e
          exact s_ret (ev_tup (eva2 (ev_var (v := .str "take_in")) (ev_if (k := true) (evt_word (ev_var (v := .str "take_in")) (by decide +kernel)) (fun _ => ev_tup (eva2 (ev_var (v := .int w)) (ev_var (v := encO o))) (by rw [sizeLine_eq]; simp)) fun z => nomatch z)) (by rw [sizeLine_eq]; simp)) (fin (.take w o) h6 s6 ⟨w0, w1⟩ ol)
        · subst e
          exact s_ret (ev_tup (eva2 (ev_var (v := .str "find")) (ev_if (k := false) (evt_word (ev_var (v := .str "find")) (by decide +kernel)) (fun z => nomatch z) fun _ => ev_tup (eva_cons (ev_var (v := .int one)) (eva2 (ev_var (v := .int w)) (ev_var (v := encO o)))) (by rw [sizeLine_eq]; simp))) (by rw [sizeLine_eq]; simp)) (fin (.find one w o) h6 s6 ⟨o0, w0, w1⟩ ol)
      have mid : ∀ h6 (w : Int), DwS ns t r p kvs h0 h6 → 0 ≤ w → w ≤ 10000 → sSeq (sSet 13 (dIfE (dTest (dBin fGt (dCall 3 S__law_draw (aCons (dVar 0) (aCons (dVar 1) (aCons (dC (.int 12)) aNil)))) (dC (.int 0)))) (dBin fIx (dBin fAdd (dVar 6) (dLst (aCons (dC .non) (aCons (dC .non) aNil)))) (dCall 3 S__law_draw (aCons (dVar 0) (aCons (dVar 1) (aCons (dBin fAdd (dCB fLen (aCons (dVar 6) aNil)) (dC (.int 2))) aNil))))) (dC (.str "zz")))) (sRet (dTup (aCons (dVar 7) (aCons (dIfE (dTest (dBin fEq (dVar 7) (dC (.str "take_in")))) (dTup (aCons (dVar 12) (aCons (dVar 13) aNil))) (dTup (aCons (dVar 8) (aCons (dVar 12) (aCons (dVar 13) aNil))))) aNil)))) [some (.scr ns), some (.ref t), some (encB b), some (.ref p), some (.str z), some (.int (vs.length : Int)), some (.lst (b.names.map .str)), some (.str wd), some (.int one), some (.int two), none, none, some (.int w), none, none] h6 (endsR Q) (RX E) := fun h6 w s6 w0 w1 => by
        refine x_set (x_ifDrw s6 nl pt pr (by decide) (by decide) rfl rfl ev_c (fun h7 s7 => ?_) (fun h7 s7 => tail h7 w (some "zz") s7 w0 w1 fun y e => .inr (Option.some.inj e).symm))
        refine x_bin (ev_bin (ev_var (v := .lst (b.names.map .str))) (ev_lst (eva2 ev_c ev_c) (by rw [sizeLine_eq]; simp)) (f_addL rfl rfl (by rw [sizeLine_eq, List.length_map]; simp; omega)) _ (x_drw (m := (b.names.length : Int) + 2) s7 nl pt pr (by omega) (by omega) rfl rfl (ev_bin ((ev_cb (eva1 (ev_var (v := .lst (b.names.map .str)))) c_lenL).cast (by rw [List.length_map])) ev_c (f_add _ _)) fun j h8 j0 j1 s8 => ?_))
        have eL : b.names.map Val.str ++ [.non, .non] = (b.names.map some ++ [none, none]).map encO := by rw [List.map_append, List.map_map]; rfl
        have hj : j.toNat < (b.names.map some ++ [none, none]).length := by simp; omega
        refine f_ixI (u := encO ((b.names.map some ++ [none, none])[j.toNat])) (vs := b.names.map Val.str ++ [.non, .non]) rfl j0 (by rw [eL, List.getElem?_map, List.getElem?_eq_getElem hj]; rfl) _ ?_
        refine tail h8 w _ s8 w0 w1 fun y e => .inl ?_
        have hm := List.getElem_mem hj
        rw [e] at hm
        rcases List.mem_append.mp hm with h | h
        · obtain ⟨x, hx, ex⟩ := List.mem_map.mp h
          cases ex; exact hx
        · simp at h
      refine x_set (x_ifDrw s5 nl pt pr (by decide) (by decide) rfl rfl ev_c (fun h6 s6 => (ev_var (v := .int (1 + w0))) _ (mid h6 (1 + w0) s6 (by omega) (by omega))) (fun h6 s6 => ?_))
      refine x_bin (ev_lst (vs := ([0, 10000] : List Int).map .int) (eva2 ev_c ev_c) (by rw [sizeLine_eq]; simp) _ (x_drw (m := 2) s6 nl pt pr (by decide) (by decide) rfl rfl ev_c fun j h7 j0 j1 s7 => ?_))
      have hj : j.toNat < ([0, 10000] : List Int).length := by simp; omega
      refine f_ixI (u := .int (([0, 10000] : List Int)[j.toNat])) (vs := ([0, 10000] : List Int).map .int) rfl j0 (by rw [List.getElem?_map, List.getElem?_eq_getElem hj]; rfl) _ ?_
      have hm : ([0, 10000] : List Int)[j.toNat] = 0 ∨ ([0, 10000] : List Int)[j.toNat] = 10000 := by
        have all : ∀ (k : Nat) (h : k < ([0, 10000] : List Int).length), ([0, 10000] : List Int)[k] = 0 ∨ ([0, 10000] : List Int)[k] = 10000 := fun k h => match k, h with
          | 0, _ => .inl rfl
          | 1, _ => .inr rfl
        exact all _ hj
      exact mid h7 _ s7 (by rcases hm with e | e <;> rw [e] <;> decide) (by rcases hm with e | e <;> rw [e] <;> decide)
end DL
namespace DL
open PySem PySem.Spec PyProof.Rows L2
theorem ref_kind {b : Book} {s : St} {d : Deed} {e : Str} {pl : Option Val} (h : d.ref b s = some (e, pl)) : (e ∈ (["BadBook", "NoLand", "NoThing", "NoWorth"] : List Str) ∧ pl = none) ∨ (e = "NotOf" ∧ ∃ v, pl = some v) := by
  have wk : ∀ {w : Int} {l : Option Str} {e : Str}, wRef b w l = some e → e ∈ (["BadBook", "NoLand", "NoThing", "NoWorth"] : List Str) := fun {w l e} h => by
    unfold wRef at h
    split at h
    · cases h; decide
    · split at h
      · cases h
      · cases h; decide
  cases d with
  | take w l =>
    obtain ⟨e', he, e2⟩ := Option.map_eq_some_iff.mp h
    cases e2
    exact .inl ⟨wk he, rfl⟩
  | make z xs =>
    obtain ⟨e', he, e2⟩ := Option.map_eq_some_iff.mp h
    cases e2
    refine .inl ⟨?_, rfl⟩
    unfold mRef at he
    split at he
    · cases he; decide
    · split at he
      · cases he; decide
      · cases he
  | send n z =>
    have h : sRef b s n z = some (e, pl) := h
    unfold sRef at h
    split at h
    · cases h; exact .inl ⟨by decide, rfl⟩
    · split at h
      · cases h; exact .inl ⟨by decide, rfl⟩
      · split at h
        · cases h
        · cases h; exact .inr ⟨rfl, _, rfl⟩
  | find n w l =>
    obtain ⟨e', he, e2⟩ := Option.map_eq_some_iff.mp h
    cases e2
    refine .inl ⟨?_, rfl⟩
    unfold fRef at he
    split at he
    · cases he; decide
    · exact wk he
end DL
namespace DL
open PySem PySem.Spec PySem.W PyProof.Rows L2 L2.DX
def Asc (P : Program) (w : World) (A : Around) (s : Shared) (es : Array DictEntry) (b : Bool) : Prop :=
  ∀ (i j : Nat) (e f : DictEntry), es[i]? = some e → es[j]? = some f → ∀ (s2 : Shared), (∀ c o, s.heap.get? c = some o → s2.heap.get? c = some o) → ∀ (Q : Bool → Shared → Prop), Q (decide (i < j)) s2 → KatLex P w A b false Q [(e.key, f.key), (e.val, f.val)] 0 s2
def rkA : Value → Int
  | .ref a => (a : Int)
  | _ => 0
theorem perm_rise : ∀ {l m : List Nat}, l.Perm m → l.Pairwise (· ≤ ·) → m.Pairwise (· < ·) → l = m
  | [], m, p, _, _ => by rw [List.nil_perm.mp p]
  | x :: l, [], p, _, _ => absurd p.length_eq (by simp)
  | x :: l, y :: m, p, hl, hm => by
    rw [List.pairwise_cons] at hl hm
    have e : x = y := by
      have h1 : x ∈ y :: m := p.mem_iff.mp List.mem_cons_self
      have h2 : y ∈ x :: l := p.mem_iff.mpr List.mem_cons_self
      rcases List.mem_cons.mp h1 with h | h
      · exact h
      · rcases List.mem_cons.mp h2 with h' | h'
        · exact h'.symm
        · have := hm.1 x h; have := hl.1 y h'; omega
    subst e
    rw [perm_rise ((List.perm_cons x).mp p) hl.2 hm.2]
theorem kat_of {h : Heap} : ∀ {as : List Addr} {es : List DictEntry}, as.length = es.length → (∀ (j : Nat) (a : Addr), as[j]? = some a → ∃ e, es[j]? = some e ∧ h.get? a = some { cls := .type "tuple", data := .seq #[e.key, e.val] }) → KatTups h (as.map Value.ref) (es.map (·.key))
  | [], [], _, _ => KatTups.nil
  | [], _ :: _, e, _ => by simp at e
  | _ :: _, [], e, _ => by simp at e
  | a :: as, e :: es, hl, hp => by
    obtain ⟨e', he, hg⟩ := hp 0 a rfl
    have : e = e' := Option.some.inj he
    subst this
    exact KatTups.cons hg rfl rfl rfl (kat_of (by simpa using hl) fun j b hj => hp (j + 1) b hj)
theorem paired_get' {α β : Type} {F : α → β → Prop} : ∀ {l : List α} {m : List β}, l.length = m.length → (∀ (j : Nat) (x : α) (y : β), l[j]? = some x → m[j]? = some y → F x y) → Paired F l m
  | [], [], _, _ => .nil
  | [], _ :: _, e, _ => by simp at e
  | _ :: _, [], e, _ => by simp at e
  | x :: l, y :: m, e, h => .cons (h 0 x y rfl rfl) (paired_get' (by simpa using e) fun j a b ha hb => h (j + 1) a b ha hb)
section
variable {X : Cx}
theorem sorted_asc (hh : X.A.handled = none) {pins : List (Addr × Obj)} {s : Shared} {σ : L2.St} {H : Hp} {Q : VK} (I : Inv X pins σ H s) {p a : Addr} {es : Array DictEntry} {ep : Nat} {b : Bool} {T : Value}
    (view : s.heap.IsItemsView p a) (raw : DT.Raw s.heap a es ep) (h64 : es.size < 64)
    (hT : ∀ e ∈ es.toList, ∀ s2 : Shared, (∀ c o, s.heap.get? c = some o → s2.heap.get? c = some o) → PySem.W.Looks (model X.prog X.w) s2.heap (typeOf e.key) T) (hT2 : (T == T) = true) (hb : (T != Value.type "tuple") = b)
    (hA : Asc X.prog X.w X.A.in1.in1 s es b) {kvs : List (V × V)} (hkv : Paired (fun (kv : V × V) (e : DictEntry) => RelV kv.1 e.key ∧ RelV kv.2 e.val) kvs es.toList)
    (q : ∀ (H' : Hp) (l : Addr) (as : List Addr), (∀ b o, H b = some o → H' b = some o) → H l = none → (∀ a ∈ as, H a = none) → H' l = some (.lst (as.map V.ref)) → Paired (fun (t : Addr) (kv : V × V) => H' t = some (.tup [kv.1, kv.2])) as kvs → Q (.ref l) H') :
    wpAny (model X.prog X.w) X.A (call (.builtin "sorted") [.ref p]) (EP X pins σ Q) X.xe s := by
  refine DT.sortedI (es := es) (ep := ep) hh view raw (by rw [sizeLine_eq]; omega) fun h' tk as hk hlt hl hG => ?_
  have nd : as.Nodup := List.Pairwise.imp (fun h => Nat.ne_of_lt h) hG.rise
  have hob : (h'.push { cls := .type "list", data := .seq (as.map Value.ref).toArray }).get? h'.objs.size = some (seqObj "list" (as.map Value.ref).toArray 0) := Heap.get?_push_size _ rfl
  have kb : ∀ b o, s.heap.get? b = some o → (h'.push { cls := .type "list", data := .seq (as.map Value.ref).toArray }).get? b = some o := fun b o e => Heap.get?_push_of_some _ (hk b o e)
  have ne0 : ∀ b o, h'.get? b = some o → b ≠ h'.objs.size := fun b o e => Nat.ne_of_lt (Heap.lt_size e)
  generalize hh2 : h'.push { cls := .type "list", data := .seq (as.map Value.ref).toArray } = h2 at hob kb ⊢
  have ka : ∀ b o, h'.get? b = some o → h2.get? b = some o := fun b o e => by rw [← hh2]; exact Heap.get?_push_of_some _ e
  have rise : ∀ (i j : Nat) (x y : Addr), as[i]? = some x → as[j]? = some y → (decide (rkA (.ref x) < rkA (.ref y)) = decide (i < j)) := by
    intro i j x y hi hj
    obtain ⟨li, ei⟩ := List.getElem?_eq_some_iff.mp hi
    obtain ⟨lj, ej⟩ := List.getElem?_eq_some_iff.mp hj
    have up := List.pairwise_iff_getElem.mp hG.rise
    show decide ((x : Int) < (y : Int)) = decide (i < j)
    rcases Nat.lt_trichotomy i j with h | h | h
    · have := up i j li lj h
      rw [ei, ej] at this
      rw [decide_eq_true h, decide_eq_true (Int.ofNat_lt.mpr this)]
    · subst h
      rw [ei] at ej
      subst ej
      simp
    · have := up j i lj li h
      rw [ei, ej] at this
      rw [decide_eq_false (by omega : ¬ i < j), decide_eq_false (fun z => Nat.lt_asymm this (Int.ofNat_lt.mp z))]
  have mid : ∀ (j : Nat) (a : Addr), as[j]? = some a → ∃ e, es.toList[j]? = some e ∧ (TS.midHeap h2 h'.objs.size (as.map Value.ref)).get? a = some { cls := .type "tuple", data := .seq #[e.key, e.val] } := by
    intro j a hj
    obtain ⟨e, he, hg⟩ := hG.pairs j a hj
    exact ⟨e, by simpa using he, TS.midHeap_old (ne0 _ _ hg) (ka _ _ hg)⟩
  have kmid : ∀ c o, s.heap.get? c = some o → (TS.midHeap h2 h'.objs.size (as.map Value.ref)).get? c = some o := fun c o e => TS.midHeap_old (ne0 _ _ (hk c o e)) (kb c o e)
  refine wpAny_call_entry PyProof.Rows.slot_list_sort ⟨_, hob, rfl⟩ PyProof.Rows.entry_list_sort
    (SK.plain_sort (s := { s with heap := h2, toks := tk }) (r := rkA) hob (by rw [List.length_map]; omega) (fun h2' Qk hQk => ?_) fun ps out o1 o2 o3 => ⟨.none, rfl, ?_⟩) (PyProof.Rows.args_list_sort _)
  · refine kat_kind (T := T) (fs := es.toList.map (·.key)) (kat_of (by rw [hl]; simp) mid) (by rw [List.length_map] at h2' ⊢; rw [Array.length_toList]; omega) (fun v hv => ?_) hT2 (hQk _ ?_)
    · obtain ⟨e, he, rfl⟩ := List.mem_map.mp hv
      exact hT e he { s with heap := TS.midHeap h2 h'.objs.size (as.map Value.ref), toks := tk } kmid
    · rw [hb]
      intro x y hx hy Q' E' hQ
      rw [pairsOf_toList] at hx hy
      have mx := (mem_zip_self hx).2
      have my := (mem_zip_self hy).2
      obtain ⟨x1, x2⟩ := x
      obtain ⟨y1, y2⟩ := y
      obtain ⟨c, hc, rfl⟩ := List.mem_map.mp mx
      obtain ⟨d, hd, rfl⟩ := List.mem_map.mp my
      obtain ⟨i, hi⟩ := List.mem_iff_getElem?.mp hc
      obtain ⟨j, hj⟩ := List.mem_iff_getElem?.mp hd
      obtain ⟨e, he, ge⟩ := mid i c hi
      obtain ⟨f, hf, gf⟩ := mid j d hj
      refine kat_lt ge rfl gf rfl ?_
      have hQ' : Q' (decide (i < j)) { s with heap := TS.midHeap h2 h'.objs.size (as.map Value.ref), toks := tk } := by rw [← rise i j c d hi hj]; exact hQ
      exact hA i j e f (by simpa using he) (by simpa using hf) _ kmid Q' hQ'
  · show EP X pins σ Q (.ref h'.objs.size) { s with heap := sortedHeap h2 h'.objs.size (as.map Value.ref) out, toks := tk }
    obtain ⟨zs, pz, ez⟩ := perm_lift (fun z : Addr => (Value.ref z, Value.ref z)) o2 as (by rw [List.zip_map'])
    have hzs : zs = as := by
      refine perm_rise pz ?_ hG.rise
      rw [← ez, List.pairwise_map] at o3
      refine List.Pairwise.imp (fun {x y} h => ?_) o3
      have : (x : Int) ≤ (y : Int) := h
      omega
    subst hzs
    have hout : out.toList = zs.map Value.ref := by rw [o1, ← ez, List.map_map]; rfl
    have kF : ∀ b o, b ≠ h'.objs.size → h2.get? b = some o → (sortedHeap h2 h'.objs.size (zs.map Value.ref) out).get? b = some o := fun b o hb e => (PyProof.Rows.sortedHeap_old hb (Heap.lt_size e)).trans e
    have kS : ∀ b o, s.heap.get? b = some o → (sortedHeap h2 h'.objs.size (zs.map Value.ref) out).get? b = some o := fun b o e => kF b o (ne0 _ _ (hk b o e)) (kb b o e)
    obtain ⟨eF, heF⟩ := PyProof.Rows.sortedHeap_at (vs := zs.map Value.ref) (out := out) hob
    have I1 : Inv X pins σ H { s with heap := sortedHeap h2 h'.objs.size (zs.map Value.ref) out, toks := tk } := I.kept (t' := tk) kS
    have hn0 : H h'.objs.size = none := I.hok.fresh (Nat.le_of_lt hlt)
    have hlen : (zs.map fun z => V.ref z).length ≤ sizeLine := by
      rw [List.length_map, sizeLine_eq]
      omega
    have rv : Vals (zs.map V.ref) out.toList := by
      rw [hout]
      exact vals_maps (fun z : Addr => V.ref z) (fun z => Value.ref z) zs fun _ _ => rfl
    have I2 : Inv X pins σ (upd H h'.objs.size (.lst (zs.map V.ref))) { s with heap := sortedHeap h2 h'.objs.size (zs.map Value.ref) out, toks := tk } :=
      I1.take (h' := sortedHeap h2 h'.objs.size (zs.map Value.ref) out) (t' := tk) (fun b ob _ e => e) (I.fpOk (Nat.le_of_lt hlt) hn0) ⟨hlen, out.toList, eF, rv, heF⟩
    have lkv : kvs.length = es.size := by have := Paired.length hkv; simpa using this
    have new : ∀ t ∈ zs, H t = none := fun t ht => I.hok.fresh (Nat.le_of_lt (hG.above t ht))
    obtain ⟨H2, I3, g, qt⟩ := takeT (P := fun b vs => ∃ (j : Nat) (kv : V × V), zs[j]? = some b ∧ kvs[j]? = some kv ∧ vs = [kv.1, kv.2]) I zs _ I2 nd fun b hb => by
      obtain ⟨j, hj⟩ := List.mem_iff_getElem?.mp hb
      obtain ⟨e, he, hg⟩ := hG.pairs j b hj
      have he' : es.toList[j]? = some e := by simpa using he
      obtain ⟨kv, hkvj, r1, r2⟩ := pget hkv he'
      have hbl : s.heap.objs.size ≤ b := Nat.le_of_lt (hG.above b hb)
      refine ⟨hbl, ?_, [kv.1, kv.2], ⟨j, kv, hj, hkvj, rfl⟩, fun H3 => ⟨(by rw [sizeLine_eq]; show 2 ≤ 16777216; omega), [e.key, e.val], .cons r1 (.cons r2 .nil), ⟨_, kF _ _ (ne0 _ _ hg) (ka _ _ hg), rfl, 0, rfl⟩⟩⟩
      rw [upd_ne (ne0 _ _ hg)]
      exact I.hok.fresh hbl
    have gr : ∀ b o, H b = some o → H2 b = some o := fun b o e => g b o (by rw [upd_ne (ne_of_none e hn0)]; exact e)
    refine ⟨.ref h'.objs.size, H2, I3, rfl, q H2 h'.objs.size zs gr hn0 new (g _ _ upd_same) ?_⟩
    refine paired_get' (by omega) fun j t kv h1 h2 => ?_
    obtain ⟨vs, ⟨i, kv', j1, j2, ev⟩, hH⟩ := qt t (List.mem_of_getElem? h1)
    have eij : j = i := (List.getElem?_inj (List.getElem?_eq_some_iff.mp h1).1 nd).mp (h1.trans j1.symm)
    subst eij
    have ee : kv' = kv := Option.some.inj (j2.symm.trans h2)
    rw [ev, ee] at hH
    exact hH
end
theorem eqBool_same {P : Program} {w : World} {A : Around} {s : Shared} {E : Value → Shared → Prop} {v : Value} {Q : Bool → Shared → Prop} (q : Q true s) : wpAny (model P w) A (eqBool v v) Q E s := by
  unfold eqBool
  try with_reducible refine wpAny_holding ?_
  show wpAny _ _ (if (v == v) = true then _ else _) Q E s
  rw [if_pos (beq_self_eq_true v)]
  exact wpAny_bind (wpAny_rule (wpAny_pure q))
theorem kat_same {P : Program} {w : World} {A : Around} {s : Shared} {b : Bool} {k v : Value} {Q : Bool → Shared → Prop} (q : Q false s) : KatLex P w A b false Q [(k, k), (v, v)] 0 s :=
  kat_cons (eqBool_same (kat_yes (kat_cons (eqBool_same (kat_yes (kat_nil q))))))
section
variable {X : Cx}
theorem paired_at {α β : Type} {F : α → β → Prop} : ∀ {l : List α} {m : List β} {j : Nat} {x : α} {y : β}, Paired F l m → l[j]? = some x → m[j]? = some y → F x y
  | _, _, j, x, y, .nil, h, _ => by simp at h
  | _, _, 0, x, y, .cons h _, h1, h2 => by
    have e1 := Option.some.inj h1
    have e2 := Option.some.inj h2
    subst e1 e2
    exact h
  | _, _, j + 1, x, y, .cons _ t, h1, h2 => paired_at t (by simpa using h1) (by simpa using h2)
end
end DL
namespace DL
open PySem PySem.Spec PyProof.Rows L2
section
variable {X : Cx} {pins : List (Addr × Obj)} {σ : L2.St} {H : Hp} {s : Shared} {h : Hv}
end
end DL
namespace DL
open PySem PySem.Spec PyProof.Rows L2 L2.DX
theorem rvs_get {K : PySem.W.Frag} {H : Hp} {h : Hv} : ∀ {vs : List Val} {xs : List V}, vs.length = xs.length → (∀ (j : Nat) (v : Val) (x : V), vs[j]? = some v → xs[j]? = some x → RV K H h v x) → RVs K H h vs xs
  | [], [], _, _ => RVs.nil
  | [], _ :: _, e, _ => by simp at e
  | _ :: _, [], e, _ => by simp at e
  | v :: vs, x :: xs, e, f => RVs.cons (f 0 v x rfl rfl) (rvs_get (by simpa using e) fun j w y h1 h2 => f (j + 1) w y h1 h2)
section
variable {X : Cx} {B : Bs} {e : Expr} {d : ED} {p ap cp pos : Pos}
end
end DL
namespace DL
open PySem PySem.Spec PySem.W PyProof.Rows L2 L2.DX
@[simp] def sDAugA (dd dk : ED) (f : F2) (de : ED) : SD := fun ρ h D E => dd ρ h (fun d h1 => dk ρ h1 (fun k h2 => match dgetA d k h2 with
  | some (some v) => de ρ h2 (fun w h3 => f v w h3 (fun z h4 => match dputA d k z h4 with
    | some h5 => D.nx ρ h5
    | none => False)) E
  | _ => False) E) E
section
variable {X : Cx} {B : Bs} {o i e : Expr} {pos tpos : Pos} {dd di de : ED}
theorem ds_daugA {op : Operator} {f : F2} {r : R2} (hu : X.A.units + 1 < cLine) (ho : DE X B o dd) (hi : DE X B i di) (he : DE X B e de) (hop : OpR X (inplaceOp op) r) (hl : OpL X.K f r)
    (ha : ∀ ov iv new, augStore i ov iv new = (do holding [new, ov, iv] (setItem ov iv new); release [new, ov, iv] []; pure .next) := by intros; rfl) : DS X B (.AugAssign (.Subscript o i tpos) op e pos) (sDAugA dd di f de) :=
  PSi (ps_daug (rd := r) hu ho hi he (fun pins s σ H x y u v Q I ru rv q => hop pins s σ H x y u v Q I ru rv q) ha) fun D σ H ⟨ρ, h, D', S, q, C⟩ => ⟨ρ, h, _, S, q, fun d h1 x H1 q1 s1 rv1 r1 => ⟨ρ, h1, _, S.step s1 r1, q1, fun k h2 y H2 q2 s2 rv2 r2 => by
    split at q2
    · rename_i v ev
      obtain ⟨a, z, ex, g, _, z1 | ⟨w, zz, e1, e2, rv⟩⟩ := dget_rel r2 (rv1.step s2) rv2 ev
      · cases z1.1
      · cases e1
        subst e2
        refine ⟨a, zz, ex, g, ρ, h2, _, S.step (s1.trans s2) r2, q2, fun w2 h3 y2 H3 q3 s3 rv3 r3 => ?_⟩
        refine hl v w2 zz y2 h3 H3 _ _ r3 (rv.step s3) rv3 q3 fun z h4 zx H4 q4 s4 rv4 r4 => ?_
        split at q4
        · rename_i h5 e5
          obtain ⟨a', H5, ex', g5, s5, r5⟩ := dput_rel r4 (rv1.step (s2.trans (s3.trans s4))) (rv2.step (s3.trans s4)) rv4 e5
          rw [ex] at ex'
          cases ex'
          have s15 := s1.trans (s2.trans (s3.trans (s4.trans s5)))
          exact ⟨H5, g5, C.nx _ _ _ _ q4 s15 (S.step s15 r5)⟩
        · exact q4.elim
    · exact q2.elim⟩⟩
end
def RiseS (zs : List Str) : Prop := zs.Pairwise fun x y => x.cps.toList < y.cps.toList
theorem pairs_at {P : Program} {w : World} : ∀ {es : List DictEntry} {vs : List (Key × Value)} {j : Nat} {e : DictEntry}, Pairs (mixKind P w) es vs → es[j]? = some e → ∃ kv, vs[j]? = some kv ∧ (mixKind P w).is kv.1 e.key = true ∧ e.val = kv.2
  | _, _, j, e, .nil, h => by simp at h
  | _, _, 0, e, .cons h1 h2 _, h => by
    cases h
    exact ⟨_, rfl, h1, h2⟩
  | _, _, j + 1, e, .cons _ _ t, h => by
    obtain ⟨kv, a, b⟩ := pairs_at (j := j) t (by simpa using h)
    exact ⟨kv, by simpa using a, b⟩
section
variable {X : Cx}
def rItemsK : V → List V → Hp → VK → Prop := fun x xs H Q => ∃ (a : Addr) (kvs : List (Key × V)), x = .ref a ∧ xs = [] ∧ H a = some (.dK kvs) ∧ ∀ p, H p = none → Q (.ref p) (upd H p (itemsO p a))
theorem mt_itemsK : L2.MtR X "dict.items" rItemsK := by
  intro pins s σ H x xs v us Q I rx rxs h
  obtain ⟨a, kvs, rfl, rfl, ha, q⟩ := h
  cases rx
  cases rxs
  obtain ⟨z, hd, vs, rel, o, es, ep, ho, hx, hdat, _⟩ := dk_of I.hok ha
  refine DT.callItems (es := es) (ep := ep) hd ⟨o, ho, hx, hdat⟩ ?_
  have hf : H s.heap.objs.size = none := I.hok.fresh (Nat.le_refl _)
  exact ⟨.ref s.heap.objs.size, upd H s.heap.objs.size (itemsO s.heap.objs.size a), I.laid (t' := s.toks) (fun b u e => Heap.get?_push_of_some _ e) (Nat.le_refl _) (itemsO_ok (Heap.get?_push_size _ rfl)), rfl, q _ hf⟩
def rSortK2 : List V → Hp → VK → Prop := fun vs H Q => ∃ (p a : Addr) (zs : List Str) (kvs : List (Key × V)), vs = [.ref p] ∧ H p = some (itemsO p a) ∧ H a = some (.dK kvs) ∧ kvs.map (·.1) = zs.map Sum.inr ∧ RiseS zs ∧ zs.length < 64 ∧
  ∀ (H' : Hp) (l : Addr) (as : List Addr), (∀ b o, H b = some o → H' b = some o) → H l = none → (∀ a ∈ as, H a = none) → H' l = some (.lst (as.map V.ref)) → Paired (fun (t : Addr) (kv : V × V) => H' t = some (.tup [kv.1, kv.2])) as (kvs.map fun kv => (kV kv.1, kv.2)) → Q (.ref l) H'
theorem cr_sortK2 (hc : X.calm = true) (hu : X.A.units + 64 < cLine) : CallR X (.builtin "sorted") rSortK2 := by
  intro pins s σ H vs us Q I r h
  obtain ⟨p, a, zs, kvs, rfl, hp, ha, ek, up, h64, q⟩ := h
  obtain rfl := Vals.ref1 r
  have view : s.heap.IsItemsView p a := (show ObjOk X.prog X.w H s.heap p (itemsO p a) from I.hok p _ hp).1
  obtain ⟨z, hd, xs, rel, o, es, ep, ho, hx, hdat, hks, hpr, hnd⟩ := dk_of I.hok ha
  have l1 : kvs.length = xs.length := Paired.length rel
  have l2 : es.size = xs.length := by have := hpr.length; simpa using this
  have l3 : kvs.length = zs.length := by have := congrArg List.length ek; simpa using this
  have hh : X.A.handled = none := I.ok.hd hc
  have ent : ∀ (j : Nat) (e : DictEntry), es[j]? = some e → ∃ (k : Str) (kv : Key × V) (t : Tok), zs[j]? = some k ∧ kvs[j]? = some kv ∧ kv.1 = Sum.inr k ∧ e.key = .str k t ∧ RelV kv.2 e.val := by
    intro j e he
    obtain ⟨x, hxj, k1, k2⟩ := pairs_at (j := j) hpr (by rw [Array.getElem?_toList]; exact he)
    obtain ⟨kv, hkv, r1, r2⟩ := pget rel hxj
    have hkj : (kvs.map (·.1))[j]? = some kv.1 := by rw [List.getElem?_map, hkv]; rfl
    rw [ek, List.getElem?_map] at hkj
    obtain ⟨k, hk, ekk⟩ := Option.map_eq_some_iff.mp hkj
    have k1 : keyIs x.1 e.key = true := k1
    rw [← r1, ← ekk] at k1
    rcases keyIs_shape k1 with ⟨i, t, h1, h2⟩ | ⟨x', t, h1, h2⟩
    · cases h1
    · cases h1
      exact ⟨k, kv, t, hk, hkv, ekk.symm, h2, by rw [k2]; exact r2⟩
  refine sorted_asc (T := Value.type "str") (b := true) hh I view ⟨o, ho, hx, hdat⟩ (by omega) (fun e he s2 k2 => ?_) (by rfl) (by rfl) (fun i j e f he hf s2 k2 Q' hQ => ?_) (kvs := kvs.map fun kv => (kV kv.1, kv.2)) (paired_get' ?_ fun j kv e hkv he => ?_) fun H' l as hk hl has e1 e2 => q H' l as hk hl has e1 e2
  · obtain ⟨j, hj⟩ := List.mem_iff_getElem?.mp he
    obtain ⟨k, kv, t, _, _, _, ekey, _⟩ := ent j e (by simpa using hj)
    rw [ekey]
    exact .now
  · obtain ⟨k, kv, t, hk, hkv, ekk, ekey, _⟩ := ent i e he
    obtain ⟨k', kv', t', hk', hkv', ekk', ekey', _⟩ := ent j f hf
    by_cases eij : i = j
    · subst eij
      rw [he] at hf
      cases hf
      refine kat_same ?_
      have : decide (i < i) = false := decide_eq_false (Nat.lt_irrefl i)
      rw [this] at hQ
      exact hQ
    · rw [ekey, ekey']
      obtain ⟨li, ei⟩ := List.getElem?_eq_some_iff.mp hk
      obtain ⟨lj, ej⟩ := List.getElem?_eq_some_iff.mp hk'
      have up' := List.pairwise_iff_getElem.mp up
      have hlt : decide (k.cps.toList < k'.cps.toList) = decide (i < j) := by
        rcases Nat.lt_or_gt_of_ne eij with h | h
        · have := up' i j li lj h
          rw [ei, ej] at this
          rw [decide_eq_true this, decide_eq_true h]
        · have := up' j i lj li h
          rw [ei, ej] at this
          rw [decide_eq_false (List.lt_asymm this), decide_eq_false (by omega)]
      have hne : k ≠ k' := fun z => by
        subst z
        rcases Nat.lt_or_gt_of_ne eij with h | h
        · have := up' i j li lj h
          rw [ei, ej] at this
          exact List.lt_irrefl _ this
        · have := up' j i lj li h
          rw [ei, ej] at this
          exact List.lt_irrefl _ this
      refine kat_cons (wpAny_eqBool_str ?_)
      rw [decide_eq_false hne]
      refine kat_no ?_
      show wpAny _ _ (oneLt' true _ _) _ _ _
      refine oneLt_str ?_
      show Q' (decide (k.cps.toList < k'.cps.toList)) s2
      rw [hlt]
      exact hQ
  · have : es.toList.length = es.size := Array.length_toList
    rw [List.length_map, this, l2, l1]
  · rw [Array.getElem?_toList] at he
    obtain ⟨k, kv', t, _, hkv', ekk, ekey, rv⟩ := ent j e he
    rw [List.getElem?_map, hkv'] at hkv
    have := Option.some.inj hkv
    subst this
    refine ⟨?_, rv⟩
    show RelV (kV kv'.1) e.key
    rw [ekk, ekey]
    exact ⟨t, rfl⟩
end
theorem rv_keyK {K : PySem.W.Frag} {H : Hp} {h : Hv} : ∀ k : Key, RV K H h (keyV k) (kV k)
  | .inl i => by show RV K H h (.int i) (.int i); rw [RV]
  | .inr z => by show RV K H h (.str z) (.str z); rw [RV]
def pairK (p : Key × Val) : Val := .tup [keyV p.1, p.2]
def dSortItK (d : ED) : ED := fun ρ h Q E => d ρ h (fun v h1 => match v with
  | .ref a => (match h1 a with
    | some (.dK kvs) => (∃ zs : List Str, kvs.map (·.1) = zs.map Sum.inr ∧ RiseS zs ∧ zs.length < 64) ∧ Q (.lst (kvs.map pairK)) h1
    | _ => False)
  | _ => False) E
section
variable {X : Cx} {B : Bs} {e : Expr} {d : ED} {p ap cp pos : Pos}
theorem de_sortItK (hc : X.calm = true) (hu : X.A.units + 64 < cLine) (hm : X.mg "sorted" = none) (ho : DE X B e d) (hg : Gl X "sorted" := by rfl)
    (hbase : attributeBase e "items" X.env (eval e X.env) = eval e X.env := by rfl) (hline : (ap.endLine == cp.line) = true := by rfl)
    (hs : starEach [.Call (.Attribute e "items" ap) [] [] cp] X.env = (false, eval (.Call (.Attribute e "items" ap) [] [] cp) X.env) :: starEach [] X.env := by rfl) (hpl : (backTo pos (starEach [] X.env)).any (·.1) = false := by rfl) :
    DE X B (.Call (.Name "sorted" p) [.Call (.Attribute e "items" ap) [] [] cp] [] pos) (dSortItK d) := by
  refine PEi (pe_callB (cr_sortK2 hc hu) hg hm bt_sorted (pa_cons (pe_bm0 PySem.F.plainAttrs_dict PySem.F.slot_dict_items PySem.F.type_dict_items mt_itemsK ho hbase hline) pa_nil hs) (by decide) (by decide) hs hpl) fun σ H Q ⟨ρ, h, Q', S, q, C⟩ => ⟨ρ, h, _, S, q, fun v h1 x H1 q1 s1 rv1 r1 => ?_⟩
  split at q1
  · rename_i a
    split at q1
    · rename_i kvs ha
      obtain ⟨⟨zs, ek, up, h64⟩, q1⟩ := q1
      rw [RV] at rv1
      obtain ⟨xs, e1, rk⟩ := r1 a _ ha
      refine ⟨tyA_rel (v := .ref a) r1 (by rw [RV]; exact rv1) (by simp only [tyA, ha]), a, xs, rv1, rfl, e1, fun vw nvw => ?_⟩
      have ne : a ≠ vw := ne_of_none e1 nvw
      refine ⟨vw, a, zs, xs, rfl, upd_same, by rw [upd_ne ne]; exact e1, by rw [← rk.keysT]; exact ek, up, h64, fun H' l as hk hl has el ep => ?_⟩
      have r2 := r1.fresh (o := itemsO vw a) nvw
      have s2 : Step h1 H1 h1 (upd H1 vw (itemsO vw a)) := Step.fresh nvw
      have s3 : Step h1 (upd H1 vw (itemsO vw a)) h1 H' := ⟨fun a o e n _ => ⟨hk a o e, n⟩, fun a o e n => ⟨hk a o e, n⟩⟩
      have r3 : RH X.K H' h1 := fun a o q => (r2 a o q).step s3 fun u e => hk a u e
      have no : ∀ t, upd H1 vw (itemsO vw a) t = none → h1 t = none := fun t e => r2.nof e
      have l1 : kvs.length = xs.length := rk.lenT
      have la : as.length = xs.length := by rw [Paired.length ep, List.length_map]
      refine C _ _ _ _ q1 (s1.trans (s2.trans s3)) ?_ r3
      rw [RV]
      refine ⟨l, as.map V.ref, rfl, no l hl, el, rvs_get (by rw [List.length_map, List.length_map, l1, la]) fun j v y hv hy => ?_⟩
      rw [List.getElem?_map] at hv hy
      obtain ⟨kv, hkv, rfl⟩ := Option.map_eq_some_iff.mp hv
      obtain ⟨t, ht, rfl⟩ := Option.map_eq_some_iff.mp hy
      have hj : j < xs.length := by rw [← l1]; exact (List.getElem?_eq_some_iff.mp hkv).1
      obtain ⟨xk, hxk⟩ : ∃ xk, xs[j]? = some xk := ⟨_, List.getElem?_eq_getElem hj⟩
      have h2 := paired_at ep ht (show (xs.map fun kv => (kV kv.1, kv.2))[j]? = some (kV xk.1, xk.2) by rw [List.getElem?_map, hxk]; rfl)
      obtain ⟨g1, g2⟩ := rk.getT (k := xk.1) (x := xk.2) hkv hxk
      unfold pairK
      rw [RV]
      refine ⟨t, _, rfl, no t (has t (List.mem_of_getElem? ht)), h2, RVs.cons ?_ (RVs.cons (g2.step (s2.trans s3)) RVs.nil)⟩
      rw [g1]
      exact rv_keyK _
    · exact q1.elim
  · exact q1.elim
end
end DL
namespace DL
open PySem PySem.Spec PyProof.Rows L2
def wOf (b : Book) (s : St) (L : List Int) (z : Str) : Int := ((L.filter fun n => decide ((treeY s.things n).land b (hpY s.things) = some z)).map fun n => (treeY s.things n).whole (hpY s.things)).sum
def worthsY (b : Book) (s : St) : List Val := b.names.map fun z => .tup [.str z, .int (wOf b s s.lying z)]
section
variable (G : Gx)
def S_Yard_worths : SpF := fun as h Q _ => ∃ (a : Addr) (b : Book) (s : St) (A : Ay) (ds us : List (Val × Addr)), as = [.ref a] ∧ YdAt G h a b s A ds us ∧ WFB b ∧ WFY b s ∧ (∀ n ∈ s.lying, (treeY s.things n).ht < 40) ∧ Q (.tup (worthsY b s)) h
end
end DL
namespace DL
open PySem PySem.Spec PyProof.Rows L2
section
variable {K : PySem.W.Frag}
def txtI (i : Int) : Str := Str.ofString (toString i)
def fStrI : FA := fun vs h Q => match vs with
  | [.int i] => i.natAbs.log2 < 1920 ∧ Q (.str (txtI i)) h
  | _ => False
theorem cl_strI : CaL K fStrI (fun xs H Q => ∃ i, xs = [.int i] ∧ i.natAbs.log2 < 1920 ∧ Q (.str (toString i)) H) := fun vs xs h H Q' Q r rs q c => by
  unfold fStrI at q
  split at q
  · rename_i i
    obtain ⟨x, e, rv⟩ := rvs1 rs
    rw [RV] at rv
    subst rv
    exact ⟨i, e, q.1, c.val r (by rw [RV]; rfl) q.2⟩
  · exact q.elim
end
def dFmt (d : ED) : ED := fun ρ h Q E => d ρ h (fun v h1 => match v with
  | .str y => y.length ≤ sizeLine ∧ Q (.str y) h1
  | .int i => i.natAbs.log2 < 1920 ∧ Q (.str (txtI i)) h1
  | _ => False) E
def dJsL : List ED → Str → Sl → Hv → (Str → Hv → Prop) → PX → Prop
  | [], acc, ρ, h, Q, E => Q acc h
  | d :: ds, acc, ρ, h, Q, E => d ρ h (fun v h1 => match v with
    | .str y => (acc ++ y).length ≤ sizeLine ∧ dJsL ds (acc ++ y) ρ h1 Q E
    | _ => False) E
def dJs (ds : List ED) : ED := fun ρ h Q E => dJsL ds Str.empty ρ h (fun out h1 => Q (.str out) h1) E
section
variable {X : Cx} {B : Bs}
theorem de_fmt {e : Expr} {d : ED} {pos : Pos} (he : DE X B e d) : DE X B (.FormattedValue e (-1) none pos) (dFmt d) :=
  PEi (pe_fmt he) fun σ H Q ⟨ρ, h, Q', S, q, C⟩ => ⟨ρ, h, _, S, q, fun v h1 x H1 q1 s1 rv1 r1 => by
    split at q1
    · rename_i y
      rw [RV] at rv1
      subst rv1
      exact .inl ⟨y, rfl, q1.1, (C.trans s1).val r1 (by rw [RV]) q1.2⟩
    · rename_i i
      rw [RV] at rv1
      subst rv1
      exact .inr ⟨i, rfl, q1.1, (C.trans s1).val r1 (by rw [RV]; rfl) q1.2⟩
    · exact q1.elim⟩
inductive DJ (X : Cx) (B : Bs) : List Expr → List ED → Prop where
  | nil : DJ X B [] []
  | cons {e : Expr} {d : ED} {es : List Expr} {ds : List ED} (h : DE X B e d) (r : DJ X B es ds) : DJ X B (e :: es) (d :: ds)
theorem DJ.pj {es : List Expr} {ds : List ED} (h : DJ X B es ds) : PJ X es (ds.map (rdE X.K B)) := by
  induction h with
  | nil => exact .nil
  | cons h _ ih => exact .cons h ih
theorem js_rel {K : PySem.W.Frag} {σ : L2.St} {Q' : Str → Hv → Prop} {Q : Str → Hp → Prop} {h0 : Hv} {H0 : Hp} : ∀ (ds : List ED) (acc : Str) (ρ : Sl) (h : Hv) (H : Hp), ST K B σ H ρ h → Step h0 H0 h H → dJsL ds acc ρ h Q' B.E → (∀ out h1 H1, Q' out h1 → Step h0 H0 h1 H1 → RH K H1 h1 → Q out H1) → tJs (ds.map (rdE K B)) acc σ H Q
  | [], acc, ρ, h, H, S, s, q, k => k acc h H q s S.r
  | d :: ds, acc, ρ, h, H, S, s, q, k => ⟨ρ, h, _, S, q, fun v h1 x H1 q1 s1 rv1 r1 => by
    split at q1
    · rename_i y
      rw [RV] at rv1
      exact ⟨y, rv1, q1.1, js_rel ds _ ρ h1 H1 (S.step s1 r1) (s.trans s1) q1.2 k⟩
    · exact q1.elim⟩
theorem de_joined {v1 v2 : Expr} {rest : List Expr} {ds : List ED} {pos : Pos} (h : DJ X B (v1 :: v2 :: rest) ds) : DE X B (.JoinedStr (v1 :: v2 :: rest) pos) (dJs ds) :=
  PEi (pe_joined h.pj) fun σ H Q ⟨ρ, h, Q', S, q, C⟩ => js_rel (h0 := h) (H0 := H) ds Str.empty ρ h H S (Step.refl _ _) q fun out h1 H1 q1 s1 r1 => (C.trans s1).val r1 (by rw [RV]) q1
def StrF (P : Program) (w : World) (K : PySem.W.Frag) (mg : Str → Option Value) (base : Heap) (A : Around) (C : Addr) (fs : SpF) : Prop :=
  ∃ (k : Nat) (f : Addr) (fd : FuncData) (ps : List Str), FnOk P w K mg base (L2.CX P w) k f fd ps (spA K mg 1 fs) ∧ Room (k + 2) A ∧ PySem.W.findIn K (.ref C) "__str__" = some (some (.ref f)) ∧ PySem.W.isFn K (.ref f) = true ∧ L2.Binds K fd ps []
theorem MtR.str {P : Program} {w : World} {K : PySem.W.Frag} {mg : Str → Option Value} {base : Heap} {k j : Nat} {C : Addr} {fs : SpF} {A : Around} (F : MtR P w K mg base k C "__str__" 1 fs) (hr : Room j A) (h : k + 2 ≤ j := by decide) : StrF P w K mg base A C fs :=
  let ⟨f, fd, ps, a, b, c⟩ := F; ⟨k, f, fd, ps, a, hr.mono h, b.at_, b.fn, c⟩
def rStrO (K : PySem.W.Frag) (mg : Str → Option Value) (C : Addr) (fs : SpF) : List V → Hp → VK → Prop := fun xs H Q => ∃ a dx fl, xs = [V.ref a] ∧ H a = some (.ins C dx fl) ∧ spA K mg 1 fs [.ref a] H (fun z H' => ∃ i : Str, z = .str i ∧ Q z H') (fun _ _ _ => False)
theorem call_strO {X : Cx} {C : Addr} {fs : SpF} (F : StrF X.prog X.w X.K X.mg X.base X.A C fs) : CallR X (.type "str") (rStrO X.K X.mg C fs) := by
  obtain ⟨k, f, fd, ps, G, hr, hs, hf, hb⟩ := F
  intro pins s σ H xs us Q I r h
  obtain ⟨a, dx, fl, rfl, e, q⟩ := h
  obtain ⟨u, rfl, ru⟩ := r.one
  cases (show u = Value.ref a from ru)
  obtain ⟨mA, O, _, _, _, _⟩ := ins_get I.hok e
  obtain ⟨od, J, _⟩ := O.look
  have r1 : Vals [V.ref a] [Value.ref a] := .cons rfl .nil
  have hl : ([Value.ref a] ++ []).length = ps.length := by
    have e := G.len _ _ _ _ q
    simpa using e
  have b := hb _ [Value.ref a] I.kIn hl
  rw [List.append_nil] at b
  refine PySem.W.kso_call (by have := (Room.in1 (Room.in1 hr)).units; omega) I.kIn J hs hf (wpAny_mono (wpAny_call (Q := EP X pins σ fun z H' => ∃ i : Str, z = .str i ∧ Q z H') (E := X.xe) (codeAny_mono (G.run _ X.stack _ _ ⟨[Value.ref a], []⟩ [Value.ref a] _ _ (fun _ _ _ => False) (Room.in1 (Room.in1 hr)) I.env0.in1.in1 b r1 q) fun r s' hq => ?_)) (fun w s' ⟨z, H', I', rz, i, ei, qz⟩ => ?_) fun _ _ y => y)
  · cases r with
    | error e =>
      obtain ⟨_, _, _, _, _, _, _, _, _, _, _, _, hE⟩ := hq
      exact hE.elim
    | ok fl =>
      cases fl with
      | ret u => exact I.after hq
      | next => exact False.elim hq
      | brk => exact False.elim hq
      | cont => exact False.elim hq
  · subst ei
    obtain ⟨t, e⟩ := (show ∃ t, w = Value.str i t from rz)
    cases e
    exact ⟨.str i, H', I', ⟨_, rfl⟩, qz⟩
def fStrO (C : Addr) (fs : SpF) : FA := fun vs h Q => match vs with
  | [.ref a] => (match h a with
    | some (.ins C' fl) => C' = C ∧ fs [.ref a] h (fun v h2 => ∃ i : Str, v = .str i ∧ Q v h2) (fun _ _ _ => False)
    | _ => False)
  | _ => False
theorem cl_strO {K : PySem.W.Frag} {mg : Str → Option Value} {C : Addr} {fs : SpF} : CaL K (fStrO C fs) (rStrO K mg C fs) := fun vs xs h H Q' Q r rs q c => by
  unfold fStrO at q
  split at q
  · rename_i a
    obtain ⟨x, ys, e, rv, r2⟩ := (show ∃ y ys, xs = y :: ys ∧ RV K H h (.ref a) y ∧ RVs K H h [] ys by rw [RVs] at rs; exact rs)
    rw [RV] at rv
    rw [RVs] at r2
    subst rv r2
    split at q
    · rename_i C' fl hfl
      obtain ⟨rfl, q⟩ := q
      obtain ⟨dx, fl2, e1, e2, n2, _⟩ := r a _ hfl
      refine ⟨a, dx, fl2, e, e1, [.ref a], h, _, _, RVs.cons (by rw [RV]) RVs.nil, r, rfl, q, fun v h2 x H2 q2 st rv2 r2 => ?_, fun nm pl h' cls d H' hE _ _ _ _ => hE.elim⟩
      obtain ⟨i, rfl, q2⟩ := q2
      have rv3 := rv2
      rw [RV] at rv3
      exact ⟨i, rv3, c _ _ _ _ q2 st rv2 r2⟩
    · exact q.elim
  · exact q.elim
end
end DL
namespace DL
open PySem PySem.Spec PyProof.Rows L2
def MtKR (P : Program) (w : World) (K : PySem.W.Frag) (mg : Str → Option Value) (base : Heap) (k : Nat) (C : Addr) (m : Str) (ks : List Str) (fs : SpF) : Prop :=
  ∃ (f : Addr) (fd : FuncData) (ps : List Str), FnOk P w K mg base (L2.CX P w) k f fd ps (spA K mg (ks.length + 1) fs) ∧ Meth K C m f ∧ KBinds K fd ps ks (gk 1 ks.length) (gk 1 ks.length)
def MtK (P : Program) (w : World) (K : PySem.W.Frag) (mg : Str → Option Value) (base : Heap) (A : Around) (C : Addr) (m : Str) (ks : List Str) (fs : SpF) : Prop :=
  ∃ (k : Nat) (f : Addr) (fd : FuncData) (ps : List Str), FnOk P w K mg base (L2.CX P w) k f fd ps (spA K mg (ks.length + 1) fs) ∧ Room k A ∧ Meth K C m f ∧ KBinds K fd ps ks (gk 1 ks.length) (gk 1 ks.length)
theorem MtKR.at {P : Program} {w : World} {K : PySem.W.Frag} {mg : Str → Option Value} {base : Heap} {k j : Nat} {C : Addr} {m : Str} {ks : List Str} {fs : SpF} {A : Around} (F : MtKR P w K mg base k C m ks fs) (hr : Room j A) (h : k ≤ j := by decide) : MtK P w K mg base A C m ks fs :=
  let ⟨f, fd, ps, a, b, c⟩ := F; ⟨k, f, fd, ps, a, hr.mono h, b, c⟩
section
variable {X : Cx} {B : Bs} {o e : Expr} {es : List Expr} {d dv : ED} {dk : AD} {m x : Str} {C : Addr} {pos apos p : Pos} {kws : List Keyword} {ks : List Str}
theorem de_methK0 {fs : SpF} {pl : Sem Bool} (c : Cls X.K C) (F : MtK X.prog X.w X.K X.mg X.base X.A C m ks fs) (tk : TakesB X B) (ho : DE X B o d) (hkw : DK X B kws dk) (hall : (backToKw pos (keywordEach kws X.env)).all (·.1.isSome) = true := by rfl) (hks : (backToKw pos (keywordEach kws X.env)).filterMap (·.1) = ks := by rfl)
    (hpl : ((backTo pos (starEach [] X.env)).any (·.1) || (backToKw pos (keywordEach kws X.env)).any (·.1.isNone)) = false := by rfl)
    (ht : eval (.Call (.Attribute o m apos) [] kws pos) X.env = (do
      let ov ← eval o X.env
      standAt apos.atName
      let (f, first) ← holding [ov] (getMethod ov m pl)
      callWith pos f first (backTo pos (starEach [] X.env)) (backToKw pos (keywordEach kws X.env))) := by rfl) :
    DE X B (.Call (.Attribute o m apos) [] kws pos) (dMeth C m (ks.length + 1) fs d dk) := by
  obtain ⟨k, f, fd, ps, G, hr, hm, hb⟩ := F
  refine ⟨fun pins s σ H Q I ⟨ρ, h, Q', S, q, Cn⟩ => ?_⟩
  refine PySem.W.methodCall_KW (pl := pl) (thn (ho.run pins s σ H (fun x H1 => ∃ a dx xs, x = .ref a ∧ H1 a = some (.ins C dx xs) ∧ xs.lookup m = none ∧ rdA X.K B dk σ H1 fun vs H2 => spA X.K X.mg (ks.length + 1) fs (gk 1 ks.length [x] vs) H2 Q (WE (wx X.mg X.K B) σ)) I ⟨ρ, h, _, S, q, fun v h1 x H1 q1 s1 rv1 r1 => ?_⟩) fun u s1 ⟨x, H1, I1, rx, a, dx, xs, ex, ea, l, q⟩ => ?_) ht
  · split at q1
    · rename_i a
      rw [RV] at rv1
      split at q1
      · rename_i C' fl hfl
        obtain ⟨rfl, hl, q1⟩ := q1
        obtain ⟨dx, xs, e1, e2, n2, rs⟩ := r1 a _ hfl
        have l2 : xs.lookup m = none := by
          rcases rs.look (f := m) with ⟨_, z⟩ | ⟨v, y, l1, _⟩
          · exact z
          · rw [hl] at l1; cases l1
        refine ⟨a, dx, xs, rv1, e1, l2, ρ, h1, _, S.step s1 r1, q1, fun vs h2 ys H2 q2 s2 rv2 r2 => ?_⟩
        have lv : ys.length = ks.length := by have := rv2.len; have := q2.1; omega
        have eg : gk 1 ks.length [x] ys = x :: ys := by
          unfold gk
          rw [if_pos ⟨rfl, lv⟩]
          rfl
        dsimp only
        rw [eg]
        refine ⟨.ref a :: vs, h2, Q', fun nm pl h' => B.E nm pl ρ h', RVs.cons (by rw [RV]; exact rv1) rv2, r2, q2.1, q2.2, Cn.trans (s1.trans s2), fun nm pl h' cls dd H' hE s3 r3 hm pld => ⟨nm, pl, ρ, h', hm, S.step (s1.trans (s2.trans s3)) r3, pld, hE⟩⟩
      · exact q1.elim
    · exact q1.elim
  · subst ex
    obtain rfl : u = Value.ref a := rx
    refine getmeth_ok I1 ea c hm l ?_
    refine PySem.W.callWith_KW0 (first := [.ref a]) (h₀ := X.base) I.ok.mod.kin hm.kp hall ?_ hpl
    refine thn (hkw.run pos pins s1 σ H1 _ I1 q) fun ws s2 ⟨zs, H2, I2, rz, q2⟩ => ⟨I2.kIn, ?_⟩
    rw [hks]
    exact run_fnkS (us := [.ref a]) (vs := [.ref a]) (E := WE (wx X.mg X.K B)) G hr hb (passAt tk σ) I2 (.cons rfl .nil) rz q2
end
def MkKR (P : Program) (w : World) (K : PySem.W.Frag) (mg : Str → Option Value) (base : Heap) (k : Nat) (x : Str) (C : Addr) (ks : List Str) (fs : SpF) : Prop :=
  ∃ (f : Addr) (fd : FuncData) (ps : List Str), FnOk P w K mg base (L2.CX P w) k f fd ps (spA K mg (ks.length + 1) fs) ∧ Mk K C f ∧ mg x = some (.ref C) ∧ KBinds K fd ps ks (gk 1 ks.length) (gk 1 ks.length)
def MkK (P : Program) (w : World) (K : PySem.W.Frag) (mg : Str → Option Value) (base : Heap) (A : Around) (x : Str) (C : Addr) (ks : List Str) (fs : SpF) : Prop :=
  ∃ (k : Nat) (f : Addr) (fd : FuncData) (ps : List Str), FnOk P w K mg base (L2.CX P w) k f fd ps (spA K mg (ks.length + 1) fs) ∧ Room (k + 1) A ∧ Mk K C f ∧ mg x = some (.ref C) ∧ KBinds K fd ps ks (gk 1 ks.length) (gk 1 ks.length)
theorem MkKR.at {P : Program} {w : World} {K : PySem.W.Frag} {mg : Str → Option Value} {base : Heap} {k j : Nat} {x : Str} {C : Addr} {ks : List Str} {fs : SpF} {A : Around} (F : MkKR P w K mg base k x C ks fs) (hr : Room j A) (h : k + 1 ≤ j := by decide) : MkK P w K mg base A x C ks fs :=
  let ⟨f, fd, ps, a, b, c, d⟩ := F; ⟨k, f, fd, ps, a, hr.mono h, b, c, d⟩
section
variable {X : Cx} {B : Bs} {dk : AD} {x : Str} {C : Addr} {pos p : Pos} {kws : List Keyword} {ks : List Str}
theorem run_makekS {CX : CXT} {k : Nat} {f : Addr} {fd : FuncData} {ps : List Str} {sp : Sp} {E : XK} {pins : List (Addr × Obj)} {σ : L2.St} {H : Hp} {s : Shared} {Q : VK} {ws : List Value} {zs : List V} {g : List Value → List Value → List Value} {gV : List V → List V → List V} (M : Mk X.K C f) (F : FnOk X.prog X.w X.K X.mg X.base CX k f fd ps sp) (hr : Room (k + 1) X.A) (hb : KBinds X.K fd ps ks g gV)
    (hx : PassesAt CX X σ E) (I : Inv X pins σ H s) (rz : Vals zs ws)
    (h : ∀ x dx, H x = none → H dx = none → dx ≠ x → sp (gV [.ref x] zs) (upd (upd H dx (.own x)) x (.ins C dx [])) (fun v H2 => v = .non ∧ Q (.ref x) H2) E) :
    wpAny (model X.prog X.w) X.A (call (.ref C) [] (ks.zip ws)) (EP X pins σ Q) X.xe s := by
  have hq := h (s.heap.objs.size + 1) s.heap.objs.size (I.hok.fresh (Nat.le_succ _)) (I.hok.fresh (Nat.le_refl _)) (Nat.ne_of_lt (Nat.lt_succ_self _))
  have I2 := Inv.made (C := C) I
  have r1 : Vals [V.ref (s.heap.objs.size + 1)] [Value.ref (s.heap.objs.size + 1)] := .cons rfl .nil
  have r2 := hb.rel r1 rz
  have hl : (g [Value.ref (s.heap.objs.size + 1)] ws).length = ps.length := by rw [← r2.length]; exact F.len _ _ _ _ hq
  refine wpAny_call (make_map (f := f) I.kIn M.makes M.init (beq_iff_eq.mp M.fn) (codeAny_mono (F.run _ X.stack _ _ ⟨[Value.ref (s.heap.objs.size + 1)], ks.zip ws⟩ (g [Value.ref (s.heap.objs.size + 1)] ws) _ _ E (hr.make C [] (ks.zip ws))
    (I2.env0.make C [] (ks.zip ws)) (hb.to _ [Value.ref (s.heap.objs.size + 1)] ws I2.kIn hl) r2 hq) fun r s' hq' => ?_))
  cases r with
  | error e => exact hx pins _ _ e s' I2 hq'
  | ok fl =>
    cases fl with
    | ret u =>
      obtain ⟨v, H', I3, rv, ev, q3⟩ := I2.after hq'
      subst ev
      exact ⟨rv, ⟨V.ref (s.heap.objs.size + 1), H', I3, rfl, q3⟩⟩
    | next => exact False.elim hq'
    | brk => exact False.elim hq'
    | cont => exact False.elim hq'
theorem de_newK0 {fs : SpF} (F : MkK X.prog X.w X.K X.mg X.base X.A x C ks fs) (tk : TakesB X B) (hkw : DK X B kws dk) (hg : Gl X x := by rfl) (hall : (backToKw pos (keywordEach kws X.env)).all (·.1.isSome) = true := by rfl) (hks : (backToKw pos (keywordEach kws X.env)).filterMap (·.1) = ks := by rfl) (hdb : (x == ("__debug__" : Str)) = false := by decide)
    (hpl : ((backTo pos (starEach [] X.env)).any (·.1) || (backToKw pos (keywordEach kws X.env)).any (·.1.isNone)) = false := by rfl) : DE X B (.Call (.Name x p) [] kws pos) (dNew C (ks.length + 1) fs dk) := by
  obtain ⟨k, f, fd, ps, G, hr, M, hm, hb⟩ := F
  refine ⟨fun pins s σ H Q I ⟨ρ, h, Q', S, q, Cn⟩ => ?_⟩
  refine wpAny_Call_Name_kw (ld_glob I hg hm ?_ hdb)
  refine PySem.W.callWith_KW0 (h₀ := X.base) I.ok.mod.kin M.kp hall ?_ hpl
  refine thn (hkw.run pos pins s σ H (fun vs H1 => ∀ x dx, H1 x = none → H1 dx = none → dx ≠ x → spA X.K X.mg (ks.length + 1) fs (gk 1 ks.length [.ref x] vs) (upd (upd H1 dx (.own x)) x (.ins C dx [])) (fun v H2 => v = .non ∧ Q (.ref x) H2) (WE (wx X.mg X.K B) σ)) I ⟨ρ, h, _, S, q, fun vs h1 xs H1 q1 s1 rv1 r1 a dx na nd ne => ?_⟩) fun ws s1 ⟨vs, H1, I1, r, q⟩ => ⟨I1.kIn, ?_⟩
  · have q2 := q1 a (r1.nof na)
    have sa : Step h1 H1 h1 (upd H1 dx (.own a)) := Step.fresh nd
    have na' : upd H1 dx (.own a) a = none := by rw [upd_ne (Ne.symm ne)]; exact na
    have ra := r1.fresh (o := .own a) nd
    have sb : Step h1 (upd H1 dx (.own a)) (put h1 a (.ins C [])) (upd (upd H1 dx (.own a)) a (.ins C dx [])) := Step.new na'
    have rb : RH X.K (upd (upd H1 dx (.own a)) a (.ins C dx [])) (put h1 a (.ins C [])) := ra.new na' ⟨dx, [], upd_same, by rw [upd_ne ne, upd_same], by rw [put_ne ne]; exact r1.nof nd, rfl⟩
    have s12 := sa.trans sb
    have lv : xs.length = ks.length := by have := rv1.len; have := q2.1; omega
    have eg : gk 1 ks.length [V.ref a] xs = V.ref a :: xs := by
      unfold gk
      rw [if_pos ⟨rfl, lv⟩]
      rfl
    rw [eg]
    refine ⟨.ref a :: vs, put h1 a (.ins C []), _, fun nm pl h' => B.E nm pl ρ h', RVs.cons (by rw [RV]) (rv1.step s12), rb, q2.1, q2.2, fun v h2 y H2 q3 s3 rv3 r3 => ?_, fun nm pl h' cls dd H' hE s3 r3 hm pld => ⟨nm, pl, ρ, h', hm, S.step (s1.trans (s12.trans s3)) r3, pld, hE⟩⟩
    obtain ⟨rfl, q3⟩ := q3
    rw [RV] at rv3
    exact ⟨rv3, Cn _ _ _ _ q3 (s1.trans (s12.trans s3)) (by rw [RV]) r3⟩
  · rw [hks]
    exact run_makekS (E := WE (wx X.mg X.K B) σ) M G hr hb (passAt tk σ) I1 r q
end
end DL
namespace DL
open PySem PySem.Spec PyProof.Rows L2
def encThP : Th → Val
  | .raw w l => .tup [.int w, encO l]
  | .made z xs => .tup [.str z, .tup (xs.map .int)]
def plV (s : St) : List (Key × Val) := [(.inr "things", .lst (s.things.map encThP)), (.inr "here", .lst (s.lying.map .int)), (.inr "sent", .lst (s.gone.map encG))]
def PlAt (h : Hv) (p : Addr) (s : St) : Prop := h p = some (.dK (plV s))
def SR__law_worth (d : Nat) : SpF := fun as h Q _ => ∃ (p : Addr) (b : Book) (s : St) (n : Int), as = [.ref p, .int n] ∧ PlAt h p s ∧ WFT b s.things ∧ 0 ≤ n ∧ n < (s.things.length : Int) ∧ (treeY s.things n).ht < d ∧ Q (.int ((treeY s.things n).whole (hpY s.things))) h
def S__law_worth : SpF := SR__law_worth 40
def SR__law_land (d : Nat) : SpF := fun as h Q _ => ∃ (p : Addr) (b : Book) (s : St) (n : Int), as = [encB b, .ref p, .int n] ∧ PlAt h p s ∧ WFB b ∧ WFT b s.things ∧ 0 ≤ n ∧ n < (s.things.length : Int) ∧ (treeY s.things n).ht < d ∧ d ≤ 40 ∧ Q (encO ((treeY s.things n).land b (hpY s.things))) h
def S__law_land : SpF := SR__law_land 40
def SR__law_holds (d : Nat) : SpF := fun as h Q _ => ∃ (p : Addr) (b : Book) (s : St) (n t : Int), as = [.ref p, .int n, .int t] ∧ PlAt h p s ∧ WFT b s.things ∧ 0 ≤ n ∧ n < (s.things.length : Int) ∧ (treeY s.things n).ht < d ∧ Q (.bl (holdY s.things t n)) h
def S__law_holds : SpF := SR__law_holds 40
theorem no__law_worth : ∀ as h Q E, SR__law_worth 0 as h Q E → False := fun _ _ _ _ ⟨_, _, _, _, _, _, _, _, _, z, _⟩ => Nat.not_lt_zero _ z
theorem no__law_land : ∀ as h Q E, SR__law_land 0 as h Q E → False := fun _ _ _ _ ⟨_, _, _, _, _, _, _, _, _, _, z, _⟩ => Nat.not_lt_zero _ z
theorem no__law_holds : ∀ as h Q E, SR__law_holds 0 as h Q E → False := fun _ _ _ _ ⟨_, _, _, _, _, _, _, _, _, _, z, _⟩ => Nat.not_lt_zero _ z
def refV : Option (Str × Option Val) → Val
  | none => .non
  | some (e, none) => .tup [.str (heardW e)]
  | some (_, some v) => .tup [.str "not of", v]
def S__law_refusal : SpF := fun as h Q _ => ∃ (p : Addr) (b : Book) (s : St) (d : Deed), as = [encB b, .ref p, .str d.word, d.args] ∧ PlAt h p s ∧ WFB b ∧ WFY b s ∧ d.ok ∧ (∀ n ∈ s.lying, (treeY s.things n).ht < 40) ∧ Q (refV (d.ref b s)) h
def S__law_done : SpF := fun as h Q _ => ∃ (p : Addr) (b : Book) (s : St) (d : Deed), as = [.ref p, .str d.word, d.args] ∧ PlAt h p s ∧ WFY b s ∧ d.ok ∧ d.ref b s = none ∧ Q (d.ret s) (put h p (.dK (plV (d.does s))))
def strY (b : Book) (s : St) : Str := txtI (s.lying.length : Int) ++ " here, " ++ txtI (s.gone.length : Int) ++ " sent, " ++ txtI ((falseY b s).length : Int) ++ " false"
def S_Yard___str__ (G : Gx) : SpF := fun as h Q _ => ∃ (a : Addr) (b : Book) (s : St) (A : Ay) (ds us : List (Val × Addr)), as = [.ref a] ∧ YdAt G h a b s A ds us ∧ WFB b ∧ WFY b s ∧ (∀ p ∈ s.gone, (treeY s.things p.1).ht < 40) ∧ Q (.str (strY b s)) h
def S__law_stands (G : Gx) : SpF := fun as h Q _ => ∃ (a p q : Addr) (b : Book) (s : St) (A : Ay) (ds us : List (Val × Addr)), as = [encB b, .ref a, .ref p, .ref q] ∧ YdAt G h a b s A ds us ∧ PlAt h p s ∧ h q = some (.lst (ds.map (·.1))) ∧ WFB b ∧ WFY b s ∧ s.things.length ≤ 30 ∧ ds.length ≤ 30 ∧ (∀ z ∈ b.names, okN 0 (.str z) = true) ∧ (∀ p ∈ s.gone, p.2 ∈ b.names) ∧ (∀ v ∈ ds.map (·.1), okN 8 v = true) ∧ Q (.bl true) h
end DL
namespace DL
open PySem PySem.Spec PyProof.Rows L2
end DL
namespace DL
open PySem PySem.Spec PyProof.Rows L2
section
variable {G : Gx} {Ts : List (Addr × Str)} {t r : Addr} {h h' : Hv} {a : Addr} {b : Book} {s : St} {A : Ay} {ds us : List (Val × Addr)} {ρ : Sl} {E : PX} {d : ED}
theorem YdAt.onlyZ (y : YdAt G h a b s A ds us) (T : Town t r h) (o : Only t r h h') : YdAt G h' a b s A ds us := by
  have k : ∀ {c : Addr} {u : Ob}, (∀ kvs, u ≠ .dK kvs) → h c = some u → h' c = some u := fun {c u} n e => by
    obtain ⟨_, _, e1⟩ := T.tc
    obtain ⟨_, e2, _⟩ := T.rc
    rw [o c (fun z => by rw [z, e1] at e; exact n _ (Option.some.inj e).symm) (fun z => by rw [z, e2] at e; exact n _ (Option.some.inj e).symm)]; exact e
  exact ⟨k (fun _ z => nomatch z) y.ins, k (fun _ z => nomatch z) y.st, k (fun _ z => nomatch z) y.dn, k (fun _ z => nomatch z) y.un, y.ne⟩
theorem x_heardZ {P : Addr} {q : Str} {rs : List Str} {Q : PV} (tb : Tbs Ts h) (hm : (P, q) ∈ Ts) (k : d ρ h (fun v h1 => Q (.tup [.str "told", v]) h1) (fun nm pl _ h1 => (nm ∈ rs ∧ pl = none ∧ Q (.tup [.str (heardW nm)]) h1) ∨ (nm = "NotOf" ∧ ∃ v, pl = some v ∧ Q (.tup [.str "not of", v]) h1))) : dHeardN Ts P q rs d ρ h Q E := ⟨tb, hm, k⟩
end
end DL
namespace DL
open PySem PySem.Spec PyProof.Rows L2
section
variable {b : Book} {ts : List Th} {s : St} {L : List Deed} {n v w : Int} {o l : Option Str}
theorem trY_set (r : ts[n.toNat]? = some (.raw v o)) : ∀ (k : Nat) (i : Int), trY (ts.set n.toNat (.raw w l)) k i = trY ts k i
  | 0, i => rfl
  | k + 1, i => by
    have ih : trY (ts.set n.toNat (.raw w l)) k = trY ts k := funext (trY_set r k)
    unfold trY
    rw [ih]
    by_cases c : i.toNat = n.toNat
    · rw [c, List.getElem?_set_self (List.getElem?_eq_some_iff.mp r).1, r]
    · rw [List.getElem?_set_ne (Ne.symm c)]
theorem treeY_set (r : ts[n.toNat]? = some (.raw v o)) (i : Int) : treeY (ts.set n.toNat (.raw w l)) i = treeY ts i := trY_set r _ i
theorem things_le (wf : WFT b ts) : ∀ (k : Nat) (i : Int), 0 ≤ i → i.toNat < k → i < (ts.length : Int) → ∀ y ∈ (treeY ts i).things, 0 ≤ y ∧ y ≤ i
  | 0, i, _, h, _ => absurd h (Nat.not_lt_zero _)
  | k + 1, i, i0, hk, il => by
    obtain ⟨th, e⟩ := th_get i0 il
    intro y hy
    cases th with
    | raw v' l' =>
      rw [treeY_raw e, Tree.things, List.mem_singleton] at hy
      omega
    | made z xs =>
      obtain ⟨-, -, -, hx⟩ := wf.made _ z xs e
      rw [treeY_made wf e, things_node, List.mem_flatMap] at hy
      obtain ⟨t, ht, hn⟩ := hy
      obtain ⟨x, hxm, rfl⟩ := List.mem_map.mp ht
      obtain ⟨x0, x1⟩ := hx x hxm
      have := things_le wf k x x0 (by omega) (by omega) y hn
      omega
theorem things_rng (wf : WFT b ts) {i : Int} (i0 : 0 ≤ i) (il : i < (ts.length : Int)) : ∀ y ∈ (treeY ts i).things, 0 ≤ y ∧ y < (ts.length : Int) := fun y hy => by
  have := things_le wf (i.toNat + 1) i i0 (by omega) il y hy
  omega
theorem nd1Y (x : Int) : [x].Nodup := List.nodup_cons.mpr ⟨by simp, List.nodup_nil⟩
def thY (ts : List Th) (x : Int) : List Int := (treeY ts x).things
def rootsY (s : St) : List Int := s.lying ++ s.gone.map (·.1)
structure Woods (s : St) : Prop where
  f : ((rootsY s).flatMap (thY s.things)).Nodup
  t : ∀ i : Int, 0 ≤ i → i < (s.things.length : Int) → (thY s.things i).Nodup
  lp : s.lying.Pairwise (· < ·)
  gn : (s.gone.map (·.1)).Nodup
  dj : ∀ x ∈ s.lying, x ∉ s.gone.map (·.1)
  al : ∀ i : Int, 0 ≤ i → i < (s.things.length : Int) → i ∈ s.lying ∨ i ∈ s.gone.map (·.1) ∨ ∃ (j : Nat) (z : Str) (xs : List Int), s.things[j]? = some (.made z xs) ∧ i ∈ xs
  nk : ∀ (j : Nat) (z : Str) (xs : List Int), s.things[j]? = some (.made z xs) → ∀ x ∈ xs, x ∉ s.lying
theorem flatMap_eq {α β : Type} {f g : α → List β} {l : List α} (h : ∀ x ∈ l, f x = g x) : l.flatMap f = l.flatMap g := by
  induction l with
  | nil => rfl
  | cons x l ih => rw [List.flatMap_cons, List.flatMap_cons, h x List.mem_cons_self, ih fun y hy => h y (List.mem_cons_of_mem _ hy)]
theorem roots_rng (w : WFY b s) : ∀ x ∈ rootsY s, 0 ≤ x ∧ x < (s.things.length : Int) := fun x hx => by
  rcases List.mem_append.mp hx with hx | hx
  · exact w.lr x hx
  · obtain ⟨p, hp, rfl⟩ := List.mem_map.mp hx
    exact w.gr p hp
theorem perm_take {xs ys : List Int} (h1 : xs.Nodup) (h2 : ys.Nodup) (h : ∀ y ∈ ys, y ∈ xs) : ((xs.filter fun x => decide (x ∉ ys)) ++ ys).Perm xs := by
  refine (List.perm_ext_iff_of_nodup (List.nodup_append.mpr ⟨h1.filter _, h2, fun a ha b hb e => ?_⟩) h1).mpr fun a => ?_
  · subst e
    exact absurd hb (of_decide_eq_true (List.mem_filter.mp ha).2)
  · rw [List.mem_append, List.mem_filter]
    constructor
    · rintro (c | c)
      · exact c.1
      · exact h a c
    · intro c
      by_cases d : a ∈ ys
      · exact .inr d
      · exact .inl ⟨c, decide_eq_true d⟩
theorem ends_lt {xs : List Int} {N : Int} (h : xs.Pairwise (· < ·)) (h2 : ∀ x ∈ xs, x < N) : (xs ++ [N]).Pairwise (· < ·) := by
  rw [List.pairwise_append]
  exact ⟨h, List.pairwise_singleton _ _, fun a ha c hc => by rw [List.mem_singleton.mp hc]; exact h2 a ha⟩
theorem Woods.take (W : Woods s) (wy : WFY b s) (v : Int) (o : Option Str) : Woods (s.take v o) := by
  have eo : ∀ x : Int, 0 ≤ x → x < (s.things.length : Int) → thY (s.things ++ [Th.raw v o]) x = thY s.things x := fun x x0 x1 => by unfold thY; rw [treeY_app wy.t x0 x1]
  have eN : thY (s.things ++ [Th.raw v o]) (s.things.length : Int) = [(s.things.length : Int)] := by
    unfold thY
    rw [treeY_raw (v := v) (l := o) (by simp), Tree.things]
  have getm : ∀ {j : Nat} {z xs}, (s.things ++ [Th.raw v o])[j]? = some (.made z xs) → s.things[j]? = some (.made z xs) := fun {j z xs} e => by
    by_cases c : j < s.things.length
    · rw [List.getElem?_append_left c] at e; exact e
    · rw [List.getElem?_append_right (by omega)] at e
      by_cases d : j - s.things.length = 0
      · rw [d] at e; cases e
      · rw [List.getElem?_eq_none (by simp; omega)] at e; cases e
  refine ⟨?_, fun i i0 i1 => ?_, ends_lt W.lp fun x hx => (wy.lr x hx).2, W.gn, fun x hx => ?_, fun i i0 i1 => ?_, fun j z xs e x hx => ?_⟩
  · have p : (rootsY (s.take v o)).Perm (rootsY s ++ [(s.things.length : Int)]) := by
      show ((s.lying ++ [(s.things.length : Int)]) ++ s.gone.map (·.1)).Perm ((s.lying ++ s.gone.map (·.1)) ++ [(s.things.length : Int)])
      rw [List.append_assoc, List.append_assoc]
      exact List.perm_append_comm.append_left _
    refine (p.flatMap_right (thY (s.take v o).things)).nodup_iff.mpr ?_
    rw [List.flatMap_append, List.flatMap_singleton]
    show (List.flatMap (thY (s.things ++ [Th.raw v o])) (rootsY s) ++ thY (s.things ++ [Th.raw v o]) (s.things.length : Int)).Nodup
    rw [flatMap_eq fun x hx => eo x (roots_rng wy x hx).1 (roots_rng wy x hx).2, eN]
    refine List.nodup_append.mpr ⟨W.f, nd1Y _, fun a ha c hc e => ?_⟩
    rw [List.mem_singleton.mp hc] at e
    obtain ⟨x, hx, hax⟩ := List.mem_flatMap.mp ha
    have := things_rng wy.t (roots_rng wy x hx).1 (roots_rng wy x hx).2 a hax
    omega
  · have i1 : i < ((s.things ++ [Th.raw v o]).length : Int) := i1
    rw [List.length_append, List.length_singleton] at i1
    show (thY (s.things ++ [Th.raw v o]) i).Nodup
    by_cases c : i < (s.things.length : Int)
    · rw [eo i i0 c]; exact W.t i i0 c
    · have : i = (s.things.length : Int) := by omega
      rw [this, eN]; exact nd1Y _
  · rcases List.mem_append.mp hx with hx | hx
    · exact W.dj x hx
    · rw [List.mem_singleton.mp hx]
      intro h
      obtain ⟨p, hp, e⟩ := List.mem_map.mp h
      have := (wy.gr p hp).2
      omega
  · have i1 : i < ((s.things ++ [Th.raw v o]).length : Int) := i1
    rw [List.length_append, List.length_singleton] at i1
    by_cases c : i < (s.things.length : Int)
    · rcases W.al i i0 c with h | h | ⟨j, z, xs, e, h⟩
      · exact .inl (List.mem_append_left _ h)
      · exact .inr (.inl h)
      · refine .inr (.inr ⟨j, z, xs, ?_, h⟩)
        show (s.things ++ _)[j]? = _
        rw [List.getElem?_append_left (List.getElem?_eq_some_iff.mp e).1]; exact e
    · exact .inl (List.mem_append_right _ (by rw [List.mem_singleton]; omega))
  · have e := getm e
    have x1 := ((wy.t.made j z xs e).2.2.2 x hx).2
    have hj := (List.getElem?_eq_some_iff.mp e).1
    intro h
    rcases List.mem_append.mp h with h | h
    · exact W.nk j z xs e x hx h
    · rw [List.mem_singleton] at h; omega
theorem Woods.mk' (W : Woods s) (wy : WFY b s) {z : Str} {xs : List Int} (wy' : WFY b (s.mk' z xs)) (h : ∀ x ∈ xs, x ∈ s.lying) (nd : xs.Nodup) : Woods (s.mk' z xs) := by
  have eo : ∀ x : Int, 0 ≤ x → x < (s.things.length : Int) → thY (s.things ++ [Th.made z xs]) x = thY s.things x := fun x x0 x1 => by unfold thY; rw [treeY_app wy.t x0 x1]
  have eN : thY (s.things ++ [Th.made z xs]) (s.things.length : Int) = xs.flatMap (thY s.things) := by
    have wt : WFT b (s.things ++ [Th.made z xs]) := wy'.t
    unfold thY
    rw [treeY_made wt (z := z) (xs := xs) (by simp), things_node, List.flatMap_map]
    exact flatMap_eq fun x hx => by
      show thY (s.things ++ [Th.made z xs]) x = _
      rw [eo x (wy.lr x (h x hx)).1 (wy.lr x (h x hx)).2]; rfl
  have getm : ∀ {j : Nat} {z' xs'}, (s.things ++ [Th.made z xs])[j]? = some (.made z' xs') → s.things[j]? = some (.made z' xs') ∨ (j = s.things.length ∧ xs' = xs) := fun {j z' xs'} e => by
    by_cases c : j < s.things.length
    · rw [List.getElem?_append_left c] at e; exact .inl e
    · rw [List.getElem?_append_right (by omega)] at e
      by_cases d : j - s.things.length = 0
      · rw [d] at e; cases e; exact .inr ⟨by omega, rfl⟩
      · rw [List.getElem?_eq_none (by simp; omega)] at e; cases e
  have px : (((s.lying.filter fun x => decide (x ∉ xs)) ++ s.gone.map (·.1)) ++ xs).Perm (rootsY s) := by
    have := (perm_take wy.ln nd h).append_right (s.gone.map (·.1))
    refine List.Perm.trans ?_ this
    rw [List.append_assoc, List.append_assoc]
    exact List.perm_append_comm.append_left _
  have ex : (((s.lying.filter fun x => decide (x ∉ xs)) ++ s.gone.map (·.1)) ++ xs).flatMap (thY s.things) |>.Nodup := (px.flatMap_right (thY s.things)).nodup_iff.mpr W.f
  refine ⟨?_, fun i i0 i1 => ?_, ends_lt (W.lp.filter _) fun x hx => (wy.lr x (List.mem_filter.mp hx).1).2, W.gn, fun x hx => ?_, fun i i0 i1 => ?_, fun j z' xs' e x hx => ?_⟩
  · have p : (rootsY (s.mk' z xs)).Perm (((s.lying.filter fun x => decide (x ∉ xs)) ++ s.gone.map (·.1)) ++ [(s.things.length : Int)]) := by
      show (((s.lying.filter fun x => decide (x ∉ xs)) ++ [(s.things.length : Int)]) ++ s.gone.map (·.1)).Perm _
      rw [List.append_assoc, List.append_assoc]
      exact List.perm_append_comm.append_left _
    refine (p.flatMap_right (thY (s.mk' z xs).things)).nodup_iff.mpr ?_
    rw [List.flatMap_append, List.flatMap_singleton]
    show (List.flatMap (thY (s.things ++ [Th.made z xs])) _ ++ thY (s.things ++ [Th.made z xs]) (s.things.length : Int)).Nodup
    have hr : ∀ x ∈ ((s.lying.filter fun x => decide (x ∉ xs)) ++ s.gone.map (·.1)), 0 ≤ x ∧ x < (s.things.length : Int) := fun x hx => by
      rcases List.mem_append.mp hx with hx | hx
      · exact wy.lr x (List.mem_filter.mp hx).1
      · exact roots_rng wy x (List.mem_append_right _ hx)
    rw [flatMap_eq fun x hx => eo x (hr x hx).1 (hr x hx).2, eN, ← List.flatMap_append]
    exact ex
  · have i1 : i < ((s.things ++ [Th.made z xs]).length : Int) := i1
    rw [List.length_append, List.length_singleton] at i1
    show (thY (s.things ++ [Th.made z xs]) i).Nodup
    by_cases c : i < (s.things.length : Int)
    · rw [eo i i0 c]; exact W.t i i0 c
    · have : i = (s.things.length : Int) := by omega
      rw [this, eN]
      rw [List.flatMap_append] at ex
      exact (List.nodup_append.mp ex).2.1
  · rcases List.mem_append.mp hx with hx | hx
    · exact W.dj x (List.mem_filter.mp hx).1
    · rw [List.mem_singleton.mp hx]
      intro h
      obtain ⟨p, hp, e⟩ := List.mem_map.mp h
      have := (wy.gr p hp).2
      omega
  · have i1 : i < ((s.things ++ [Th.made z xs]).length : Int) := i1
    rw [List.length_append, List.length_singleton] at i1
    by_cases c : i < (s.things.length : Int)
    · rcases W.al i i0 c with h | h | ⟨j, z', xs', e, h⟩
      · by_cases d : i ∈ xs
        · refine .inr (.inr ⟨s.things.length, z, xs, ?_, d⟩)
          show (s.things ++ _)[_]? = _
          simp
        · exact .inl (List.mem_append_left _ (List.mem_filter.mpr ⟨h, decide_eq_true d⟩))
      · exact .inr (.inl h)
      · refine .inr (.inr ⟨j, z', xs', ?_, h⟩)
        show (s.things ++ _)[j]? = _
        rw [List.getElem?_append_left (List.getElem?_eq_some_iff.mp e).1]; exact e
    · exact .inl (List.mem_append_right _ (by rw [List.mem_singleton]; omega))
  · intro hh
    rcases List.mem_append.mp hh with hh | hh
    · obtain ⟨h1, h2⟩ := List.mem_filter.mp hh
      rcases getm e with e | ⟨e, rfl⟩
      · exact W.nk j z' xs' e x hx h1
      · exact absurd hx (of_decide_eq_true h2)
    · rw [List.mem_singleton] at hh
      rcases getm e with e | ⟨e, rfl⟩
      · have x1 := ((wy.t.made j z' xs' e).2.2.2 x hx).2
        have hj := (List.getElem?_eq_some_iff.mp e).1
        omega
      · have := (wy.lr x (h x hx)).2
        omega
theorem Woods.snd (W : Woods s) (wy : WFY b s) {n : Int} {z : Str} (h : n ∈ s.lying) : Woods (s.snd n z) := by
  have pl : ((s.lying.filter fun x => decide (x ≠ n)) ++ [n]).Perm s.lying := by
    have := perm_take (ys := [n]) wy.ln (nd1Y n) (fun y hy => by rw [List.mem_singleton.mp hy]; exact h)
    have e : (s.lying.filter fun x => decide (x ∉ [n])) = s.lying.filter fun x => decide (x ≠ n) := List.filter_congr fun x _ => by
      rw [decide_eq_decide, List.mem_singleton]
    rwa [e] at this
  refine ⟨?_, W.t, W.lp.filter _, ?_, fun x hx => ?_, fun i i0 i1 => ?_, fun j z' xs' e x hx hh => W.nk j z' xs' e x hx (List.mem_filter.mp hh).1⟩
  · have p : (rootsY (s.snd n z)).Perm (rootsY s) := by
      show ((s.lying.filter fun x => decide (x ≠ n)) ++ (s.gone ++ [(n, z)]).map (·.1)).Perm (s.lying ++ s.gone.map (·.1))
      rw [List.map_append]
      refine List.Perm.trans ?_ (pl.append_right _)
      rw [List.append_assoc]
      exact List.perm_append_comm.append_left _
    exact (p.flatMap_right _).nodup_iff.mpr W.f
  · show ((s.gone ++ [(n, z)]).map (·.1)).Nodup
    rw [List.map_append]
    refine List.nodup_append.mpr ⟨W.gn, nd1Y _, fun a ha c hc e => ?_⟩
    rw [List.mem_singleton.mp hc] at e
    have e : a = n := e
    subst e
    exact W.dj a h ha
  · obtain ⟨h1, h2⟩ := List.mem_filter.mp hx
    show x ∉ (s.gone ++ [(n, z)]).map (·.1)
    rw [List.map_append]
    intro hh
    rcases List.mem_append.mp hh with hh | hh
    · exact W.dj x h1 hh
    · exact absurd (List.mem_singleton.mp hh) (of_decide_eq_true h2)
  · have e : ((s.gone ++ [(n, z)]).map (·.1)) = s.gone.map (·.1) ++ [n] := by rw [List.map_append]; rfl
    show _ ∨ i ∈ (s.gone ++ [(n, z)]).map (·.1) ∨ _
    rw [e]
    rcases W.al i i0 i1 with h | h | h
    · by_cases c : i = n
      · exact .inr (.inl (List.mem_append_right _ (List.mem_singleton.mpr c)))
      · exact .inl (List.mem_filter.mpr ⟨h, decide_eq_true c⟩)
    · exact .inr (.inl (List.mem_append_left _ h))
    · exact .inr (.inr h)
theorem made_set (r : ts[n.toNat]? = some (.raw v o)) {j : Nat} {z : Str} {xs : List Int} : (ts.set n.toNat (.raw w l))[j]? = some (.made z xs) ↔ ts[j]? = some (.made z xs) := by
  by_cases c : j = n.toNat
  · subst c
    rw [List.getElem?_set_self (List.getElem?_eq_some_iff.mp r).1, r]
    exact ⟨fun e => (by cases e), fun e => (by cases e)⟩
  · rw [List.getElem?_set_ne (Ne.symm c)]
theorem Woods.fnd (W : Woods s) (r : s.things[n.toNat]? = some (.raw v o)) : Woods (s.fnd n w l) := by
  have eo : thY (s.things.set n.toNat (.raw w l)) = thY s.things := funext fun i => by unfold thY; rw [treeY_set r]
  have ln : ((s.fnd n w l).things.length : Int) = (s.things.length : Int) := by
    show ((s.things.set _ _).length : Int) = _
    rw [List.length_set]
  refine ⟨?_, fun i i0 i1 => ?_, W.lp, W.gn, W.dj, fun i i0 i1 => ?_, fun j z xs e => W.nk j z xs ((made_set r).mp e)⟩
  · show ((rootsY s).flatMap (thY (s.things.set n.toNat (.raw w l)))).Nodup
    rw [eo]; exact W.f
  · show (thY (s.things.set n.toNat (.raw w l)) i).Nodup
    rw [eo]; exact W.t i i0 (by rw [← ln]; exact i1)
  · rcases W.al i i0 (by rw [← ln]; exact i1) with h | h | ⟨j, z, xs, e, h⟩
    · exact .inl h
    · exact .inr (.inl h)
    · exact .inr (.inr ⟨j, z, xs, (made_set r).mpr e, h⟩)
theorem fRef_raw (h : fRef b s n w l = none) : (0 ≤ n ∧ n < (s.things.length : Int)) ∧ ∃ v o, s.things[n.toNat]? = some (.raw v o) := by
  unfold fRef at h
  by_cases c : ¬(0 ≤ n ∧ n < (s.things.length : Int)) ∨ isMade s.things n = true
  · rw [if_pos c] at h; cases h
  · have c1 : 0 ≤ n ∧ n < (s.things.length : Int) := Classical.byContradiction fun x => c (.inl x)
    refine ⟨c1, ?_⟩
    obtain ⟨th, e⟩ := th_get c1.1 c1.2
    cases th with
    | raw v o => exact ⟨v, o, e⟩
    | made z xs => exact absurd (.inr (by unfold isMade; rw [e])) c
end
end DL
namespace DL
open PySem PySem.Spec PyProof.Rows L2
section
variable {b : Book} {ts : List Th} {s : St} {L : List Deed}
theorem treeY_okT (wf : WFT b ts) : ∀ (k : Nat) (i : Int), 0 ≤ i → i.toNat < k → i < (ts.length : Int) → (treeY ts i).okT b.names
  | 0, i, _, h, _ => absurd h (Nat.not_lt_zero _)
  | k + 1, i, i0, hk, il => by
    obtain ⟨th, e⟩ := th_get i0 il
    cases th with
    | raw v' l' => rw [treeY_raw e]; exact trivial
    | made z xs =>
      obtain ⟨hz, ne, -, hx⟩ := wf.made _ z xs e
      rw [treeY_made wf e, Tree.okT]
      refine ⟨hz, fun h => ne (List.map_eq_nil_iff.mp h), (okTs_iff _ _).mpr fun t ht => ?_⟩
      obtain ⟨x, hxm, rfl⟩ := List.mem_map.mp ht
      obtain ⟨x0, x1⟩ := hx x hxm
      exact treeY_okT wf k x x0 (by omega) (by omega)
theorem hpY_fr (wf : WFT b ts) : ∀ x ∈ hpY ts, ∀ z, x.2 = some z → z ∈ b.names := fun x hx z e => by
  obtain ⟨th, hth, rfl⟩ := List.mem_map.mp hx
  obtain ⟨i, hi, e2⟩ := List.getElem_of_mem hth
  cases th with
  | raw w l => exact (wf.raw i w l (by rw [List.getElem?_eq_getElem hi, e2])).2.2 z e
  | made z' xs => cases e
theorem treeY_land (wf : WFT b ts) {i : Int} (i0 : 0 ≤ i) (il : i < (ts.length : Int)) : ∀ z, (treeY ts i).land b (hpY ts) = some z → z ∈ b.names :=
  land_mem (hpY_fr wf) _ (treeY_okT wf (i.toNat + 1) i i0 (by omega) il)
theorem Run.gone (r : Run b s L) : ∀ p ∈ s.gone, p.2 ∈ b.names := by
  induction r with
  | nil => exact fun _ h => absurd h (by simp)
  | @step s L d r ok hd ih =>
    cases d with
    | take v o => exact ih
    | make z xs => exact ih
    | send n z =>
      have h : sRef b s n z = none := hd
      unfold sRef at h
      by_cases c : n ∈ s.lying
      · rw [if_neg (fun x => x c)] at h
        by_cases c2 : z ∈ b.names
        · intro p hp
          rcases List.mem_append.mp hp with hp | hp
          · exact ih p hp
          · rw [List.mem_singleton.mp hp]; exact c2
        · rw [if_pos c2] at h; cases h
      · rw [if_pos c] at h; cases h
    | find n w l => exact ih
end
end DL
namespace DL
open PySem PySem.Spec PyProof.Rows L2
structure LSW (Ts : List (Addr × Str)) (t r : Addr) (h : Hv) : Prop where
  T : Town t r h
  tb : Tbs Ts h
section
variable {G : Gx} {Ts : List (Addr × Str)} {t r : Addr} {h h' : Hv} {a : Addr} {b : Book} {s : St} {A : Ay} {ds us : List (Val × Addr)} {ρ : Sl} {E : PX} {d : ED}
theorem LSW.by (x : LSW Ts t r h) (k : ∀ c o, h c = some o → (∀ C fs, o ≠ .ins C fs) → (∀ vs, o ≠ .lst vs) → h' c = some o) (b : ∀ c o, (∀ C fs, o ≠ .ins C fs) → (∀ vs, o ≠ .lst vs) → h' c = some o → h c = some o) : LSW Ts t r h' := by
  obtain ⟨c, c0, e1⟩ := x.T.tc
  obtain ⟨rs, e2, kk⟩ := x.T.rc
  exact ⟨⟨x.T.ne, ⟨c, c0, k _ _ e1 (fun _ _ z => nomatch z) (fun _ z => nomatch z)⟩, rs, k _ _ e2 (fun _ _ z => nomatch z) (fun _ z => nomatch z), kk⟩, fun p hp => k _ _ (x.tb.has p hp) (fun _ _ z => nomatch z) (fun _ z => nomatch z), fun p q hp => x.tb.all p q (b _ _ (fun _ _ z => nomatch z) (fun _ z => nomatch z) hp)⟩
theorem LSW.nw (x : LSW Ts t r h) (n : Nw h' h) : LSW Ts t r h' := x.by (fun c o e _ _ => by
  rcases n.o c with z | z
  · rw [z] at e; cases e
  · rw [z]; exact e) n.b
theorem LSW.yfr (x : LSW Ts t r h) (y : YdAt G h a b s A ds us) (f : YFr a A h h') : LSW Ts t r h' := x.by (fun c o e n1 n2 => by
  rcases f.o c (fun z => by rw [z, y.ins] at e; exact n1 _ _ (Option.some.inj e).symm) (fun z => by rw [z, y.dn] at e; exact n2 _ (Option.some.inj e).symm) with z | z
  · rw [z] at e; cases e
  · rw [z]; exact e) f.b
theorem LSW.only (x : LSW Ts t r h) (T : Town t r h') (o : Only t r h h') : LSW Ts t r h' := ⟨T, x.tb.town x.T T o⟩
theorem evi_rngW {n : Nat} {da : ED} (ha : EvE ρ h E da (.int (n : Int))) (hn : n ≤ 1000000) : EvI ρ h E (dRange1 (aCons da aNil)) ⟨(rngI n).map Val.int, fun _ => True⟩ := fun Q q => evi_range1 ha hn Q (by
  have : (rngI n).map Val.int = (List.range n).map fun (i : Nat) => Val.int (0 + (i : Nat)) := by
    unfold rngI
    rw [List.map_map]
    exact List.map_congr_left fun i _ => by show Val.int _ = Val.int _; rw [Int.zero_add]
  rw [← this]; exact q)
theorem mem_rngW {n : Nat} {i : Int} : i ∈ rngI n ↔ 0 ≤ i ∧ i < (n : Int) := by
  unfold rngI
  rw [List.mem_map]
  constructor
  · rintro ⟨k, hk, rfl⟩
    have := List.mem_range.mp hk
    omega
  · rintro ⟨h0, h1⟩
    exact ⟨i.toNat, List.mem_range.mpr (by omega), by omega⟩
theorem len_rngW (n : Nat) : (rngI n).length = n := by unfold rngI; simp
theorem get_rngW {n : Nat} {i : Int} (h0 : 0 ≤ i) (h1 : i < (n : Int)) {α : Type} (f : Int → α) : ((rngI n).map f)[i.toNat]? = some (f i) := by
  unfold rngI
  rw [List.getElem?_map, List.getElem?_map, List.getElem?_range (by omega)]
  show some (f ((i.toNat : Nat) : Int)) = _
  rw [show ((i.toNat : Nat) : Int) = i by omega]
theorem x_evW {v : Val} {Q : PV} (a : EvE ρ h E d v) (q : Q v h) : d ρ h Q E := a _ q
theorem f_neIW {i j : Int} : EvF h fNe (.int i) (.int j) (.bl (!decide (i = j))) := fun Q q => q
end
section
variable {G : Gx} {h h' : Hv} {a : Addr} {b : Book} {s : St} {A : Ay} {ds us : List (Val × Addr)} {ρ : Sl} {E : PX} {i : Int}
theorem e_worthW {d1 d2 : ED} (y : YdAt G h a b s A ds us) (wy : WFY b s) (l : s.things.length ≤ 30) (i0 : 0 ≤ i) (il : i < (s.things.length : Int)) (h1 : EvE ρ h E d1 (.ref a)) (h2 : EvE ρ h E d2 (.int i)) : EvE ρ h E (dMeth (G.C "Yard") "worth" 2 (S_Yard_worth G) d1 (aCons d2 aNil)) (.int ((treeY s.things i).whole (hpY s.things))) :=
  e_methE h1 y.ins rfl (eva1 h2) rfl fun Q q => ⟨a, b, s, A, ds, us, i, rfl, y, wy, by have := ht_treeY wy.t i; omega, .inl ⟨i0, il, q⟩⟩
theorem e_countsW {d1 d2 : ED} (y : YdAt G h a b s A ds us) (wf : WFB b) (wy : WFY b s) (l : s.things.length ≤ 30) (i0 : 0 ≤ i) (il : i < (s.things.length : Int)) (h1 : EvE ρ h E d1 (.ref a)) (h2 : EvE ρ h E d2 (.int i)) : EvE ρ h E (dMeth (G.C "Yard") "counts" 2 (S_Yard_counts G) d1 (aCons d2 aNil)) (encO ((treeY s.things i).land b (hpY s.things))) :=
  e_methE h1 y.ins rfl (eva1 h2) rfl fun Q q => ⟨a, b, s, A, ds, us, i, rfl, y, wf, wy, by have := ht_treeY wy.t i; omega, .inl ⟨i0, il, q⟩⟩
theorem e_hereW {d1 : ED} (y : YdAt G h a b s A ds us) (wy : WFY b s) (h1 : EvE ρ h E d1 (.ref a)) : EvE ρ h E (dMeth0 (G.C "Yard") "here" (S_Yard_here G) d1) (.tup (s.lying.map .int)) := fun Q q =>
  e_meth0 (a := a) h1 y.ins rfl ⟨a, b, s, A, ds, us, rfl, y, wy.ll, q⟩
theorem e_sentW {d1 : ED} (y : YdAt G h a b s A ds us) (h1 : EvE ρ h E d1 (.ref a)) : EvE ρ h E (dMeth0 (G.C "Yard") "sent" (S_Yard_sent G) d1) (.tup (s.gone.map encG)) := fun Q q =>
  e_meth0 (a := a) h1 y.ins rfl ⟨a, b, s, A, ds, us, rfl, y, q⟩
theorem e_lenW {d1 : ED} (y : YdAt G h a b s A ds us) (wy : WFY b s) (h1 : EvE ρ h E d1 (.ref a)) : EvE ρ h E (dCB (fLenO (G.C "Yard") (S_Yard___len__ G)) (aCons d1 aNil)) (.int (s.lying.length : Int)) := ev_cb (eva1 h1) fun Q q => by
  show match h a with | some (.ins C' fl) => C' = G.C "Yard" ∧ S_Yard___len__ G [.ref a] h (fun v h2 => ∃ i : Int, v = .int i ∧ 0 ≤ i ∧ i < 2 ^ 62 ∧ Q v h2) (fun _ _ _ => False) | _ => False
  rw [y.ins]
  have := wy.ll
  exact ⟨rfl, a, b, s, A, ds, us, rfl, y, _, rfl, by omega, by omega, q⟩
theorem e_falseW {d1 : ED} (y : YdAt G h a b s A ds us) (wf : WFB b) (wy : WFY b s) (l : s.things.length ≤ 30) (h1 : EvE ρ h E d1 (.ref a)) : EvE ρ h E (dMeth0 (G.C "Yard") "false_ones" (S_Yard_false_ones G) d1) (.tup ((falseY b s).map .int)) := fun Q q =>
  e_meth0 (a := a) h1 y.ins rfl ⟨a, b, s, A, ds, us, rfl, y, wf, wy, fun p hp => by have := ht_treeY wy.t p.1; have := wy.gr p hp; omega, q⟩
theorem e_holdersW {d1 d2 : ED} (y : YdAt G h a b s A ds us) (wy : WFY b s) (l : s.things.length ≤ 30) (i0 : 0 ≤ i) (il : i < (s.things.length : Int)) (h1 : EvE ρ h E d1 (.ref a)) (h2 : EvE ρ h E d2 (.int i)) : EvE ρ h E (dMeth (G.C "Yard") "holders" 2 (S_Yard_holders G) d1 (aCons d2 aNil)) (.tup (((rngI s.things.length).filter fun j => holdY s.things i j).map .int)) :=
  e_methE h1 y.ins rfl (eva1 h2) rfl fun Q q => ⟨a, b, s, A, ds, us, i, rfl, y, wy, fun j hj => by have := ht_treeY wy.t (j : Int); omega, .inl ⟨i0, il, q⟩⟩
end
end DL
namespace DL
open PySem PySem.Spec PyProof.Rows L2
def den_law (G : Gx) : SD := (sSeq (sSet 1 (dCall 0 S__law_begun aNil)) (sSeq (sSet 8 (dCall 2 S__law_a_book (aCons (dVar 0) (aCons (dVar 1) aNil)))) (sSeq (sAsg (.tp [(.nm 11), (.nm 2), (.nm 3)]) (dTup (aCons (dNew (G.C "Yard") 2 (S_Yard___init__ G) (aCons (dVar 8) aNil)) (aCons (dDisp [((dC (.str "things")), (dLst aNil)), ((dC (.str "here")), (dLst aNil)), ((dC (.str "sent")), (dLst aNil))]) (aCons (dLstH aNil) aNil))))) (sSeq (sFor (dRange1 (aCons (dC (.int 30)) aNil)) (.nm 4) (sSeq (sAsg (.tp [(.nm 10), (.nm 9)]) (dCall 4 S__law_a_deed (aCons (dVar 0) (aCons (dVar 1) (aCons (dVar 8) (aCons (dVar 2) aNil)))))) (sSeq (sSet 5 (dCall 4 S__law_refusal (aCons (dVar 8) (aCons (dVar 2) (aCons (dVar 10) (aCons (dVar 9) aNil)))))) (sSeq (sSet 6 (dHeardN G.Ts (G.T "law") LQ ["BadBook", "NoLand", "NoThing", "NoWorth"] (dCall 3 (S__law_call G) (aCons (dVar 11) (aCons (dVar 10) (aCons (dVar 9) aNil)))))) (sSeq (sIf (dTest (dBin fIsN (dVar 5) (dC .non))) (sSeq (sSet 5 (dTup (aCons (dC (.str "told")) (aCons (dCall 3 S__law_done (aCons (dVar 2) (aCons (dVar 10) (aCons (dVar 9) aNil)))) aNil)))) (sExpr (dBM "list" fAppend (dVar 3) (aCons (dTup (aCons (dVar 10) (aCons (dVar 9) aNil))) aNil)))) sNext) (sSeq (sIf (dTest (dBin fNe (dVar 6) (dVar 5))) (sRet (dC (.bl false))) sNext) (sIf (dAnd (dTest (dBin fEq (dBin fMod (dVar 4) (dC (.int 5))) (dC (.int 4)))) (dNot (dTruth (dCall 4 (S__law_stands G) (aCons (dVar 8) (aCons (dVar 11) (aCons (dVar 2) (aCons (dVar 3) aNil)))))))) (sRet (dC (.bl false))) sNext))))))) (sSeq (sSet 7 (dLstH (aCons (dHeardN G.Ts (G.T "law") LQ ["BadBook", "NoLand", "NoThing", "NoWorth"] (dNew (G.C "Yard") 2 (S_Yard___init__ G) (aCons (dC .non) aNil))) aNil))) (sSeq (sExpr (dBM "list" fAppend (dVar 7) (aCons (dHeardN G.Ts (G.T "law") LQ ["BadBook", "NoLand", "NoThing", "NoWorth"] (dMeth (G.C "Yard") "worth" 2 (S_Yard_worth G) (dVar 11) (aCons (dC (.int 99)) aNil))) aNil))) (sSeq (sExpr (dBM "list" fAppend (dVar 7) (aCons (dHeardN G.Ts (G.T "law") LQ ["BadBook", "NoLand", "NoThing", "NoWorth"] (dMeth (G.C "Yard") "tree" 2 (S_Yard_tree G) (dVar 11) (aCons (dUn fNeg (dC (.int 1))) aNil))) aNil))) (sSeq (sExpr (dBM "list" fAppend (dVar 7) (aCons (dHeardN G.Ts (G.T "law") LQ ["BadBook", "NoLand", "NoThing", "NoWorth"] (dMeth (G.C "Yard") "make" 3 (S_Yard_make G) (dVar 11) (aCons (dBin fIx (dBin fIx (dBin fIx (dVar 8) (dC (.int 0))) (dC (.int 0))) (dC (.int 0))) (aCons (dTup aNil) aNil)))) aNil))) (sRet (dBin fEq (dVar 7) (dLst (aCons (dTup (aCons (dC (.str "no book")) aNil)) (aCons (dTup (aCons (dC (.str "no thing")) aNil)) (aCons (dTup (aCons (dC (.str "no thing")) aNil)) (aCons (dTup (aCons (dC (.str "no thing")) aNil)) aNil)))))))))))))))
end DL
namespace DL
open PySem PySem.Spec PyProof.Rows L2
def den__law_worth (R : SpF) : SD := (sSeq (sAsg (.tp [(.nm 2), (.nm 3)]) (dBin fIx (dDGet (dVar 0) (dC (.str "things"))) (dVar 1))) (sRet (dIfE (dNot (dTruth (dCB fIsi (aCons (dVar 3) (aCons (dC (.ty "tuple")) aNil))))) (dVar 2) (dCB fSum (aCons (dLc (dIt (dVar 3)) (.nm 4) tTrue (dCall 2 R (aCons (dVar 0) (aCons (dVar 4) aNil))) [4]) aNil)))))
def den__law_land (R : SpF) : SD := (sSeq (sAsg (.tp [(.nm 3), (.nm 4)]) (dBin fIx (dDGet (dVar 1) (dC (.str "things"))) (dVar 2))) (sSeq (sIf (dNot (dTruth (dCB fIsi (aCons (dVar 4) (aCons (dC (.ty "tuple")) aNil))))) (sRet (dVar 4)) sNext) (sSeq (sSet 5 (dC (.int 0))) (sSeq (sFor (dIt (dVar 4)) (.nm 6) (sIf (dTest (dBin fIn (dCall 3 R (aCons (dVar 0) (aCons (dVar 1) (aCons (dVar 6) aNil)))) (dCall 2 S__law_takes (aCons (dVar 0) (aCons (dVar 3) aNil))))) (sSet 5 (dBin fAdd (dVar 5) (dCall 2 S__law_worth (aCons (dVar 1) (aCons (dVar 6) aNil))))) sNext)) (sRet (dIfE (dTruth (dCall 4 S__law_has_share (aCons (dVar 0) (aCons (dVar 3) (aCons (dVar 5) (aCons (dCall 2 S__law_worth (aCons (dVar 1) (aCons (dVar 2) aNil))) aNil)))))) (dVar 3) (dC .non)))))))
def den__law_holds (R : SpF) : SD := (sSeq (sSet 3 (dBin fIx (dBin fIx (dDGet (dVar 0) (dC (.str "things"))) (dVar 1)) (dC (.int 1)))) (sSeq (sIf (dNot (dTruth (dCB fIsi (aCons (dVar 3) (aCons (dC (.ty "tuple")) aNil))))) (sRet (dC (.bl false))) sNext) (sRet (dBin fNe (dLc (dIt (dVar 3)) (.nm 4) (dOr (dTest (dBin fEq (dVar 4) (dVar 2))) (dTruth (dCall 3 R (aCons (dVar 0) (aCons (dVar 4) (aCons (dVar 2) aNil)))))) (dVar 4) [4]) (dLst aNil)))))
def den__law_refusal : SD := (sSeq (sPar [5, 6] (aCons (dLc (dIt (dBin fIx (dVar 0) (dC (.int 0)))) (.nm 4) tTrue (dBin fIx (dVar 4) (dC (.int 0))) [4]) (aCons (dCB fLen (aCons (dDGet (dVar 1) (dC (.str "things"))) aNil)) aNil))) (sSeq (sIf (dTest (dBin fIn (dVar 2) (dTup (aCons (dC (.str "take_in")) (aCons (dC (.str "find")) aNil))))) (sSeq (sAsg (.tp [(.nm 7), (.nm 4)]) (dSl fSl (dVar 3) (oSome (dUn fNeg (dC (.int 2)))) oNone)) (sSeq (sIf (dAnd (dTest (dBin fEq (dVar 2) (dC (.str "find")))) (dOr (dTest (dBin fGe (dBin fIx (dVar 3) (dC (.int 0))) (dVar 6))) (dTruth (dCB fIsi (aCons (dBin fIx (dBin fIx (dDGet (dVar 1) (dC (.str "things"))) (dBin fIx (dVar 3) (dC (.int 0)))) (dC (.int 1))) (aCons (dC (.ty "tuple")) aNil)))))) (sRet (dTup (aCons (dC (.str "no thing")) aNil))) sNext) (sRet (dIfE (dNot (dTest (dChain fLe fLe (dC (.int 1)) (dVar 7) (dC (.int 9999))))) (dTup (aCons (dC (.str "no worth")) aNil)) (dIfE (dTest (dBin fIn (dVar 4) (dBin fAdd (dVar 5) (dLst (aCons (dC .non) aNil))))) (dC .non) (dTup (aCons (dC (.str "no land")) aNil))))))) sNext) (sSeq (sIf (dTest (dBin fEq (dVar 2) (dC (.str "make")))) (sSeq (sIf (dTest (dBin fNotIn (dBin fIx (dVar 3) (dC (.int 0))) (dVar 5))) (sRet (dTup (aCons (dC (.str "no land")) aNil))) sNext) (sSeq (sSet 8 (dLc (dIt (dBin fIx (dVar 3) (dC (.int 1)))) (.nm 10) (dTest (dBin fNotIn (dVar 10) (dDGet (dVar 1) (dC (.str "here"))))) (dVar 10) [10])) (sRet (dIfE (dOr (dTest (dBin fNe (dVar 8) (dLst aNil))) (dOr (dTest (dBin fNe (dLenSetT (dBin fIx (dVar 3) (dC (.int 1)))) (dCB fLen (aCons (dBin fIx (dVar 3) (dC (.int 1))) aNil)))) (dTest (dBin fEq (dBin fIx (dVar 3) (dC (.int 1))) (dTup aNil))))) (dTup (aCons (dC (.str "no thing")) aNil)) (dC .non))))) sNext) (sSeq (sIf (dTest (dBin fNotIn (dBin fIx (dVar 3) (dC (.int 0))) (dDGet (dVar 1) (dC (.str "here"))))) (sRet (dTup (aCons (dC (.str "no thing")) aNil))) sNext) (sSeq (sIf (dTest (dBin fNotIn (dBin fIx (dVar 3) (dC (.int 1))) (dVar 5))) (sRet (dTup (aCons (dC (.str "no land")) aNil))) sNext) (sSeq (sSet 9 (dCall 3 S__law_land (aCons (dVar 0) (aCons (dVar 1) (aCons (dBin fIx (dVar 3) (dC (.int 0))) aNil))))) (sRet (dIfE (dTest (dBin fEq (dVar 9) (dBin fIx (dVar 3) (dC (.int 1))))) (dC .non) (dTup (aCons (dC (.str "not of")) (aCons (dVar 9) aNil)))))))))))
def den__law_done : SD := (sSeq (sSet 3 (dCB fLen (aCons (dDGet (dVar 0) (dC (.str "things"))) aNil))) (sSeq (sIf (dTest (dBin fEq (dVar 1) (dC (.str "find")))) (sSeq (sSet 4 (dDGet (dVar 0) (dC (.str "things")))) (sDPut (dVar 0) (dC (.str "things")) (dBin fAdd (dBin fAdd (dSl fSl (dVar 4) oNone (oSome (dBin fIx (dVar 2) (dC (.int 0))))) (dLst (aCons (dSl fSl (dVar 2) (oSome (dC (.int 1))) oNone) aNil))) (dSl fSl (dVar 4) (oSome (dBin fAdd (dBin fIx (dVar 2) (dC (.int 0))) (dC (.int 1)))) oNone)))) (sIf (dTest (dBin fEq (dVar 1) (dC (.str "send")))) (sSeq (sDPut (dVar 0) (dC (.str "here")) (dLc (dIt (dDGet (dVar 0) (dC (.str "here")))) (.nm 6) (dTest (dBin fNe (dVar 6) (dBin fIx (dVar 2) (dC (.int 0))))) (dVar 6) [6])) (sDPut (dVar 0) (dC (.str "sent")) (dBin fAdd (dDGet (dVar 0) (dC (.str "sent"))) (dLst (aCons (dVar 2) aNil))))) (sSeq (sSet 5 (dIfE (dTest (dBin fEq (dVar 1) (dC (.str "make")))) (dBin fIx (dVar 2) (dC (.int 1))) (dTup aNil))) (sSeq (sDPut (dVar 0) (dC (.str "things")) (dBin fAdd (dDGet (dVar 0) (dC (.str "things"))) (dLst (aCons (dVar 2) aNil)))) (sDPut (dVar 0) (dC (.str "here")) (dBin fAdd (dLc (dIt (dDGet (dVar 0) (dC (.str "here")))) (.nm 6) (dTest (dBin fNotIn (dVar 6) (dVar 5))) (dVar 6) [6]) (dLst (aCons (dVar 3) aNil)))))))) (sRet (dIfE (dTest (dBin fIn (dVar 1) (dTup (aCons (dC (.str "take_in")) (aCons (dC (.str "make")) aNil))))) (dVar 3) (dC .non)))))
def den_Yard___str__ (G : Gx) : SD := (sRet (dJs [(dFmt (dCB fLen (aCons (dFld (G.C "State") "lying" (dFld (G.C "Yard") "state" (dVar 0))) aNil))), (dC (.str " here, ")), (dFmt (dCB fLen (aCons (dFld (G.C "State") "gone" (dFld (G.C "Yard") "state" (dVar 0))) aNil))), (dC (.str " sent, ")), (dFmt (dCB fLen (aCons (dMeth0 (G.C "Yard") "false_ones" (S_Yard_false_ones G) (dVar 0)) aNil))), (dC (.str " false"))]))
def den__law_stands (G : Gx) : SD := (sSeq (sPar [4, 5] (aCons (dCB fLen (aCons (dDGet (dVar 2) (dC (.str "things"))) aNil)) (aCons (dLc (dIt (dBin fIx (dVar 0) (dC (.int 0)))) (.nm 12) tTrue (dBin fIx (dVar 12) (dC (.int 0))) [12]) aNil))) (sSeq (sSet 7 (dLc (dRange1 (aCons (dVar 4) aNil)) (.nm 6) tTrue (dCall 3 S__law_land (aCons (dVar 0) (aCons (dVar 2) (aCons (dVar 6) aNil)))) [6])) (sSeq (sSet 8 (dCB fTuple (aCons (dCB fSorted (aCons (dLc (dIt (dDGet (dVar 2) (dC (.str "sent")))) (.tp [(.nm 6), (.nm 12)]) (dTest (dBin fNe (dBin fIx (dVar 7) (dVar 6)) (dVar 12))) (dVar 6) [6, 12]) aNil)) aNil))) (sSeq (sIf (dOr (dTest (dBin fNe (dMeth0 (G.C "Yard") "here" (S_Yard_here G) (dVar 1)) (dCB fTuple (aCons (dDGet (dVar 2) (dC (.str "here"))) aNil)))) (dOr (dTest (dBin fNe (dMeth0 (G.C "Yard") "sent" (S_Yard_sent G) (dVar 1)) (dCB fTuple (aCons (dDGet (dVar 2) (dC (.str "sent"))) aNil)))) (dTest (dBin fNe (dMeth0 (G.C "Yard") "false_ones" (S_Yard_false_ones G) (dVar 1)) (dVar 8))))) (sRet (dC (.bl false))) sNext) (sSeq (sSet 9 (dBin fAdd (dBin fAdd (dBin fAdd (dCB fStrI (aCons (dCB fLen (aCons (dDGet (dVar 2) (dC (.str "here"))) aNil)) aNil)) (dC (.str " here, "))) (dCB fStrI (aCons (dCB fLen (aCons (dDGet (dVar 2) (dC (.str "sent"))) aNil)) aNil))) (dC (.str " sent, ")))) (sSeq (sSet 9 (dBin fAdd (dBin fAdd (dVar 9) (dCB fStrI (aCons (dCB fLen (aCons (dVar 8) aNil)) aNil))) (dC (.str " false")))) (sSeq (sIf (dOr (dTest (dBin fNe (dCB (fStrO (G.C "Yard") (S_Yard___str__ G)) (aCons (dVar 1) aNil)) (dVar 9))) (dOr (dTest (dBin fNe (dCB (fLenO (G.C "Yard") (S_Yard___len__ G)) (aCons (dVar 1) aNil)) (dCB fLen (aCons (dDGet (dVar 2) (dC (.str "here"))) aNil)))) (dTest (dBin fNe (dMeth0 (G.C "Yard") "deeds" (S_Yard_deeds G) (dVar 1)) (dCB fTuple (aCons (dVar 3) aNil)))))) (sRet (dC (.bl false))) sNext) (sSeq (sSet 10 (dLstH aNil)) (sSeq (sFor (dIt (dVar 5)) (.nm 11) (sExpr (dBM "list" fAppend (dVar 10) (aCons (dTup (aCons (dVar 11) (aCons (dCB fSum (aCons (dLc (dIt (dDGet (dVar 2) (dC (.str "here")))) (.nm 6) (dTest (dBin fEq (dBin fIx (dVar 7) (dVar 6)) (dVar 11))) (dCall 2 S__law_worth (aCons (dVar 2) (aCons (dVar 6) aNil))) [6]) aNil)) aNil))) aNil)))) (sSeq (sIf (dTest (dBin fNe (dMeth0 (G.C "Yard") "worths" (S_Yard_worths G) (dVar 1)) (dCB fTuple (aCons (dVar 10) aNil)))) (sRet (dC (.bl false))) sNext) (sSeq (sFor (dRange1 (aCons (dVar 4) aNil)) (.nm 6) (sSeq (sIf (dOr (dTest (dBin fNe (dMeth (G.C "Yard") "counts" 2 (S_Yard_counts G) (dVar 1) (aCons (dVar 6) aNil)) (dBin fIx (dVar 7) (dVar 6)))) (dTest (dBin fNe (dMeth (G.C "Yard") "worth" 2 (S_Yard_worth G) (dVar 1) (aCons (dVar 6) aNil)) (dCall 2 S__law_worth (aCons (dVar 2) (aCons (dVar 6) aNil)))))) (sRet (dC (.bl false))) sNext) (sIf (dTest (dBin fNe (dMeth (G.C "Yard") "holders" 2 (S_Yard_holders G) (dVar 1) (aCons (dVar 6) aNil)) (dCB fTuple (aCons (dLc (dRange1 (aCons (dVar 4) aNil)) (.nm 13) (dTruth (dCall 3 S__law_holds (aCons (dVar 2) (aCons (dVar 13) (aCons (dVar 6) aNil))))) (dVar 13) [13]) aNil)))) (sRet (dC (.bl false))) sNext))) (sRet (dC (.bl true))))))))))))))
end DL
namespace DL
open PySem PySem.Spec PyProof.Rows L2
def den_Yard_worths (G : Gx) : SD := (sSeq (sSet 1 (dCB fDictP (aCons (dLc (dIt (dCall 1 S_names_of (aCons (dFld (G.C "Yard") "book" (dVar 0)) aNil))) (.nm 4) tTrue (dTup (aCons (dVar 4) (aCons (dC (.int 0)) aNil))) [4]) aNil))) (sSeq (sFor (dIt (dFld (G.C "State") "lying" (dFld (G.C "Yard") "state" (dVar 0)))) (.nm 2) (sSeq (sSet 3 (dMeth (G.C "State") "counted" 3 (S_State_counted G) (dFld (G.C "Yard") "state" (dVar 0)) (aCons (dFld (G.C "Yard") "book" (dVar 0)) (aCons (dVar 2) aNil)))) (sIf (dTest (dBin fNotN (dVar 3) (dC .non))) (sDAugA (dVar 1) (dVar 3) (fI0 fun i j => .int (i + j)) (dMeth (G.C "State") "worth" 2 (S_State_worth G) (dFld (G.C "Yard") "state" (dVar 0)) (aCons (dVar 2) aNil))) sNext))) (sRet (dCB fTuple (aCons (dSortItK (dVar 1)) aNil)))))
end DL
namespace DL
open PySem PySem.Spec PyProof.Rows L2
section
variable {ρ : Sl} {h : Hv} {E : PX}
end
def kvW (b : Book) (f : Str → Int) : List (Key × Val) := b.names.map fun z => (Sum.inr z, .int (f z))
theorem valA_map {zs : List Str} {f : Str → Int} {y : Str} (h : y ∈ zs) : valA (zs.map fun z => ((Sum.inr z : Key), Val.int (f z))) (.inr y) = some (.int (f y)) := by
  induction zs with
  | nil => exact absurd h (by simp)
  | cons x zs ih =>
    unfold valA at ih ⊢
    rw [List.map_cons]
    by_cases c : x = y
    · subst c
      rw [List.find?_cons_of_pos (by simp)]
      rfl
    · rw [List.find?_cons_of_neg (by simpa using c)]
      rcases List.mem_cons.mp h with e | h
      · exact absurd e.symm c
      · exact ih h
theorem putA_map {zs : List Str} {f : Str → Int} {y : Str} {v : Int} (h : y ∈ zs) : putA (zs.map fun z => ((Sum.inr z : Key), Val.int (f z))) (.inr y) (.int v) = zs.map fun z => (Sum.inr z, .int (if z = y then v else f z)) := by
  unfold putA
  rw [if_pos (List.any_eq_true.mpr ⟨(Sum.inr y, .int (f y)), List.mem_map.mpr ⟨y, h, rfl⟩, by simp⟩), List.map_map]
  refine List.map_congr_left fun z hz => ?_
  by_cases c : z = y
  · subst c; simp
  · have : ¬ (Sum.inr z : Key) = Sum.inr y := fun e => c (Sum.inr.inj e)
    simp [this, c]
theorem x_evX {ρ : Sl} {h : Hv} {E : PX} {d : ED} {v : Val} {Q : PV} (a : EvE ρ h E d v) (q : Q v h) : d ρ h Q E := a _ q
theorem nd_names {b : Book} (wf : WFB b) : b.names.Nodup := by
  have up : b.names.Pairwise fun x y => x.cps.toList < y.cps.toList := wf.up
  exact up.imp fun h e => by rw [e] at h; exact List.lt_irrefl _ h
theorem wOf_snoc {b : Book} {s : St} {L : List Int} {n : Int} {z : Str} : wOf b s (L ++ [n]) z = if (treeY s.things n).land b (hpY s.things) = some z then wOf b s L z + (treeY s.things n).whole (hpY s.things) else wOf b s L z := by
  unfold wOf
  rw [List.filter_append, List.map_append, List.sum_append]
  by_cases c : (treeY s.things n).land b (hpY s.things) = some z
  · rw [if_pos c]; simp [c]
  · rw [if_neg c]; simp [c]
theorem bo_Yard_worths (G : Gx) (N : List Str) (hN : N.length = 5) : ∀ as h Q E, as.length = 1 → S_Yard_worths G as h Q E → den_Yard_worths G (startA N as) h (endsR Q) (RX E) := by
  rintro as h0 Q E - ⟨a, b, s, A, ds, us, rfl, y, wf, wy, hd, q⟩
  unfold den_Yard_worths
  simp only [startA, hN]
  have n4 := wf.n4
  have nl : b.names.length ≤ 4 := by unfold Book.names; rw [List.length_map]; exact n4
  have nd := nd_names wf
  refine ss_setX ?_
  refine x_cb1 (x_evX (ev_lc b.names Val.str (fun z => .tup [.str z, .int 0]) (evi_it (v := .lst (b.names.map .str)) (ev_call (eva1 (yi_book y.ins (ev_var (v := .ref a)))) rfl fun Q q => ⟨b, rfl, n4, q⟩) rfl) (fun _ _ => trivial) (by rw [sizeLine_eq]; omega) fun z hz => ⟨_, rfl, fun h' sb => ev_tup (eva2 (ev_var (v := .str z)) ev_c) (by rw [sizeLine_eq]; simp)⟩) ?_)
  refine ⟨_, kvW b fun _ => 0, rfl, by unfold kvW; rw [List.map_map]; rfl, fun p np => ?_⟩
  have em : mergeA [] (kvW b fun _ => 0) = kvW b fun _ => 0 := merge_new _ [] (by
    unfold kvW
    rw [List.nil_append, List.map_map]
    exact List.Pairwise.map _ (fun x y h e => h (Sum.inr.inj e)) nd)
  rw [em]
  have yp : ∀ o, YdAt G (put h0 p o) a b s A ds us := fun o => ⟨by rw [put_ne (fun e => by rw [← e, y.ins] at np; cases np)]; exact y.ins, by unfold StAt; rw [put_ne (fun e => by rw [← e, show h0 A.st = _ from y.st] at np; cases np)]; exact y.st, by rw [put_ne (fun e => by rw [← e, y.dn] at np; cases np)]; exact y.dn, by rw [put_ne (fun e => by rw [← e, y.un] at np; cases np)]; exact y.un, y.ne⟩
  refine ss_for (evi_it (v := .lst (s.lying.map .int)) (y_lying (yp _).st (yi_state (yp _).ins (ev_var (v := .ref a)))) rfl) fun dd hdd => ?_
  refine for_ind (fun vs ρ h => ∃ (done rest : List Int) (x2 x3 x4 : Option Val), s.lying = done ++ rest ∧ vs = rest.map .int ∧ ρ = [some (.ref a), some (.ref p), x2, x3, x4] ∧ h = put h0 p (.dK (kvW b (wOf b s done)))) ?_ ?_ _ _ _ ⟨[], s.lying, none, none, none, rfl, rfl, rfl, by
    congr 2⟩
  · rintro ρ h ⟨done, rest, x2, x3, x4, e1, e2, rfl, rfl⟩
    have : rest = [] := by cases rest with
      | nil => rfl
      | cons _ _ => cases e2
    subst this
    rw [List.append_nil] at e1
    refine ⟨trivial, ?_⟩
    dsimp only
    refine s_ret (v := .tup (worthsY b s)) (ev_tupleL (xs := worthsY b s) fun Q q => ?_) (RT.less (Lss.put np (fun z => nomatch z)) q)
    unfold dSortItK
    refine x_evX (ev_var (v := .ref p)) ?_
    show match (put h0 p (.dK (kvW b (wOf b s done)))) p with | some (.dK kvs) => (∃ zs : List Str, kvs.map (·.1) = zs.map Sum.inr ∧ RiseS zs ∧ zs.length < 64) ∧ Q (.lst (kvs.map pairK)) _ | _ => False
    rw [put_same]
    refine ⟨⟨b.names, by unfold kvW; rw [List.map_map]; rfl, wf.up, by omega⟩, ?_⟩
    have : (kvW b (wOf b s done)).map pairK = worthsY b s := by
      unfold kvW worthsY
      rw [List.map_map, e1]
      rfl
    rw [this]
    exact q
  · rintro v vs ρ h ⟨done, rest, x2, x3, x4, e1, e2, rfl, rfl⟩
    cases rest with
    | nil => cases e2
    | cons n rest =>
      cases e2
      have hn : n ∈ s.lying := by rw [e1]; simp
      obtain ⟨n0, n1⟩ := wy.lr n hn
      refine ⟨trivial, _, rfl, fun N1 hN1 => ?_⟩
      subst hdd
      have yd := yp (.dK (kvW b (wOf b s done)))
      obtain ⟨o, eo⟩ : ∃ o, o = (treeY s.things n).land b (hpY s.things) := ⟨_, rfl⟩
      refine ss_set (v := encO o) (e_methE (yi_state yd.ins (ev_var (v := .ref a))) yd.st rfl (eva2 (yi_book yd.ins (ev_var (v := .ref a))) (ev_var (v := .int n))) rfl fun Q q => ⟨A.st, b, s, n, rfl, yd.st, wf, wy.t, n0, n1, hd n hn, by omega, by rw [← eo]; exact q⟩) ?_
      cases o with
      | none =>
        refine so_no ((evt_test (ev_bin (ev_var (v := encO none)) ev_c f_notN)).cast rfl) (hN1 _ _ ⟨done ++ [n], rest, _, _, _, by rw [e1]; simp, rfl, rfl, ?_⟩)
        congr 2
        unfold kvW
        refine List.map_congr_left fun z _ => ?_
        rw [wOf_snoc, ← eo, if_neg (fun e => nomatch e)]
      | some z =>
        have hz : z ∈ b.names := treeY_land wy.t n0 n1 z eo.symm
        refine so_yes ((evt_test (ev_bin (ev_var (v := encO (some z))) ev_c f_notN)).cast rfl) ?_
        unfold sDAugA
        refine x_evX (ev_var (v := .ref p)) ?_
        refine x_evX (ev_var (v := .str z)) ?_
        have eg : dgetA (.ref p) (.str z) (put h0 p (.dK (kvW b (wOf b s done)))) = some (some (.int (wOf b s done z))) := by
          unfold dgetA
          dsimp only
          rw [put_same]
          show some (valA (kvW b (wOf b s done)) (.inr z)) = _
          unfold kvW
          rw [valA_map hz]
        rw [eg]
        dsimp only
        refine e_methE (yi_state yd.ins (ev_var (v := .ref a))) yd.st rfl (eva1 (ev_var (v := .int n))) rfl (fun Q q => ⟨A.st, b, s, n, rfl, yd.st, wy.t, n0, n1, hd n hn, q⟩) _ ?_
        dsimp only [fI0]
        have ep : dputA (.ref p) (.str z) (.int (wOf b s done z + (treeY s.things n).whole (hpY s.things))) (put h0 p (.dK (kvW b (wOf b s done)))) = some (put h0 p (.dK (kvW b (wOf b s (done ++ [n]))))) := by
          unfold dputA
          dsimp only
          rw [put_same]
          show (if (kvW b (wOf b s done)).length < sizeLine then some _ else none) = _
          rw [if_pos (by unfold kvW; rw [List.length_map, sizeLine_eq]; omega), put_put]
          congr 3
          unfold kvW
          rw [putA_map hz]
          refine List.map_congr_left fun x _ => ?_
          rw [wOf_snoc, ← eo]
          by_cases c : x = z
          · subst c; rw [if_pos rfl, if_pos rfl]
          · rw [if_neg c, if_neg (fun e => c (Option.some.inj e).symm)]
        rw [ep]
        exact hN1 _ _ ⟨done ++ [n], rest, _, _, _, by rw [e1]; simp, rfl, rfl, rfl⟩
end DL
namespace DL
open PySem PySem.Spec PyProof.Rows L2
section
variable {ρ : Sl} {h : Hv} {E : PX} {d d2 : ED} {p : Addr} {s : St} {n : Int}
theorem pl_things (t : PlAt h p s) (hd : EvE ρ h E d (.ref p)) : EvE ρ h E (dDGet d (dC (.str "things"))) (.lst (s.things.map encThP)) := ev_dget hd ev_c (by
  unfold dgetA; dsimp only; rw [show h p = _ from t]; rfl)
theorem pl_here (t : PlAt h p s) (hd : EvE ρ h E d (.ref p)) : EvE ρ h E (dDGet d (dC (.str "here"))) (.lst (s.lying.map .int)) := ev_dget hd ev_c (by
  unfold dgetA; dsimp only; rw [show h p = _ from t]; rfl)
theorem pl_sent (t : PlAt h p s) (hd : EvE ρ h E d (.ref p)) : EvE ρ h E (dDGet d (dC (.str "sent"))) (.lst (s.gone.map encG)) := ev_dget hd ev_c (by
  unfold dgetA; dsimp only; rw [show h p = _ from t]; rfl)
theorem pl_thing (t : PlAt h p s) {th : Th} (hd : EvE ρ h E d (.ref p)) (hn : EvE ρ h E d2 (.int n)) (h0 : 0 ≤ n) (e : s.things[n.toNat]? = some th) : EvE ρ h E (dBin fIx (dDGet d (dC (.str "things"))) d2) (encThP th) :=
  ev_bin (pl_things t hd) hn (f_ixI rfl h0 (by rw [List.getElem?_map, e]; rfl))
theorem f_neLnilP {L : List Int} (hl : L.length ≤ 1000) : EvF h fNe (.lst (L.map .int)) (.lst []) (.bl (!decide (L = []))) := fun Q q => fNe_dat (okN_lints hl 63) (okN_lints (xs := []) (by simp) 63) (by
  have : eqD (.lst (L.map Val.int)) (.lst []) = decide (L = []) := by
    cases L with
    | nil => rfl
    | cons x L =>
      obtain ⟨y, ey, -, -⟩ := dat_of (okN_lints hl 63)
      unfold eqD
      rw [ey]
      rw [dat, List.map_cons, dats] at ey
      obtain ⟨ds, hds, rfl⟩ := Option.map_eq_some_iff.mp ey
      rw [dat] at hds
      cases hq : dats (L.map Val.int) with
      | none => rw [hq] at hds; cases hds
      | some es => rw [hq] at hds; cases hds; rfl
  rw [this]; exact q)
theorem c_isTo {o : Option Str} : EvC h fIsi [encO o, .ty "tuple"] (.bl false) := by
  cases o with
  | none => exact c_isi (t := "NoneType") rfl (by decide)
  | some z => exact c_isi (t := "str") rfl (by decide)
theorem c_isTs {xs : List Int} : EvC h fIsi [.tup (xs.map .int), .ty "tuple"] (.bl true) := c_isi (t := "tuple") rfl (by decide)
theorem inO_none (zs : List Str) : inA .non (zs.map .str) = false := by
  induction zs with
  | nil => rfl
  | cons z zs ih =>
    show (eqA (.str z) .non || inA .non (zs.map .str)) = false
    rw [ih]; rfl
def inOb (o : Option Str) (zs : List Str) : Bool := match o with
  | some l => decide (l ∈ zs)
  | none => false
theorem f_inO {o : Option Str} {zs : List Str} : EvF h fIn (encO o) (.lst (zs.map .str)) (.bl (inOb o zs)) := fun Q q => by
  refine ⟨by cases o <;> rfl, flat_strs zs, ?_⟩
  cases o with
  | none => show Q (.bl (inA .non (zs.map .str))) h; rw [inO_none]; exact q
  | some l => show Q (.bl (inA (.str l) (zs.map .str))) h; rw [inA_str]; exact q
end
theorem bo__law_worth (N : List Str) (hN : N.length = 5) (d : Nat) : ∀ as h Q E, as.length = 2 → SR__law_worth (d + 1) as h Q E → den__law_worth (SR__law_worth d) (startA N as) h (endsR Q) (RX E) := by
  rintro as h Q E - ⟨p, b, s, n, rfl, t, w, h0, h1, hd, q⟩
  unfold den__law_worth
  simp only [startA, hN]
  obtain ⟨th, e⟩ := th_get h0 h1
  refine ss_asg (pl_thing t ev_var ev_var h0 e) (v := encThP th) (ρ' := [some (.ref p), some (.int n), some (match th with | .raw w l => .int w | .made z xs => .str z), some (match th with | .raw w l => encO l | .made z xs => .tup (xs.map .int)), none]) (by cases th <;> rfl) ?_
  cases th with
  | raw v l =>
    rw [treeY_raw e] at q
    refine s_ret (v := .int v) (ev_if (k := true) ((evt_not (evt_truthB (ev_cb (eva2 ev_var ev_c) c_isTo))).cast rfl) (fun _ => ev_var) fun z => nomatch z) (RT.same ?_)
    have := (hpY_raw e).1
    rw [Tree.whole, this] at q
    exact q
  | made z xs =>
    rw [treeY_made w e] at q hd
    obtain ⟨-, -, xl, hx⟩ := w.made _ z xs e
    have hts := ht_part hd
    refine s_ret (v := .int ((xs.map fun x => (treeY s.things x).whole (hpY s.things)).sum)) (ev_if (k := false) ((evt_not (evt_truthB (ev_cb (eva2 ev_var ev_c) c_isTs))).cast rfl) (fun z => nomatch z) fun _ => ?_) (RT.same ?_)
    · refine ev_sum xs .int (fun x => (treeY s.things x).whole (hpY s.things)) (evi_it (v := .tup (xs.map .int)) ev_var rfl) (fun _ _ => trivial) (by rw [sizeLine_eq]; omega) fun x hxm => ⟨_, rfl, fun h' sb => ?_⟩
      have t' : PlAt h' p s := sb p _ t
      obtain ⟨x0, x1⟩ := hx x hxm
      exact ev_call (eva2 (ev_var (v := .ref p)) (ev_var (v := .int x))) rfl fun Q q => ⟨p, b, s, x, rfl, t', w, x0, by omega, hts x hxm, q⟩
    · rw [whole_node, List.map_map] at q
      exact q
theorem bo__law_holds (N : List Str) (hN : N.length = 5) (d : Nat) : ∀ as h Q E, as.length = 3 → SR__law_holds (d + 1) as h Q E → den__law_holds (SR__law_holds d) (startA N as) h (endsR Q) (RX E) := by
  rintro as h Q E - ⟨p, b, s, n, u, rfl, t, w, h0, h1, hd, q⟩
  unfold den__law_holds
  simp only [startA, hN]
  obtain ⟨th, e⟩ := th_get h0 h1
  cases th with
  | raw v l =>
    rw [holdY_raw e] at q
    refine ss_set (v := encO l) (ev_bin (pl_thing t (ev_var (v := .ref p)) (ev_var (v := .int n)) h0 e) ev_c (f_ixI (i := 1) rfl (by decide) rfl)) ?_
    exact ss_yes ((evt_not (evt_truthB (ev_cb (eva2 ev_var ev_c) c_isTo))).cast rfl) (s_ret ev_c (RT.same q))
  | made z xs =>
    rw [holdY_made w e] at q
    rw [treeY_made w e] at hd
    obtain ⟨-, -, xl, hx⟩ := w.made _ z xs e
    have hts := ht_part hd
    refine ss_set (v := .tup (xs.map .int)) (ev_bin (pl_thing t (ev_var (v := .ref p)) (ev_var (v := .int n)) h0 e) ev_c (f_ixI (i := 1) rfl (by decide) rfl)) ?_
    refine ss_no ((evt_not (evt_truthB (ev_cb (eva2 ev_var ev_c) c_isTs))).cast rfl) ?_
    have fl := List.length_filter_le (fun x => decide (x = u) || holdY s.things u x) xs
    refine s_ret (v := .bl (xs.any fun x => decide (x = u) || holdY s.things u x)) (EvE.cast (ev_bin (v := .lst ((xs.filter fun x => decide (x = u) || holdY s.things u x).map .int)) (ev_lcF xs .int (fun x => decide (x = u) || holdY s.things u x) .int (evi_it (v := .tup (xs.map .int)) ev_var rfl) (fun _ _ => trivial) (by rw [sizeLine_eq]; omega) fun x hxm => ⟨_, rfl, fun h' sb => ?_, fun _ h' sb => ev_var⟩) (ev_lst (vs := []) eva_nil (by simp)) (f_neLnilP (by omega))) ?_) (RT.same q)
    · have t' : PlAt h' p s := sb p _ t
      obtain ⟨x0, x1⟩ := hx x hxm
      exact evt_or (evt_test (ev_bin (ev_var (v := .int x)) (ev_var (v := .int u)) f_eqIY)) fun _ => evt_truthB (ev_call (eva_cons (ev_var (v := .ref p)) (eva2 (ev_var (v := .int x)) (ev_var (v := .int u)))) rfl fun Q q => ⟨p, b, s, x, u, rfl, t', w, x0, by omega, hts x hxm, q⟩)
    · congr 1
      rw [Bool.eq_iff_iff, Bool.not_eq_true', decide_eq_false_iff_not, List.any_eq_true]
      constructor
      · intro h
        obtain ⟨x, hx⟩ := List.exists_mem_of_ne_nil _ h
        exact ⟨x, (List.mem_filter.mp hx).1, (List.mem_filter.mp hx).2⟩
      · rintro ⟨x, h1, h2⟩ h0
        have : x ∈ xs.filter fun x => decide (x = u) || holdY s.things u x := List.mem_filter.mpr ⟨h1, h2⟩
        rw [h0] at this
        cases this
theorem bo__law_land (N : List Str) (hN : N.length = 7) (d : Nat) : ∀ as h Q E, as.length = 3 → SR__law_land (d + 1) as h Q E → den__law_land (SR__law_land d) (startA N as) h (endsR Q) (RX E) := by
  rintro as h Q E - ⟨p, b, s, n, rfl, t, wf, w, h0, h1, hd, d40, q⟩
  unfold den__law_land
  simp only [startA, hN]
  obtain ⟨th, e⟩ := th_get h0 h1
  refine ss_asg (pl_thing t (ev_var (v := .ref p)) (ev_var (v := .int n)) h0 e) (v := encThP th) (ρ' := [some (encB b), some (.ref p), some (.int n), some (match th with | .raw w l => .int w | .made z xs => .str z), some (match th with | .raw w l => encO l | .made z xs => .tup (xs.map .int)), none, none]) (by cases th <;> rfl) ?_
  cases th with
  | raw v l =>
    rw [treeY_raw e] at q
    refine ss_yes ((evt_not (evt_truthB (ev_cb (eva2 ev_var ev_c) c_isTo))).cast rfl) (s_ret ev_var (RT.same ?_))
    have := (hpY_raw e).2
    rw [Tree.land, this] at q
    exact q
  | made z xs =>
    refine ss_no ((evt_not (evt_truthB (ev_cb (eva2 ev_var ev_c) c_isTs))).cast rfl) ?_
    have hd0 := hd
    have et := treeY_made w e
    rw [et] at hd
    obtain ⟨zn, -, xl, hx⟩ := w.made _ z xs e
    have hts := ht_part hd
    refine ss_set (ev_c (v := .int 0)) ?_
    refine ss_for (evi_it (v := .tup (xs.map .int)) ev_var rfl) fun dd hdd => ?_
    refine for_ind (fun vs ρ h' => ∃ (done L : List Int) (x6 : Option Val), xs = done ++ L ∧ vs = L.map .int ∧ ρ = [some (encB b), some (.ref p), some (.int n), some (.str z), some (.tup (xs.map .int)), some (.int ((done.map fun x => cntP b (hpY s.things) z (treeY s.things x)).sum)), x6] ∧ h' = h) ?_ ?_ _ _ _ ⟨[], xs, none, rfl, rfl, rfl, rfl⟩
    · rintro ρ h' ⟨done, L, x6, e2, el, rfl, rfl⟩
      have : L = [] := by cases L with
        | nil => rfl
        | cons _ _ => cases el
      subst this
      rw [List.append_nil] at e2
      subst e2
      refine ⟨trivial, ?_⟩
      dsimp only
      refine s_ret (v := encO ((treeY s.things n).land b (hpY s.things))) ?_ (RT.same q)
      have en : EvE [some (encB b), some (.ref p), some (.int n), some (.str z), some (.tup (xs.map .int)), some (.int ((xs.map fun x => cntP b (hpY s.things) z (treeY s.things x)).sum)), x6] h' (RX E) (dCall 4 S__law_has_share (aCons (dVar 0) (aCons (dVar 3) (aCons (dVar 5) (aCons (dCall 2 S__law_worth (aCons (dVar 1) (aCons (dVar 2) aNil))) aNil))))) (.bl (enough b z (xs.map fun x => cntP b (hpY s.things) z (treeY s.things x)).sum ((treeY s.things n).whole (hpY s.things)))) :=
        ev_call (eva_cons (ev_var (v := encB b)) (eva_cons (ev_var (v := .str z)) (eva2 ev_var (ev_call (eva2 (ev_var (v := .ref p)) (ev_var (v := .int n))) rfl fun Q q => ⟨p, b, s, n, rfl, t, w, h0, h1, by omega, q⟩)))) rfl fun Q q => ⟨b, z, _, _, rfl, wf, zn, q⟩
      have el : encO ((treeY s.things n).land b (hpY s.things)) = if enough b z (xs.map fun x => cntP b (hpY s.things) z (treeY s.things x)).sum ((treeY s.things n).whole (hpY s.things)) = true then .str z else .non := by
        rw [et, land_node, List.map_map]
        show encO (if enough b z ((xs.map (fun x => cntP b (hpY s.things) z (treeY s.things x))).sum) _ = true then some z else none) = _
        split <;> rfl
      rw [el]
      cases hk : enough b z (xs.map fun x => cntP b (hpY s.things) z (treeY s.things x)).sum ((treeY s.things n).whole (hpY s.things)) with
      | true => exact ev_if (k := true) (evt_truthB (hk ▸ en)) (fun _ => ev_var) fun z => nomatch z
      | false => exact ev_if (k := false) (evt_truthB (hk ▸ en)) (fun z => nomatch z) fun _ => ev_c
    · rintro v vs ρ h' ⟨done, L, x6, e2, el, rfl, rfl⟩
      cases L with
      | nil => cases el
      | cons x L =>
        cases el
        have hxm : x ∈ xs := by rw [e2]; simp
        obtain ⟨x0, x1⟩ := hx x hxm
        refine ⟨trivial, _, rfl, fun N1 hN1 => ?_⟩
        subst hdd
        have ec : ((done ++ [x]).map fun x => cntP b (hpY s.things) z (treeY s.things x)).sum = (done.map fun x => cntP b (hpY s.things) z (treeY s.things x)).sum + cntP b (hpY s.things) z (treeY s.things x) := by
          rw [List.map_append, List.sum_append]; simp
        refine s_if (evt_test (ev_bin (ev_call (u := encO ((treeY s.things x).land b (hpY s.things))) (eva_cons (ev_var (v := encB b)) (eva2 (ev_var (v := .ref p)) (ev_var (v := .int x)))) rfl fun Q q => ⟨p, b, s, x, rfl, t, wf, w, x0, by omega, hts x hxm, by omega, q⟩) (ev_call (u := .lst ((takesL b z).map .str)) (eva2 (ev_var (v := encB b)) (ev_var (v := .str z))) rfl fun Q q => ⟨b, z, rfl, wf.pl, q⟩) f_inO)) (fun hk => ?_) fun hk => ?_
        · refine s_set (ev_bin ev_var (ev_call (u := .int ((treeY s.things x).whole (hpY s.things))) (eva2 (ev_var (v := .ref p)) (ev_var (v := .int x))) rfl fun Q q => ⟨p, b, s, x, rfl, t, w, x0, by omega, by have := hts x hxm; omega, q⟩) (f_add _ _)) (hN1 _ _ ⟨done ++ [x], L, some (.int x), by rw [e2]; simp, rfl, ?_, rfl⟩)
          rw [ec]
          have : cntP b (hpY s.things) z (treeY s.things x) = (treeY s.things x).whole (hpY s.things) := by
            unfold cntP
            cases ho : (treeY s.things x).land b (hpY s.things) with
            | none => rw [ho] at hk; cases hk
            | some l =>
              rw [ho] at hk
              exact if_pos (of_decide_eq_true hk)
          rw [this]
          rfl
        · refine s_next (hN1 _ _ ⟨done ++ [x], L, some (.int x), by rw [e2]; simp, rfl, ?_, rfl⟩)
          rw [ec]
          have : cntP b (hpY s.things) z (treeY s.things x) = 0 := by
            unfold cntP
            cases ho : (treeY s.things x).land b (hpY s.things) with
            | none => rfl
            | some l =>
              rw [ho] at hk
              exact if_neg (of_decide_eq_false hk)
          rw [this, Int.add_zero]
          rfl
end DL
namespace DL
open PySem PySem.Spec PyProof.Rows L2
section
variable {ρ : Sl} {h : Hv} {E : PX} {d d1 d2 d3 : ED} {p : Addr} {s : St} {n : Int} {b : Book}
theorem f_inTS {z : Str} {zs : List Str} {k : Bool} (e : decide (z ∈ zs) = k) : EvF h fIn (.str z) (.tup (zs.map .str)) (.bl k) := fun Q q => by
  refine ⟨rfl, flat_strs zs, ?_⟩
  show Q (.bl (inA (.str z) (zs.map .str))) h
  rw [inA_str, e]; exact q
theorem f_notinLS {z : Str} {zs : List Str} : EvF h fNotIn (.str z) (.lst (zs.map .str)) (.bl (!decide (z ∈ zs))) := fun Q q => by
  refine ⟨rfl, flat_strs zs, ?_⟩
  show Q (.bl (!inA (.str z) (zs.map .str))) h
  rw [inA_str]; exact q
theorem f_eqSS {x y : Str} {k : Bool} (e : decide (x = y) = k) : EvF h fEq (.str x) (.str y) (.bl k) := fun Q q => by
  show Q (.bl (decide (x = y))) h
  rw [e]; exact q
theorem f_geIP {i j : Int} : EvF h fGe (.int i) (.int j) (.bl (decide (j ≤ i))) := fun Q q => q
theorem inO_app {o : Option Str} {zs : List Str} : inA (encO o) (zs.map .str ++ [.non]) = (match o with | none => true | some z => decide (z ∈ zs)) := by
  induction zs with
  | nil => cases o <;> rfl
  | cons x zs ih =>
    show (eqA (.str x) (encO o) || inA (encO o) (zs.map .str ++ [.non])) = _
    rw [ih]
    cases o with
    | none => show (false || true) = true; rfl
    | some z =>
      show ((x == z) || decide (z ∈ zs)) = decide (z ∈ x :: zs)
      rw [Bool.eq_iff_iff, Bool.or_eq_true, beq_iff_eq, decide_eq_true_eq, decide_eq_true_eq, List.mem_cons]
      exact ⟨fun h => h.imp (fun e => e.symm) id, fun h => h.imp (fun e => e.symm) id⟩
theorem f_inNames {o : Option Str} : EvF h fIn (encO o) (.lst (b.names.map .str ++ [.non])) (.bl (inNm b o)) := fun Q q => by
  refine ⟨by cases o <;> rfl, ?_, ?_⟩
  · rw [List.all_append, flat_strs]; rfl
  · show Q (.bl (inA (encO o) (b.names.map .str ++ [.non]))) h
    rw [inO_app]
    cases o <;> exact q
theorem ev_rng3 {i j k : Int} (h1 : EvE ρ h E d1 (.int i)) (h2 : EvE ρ h E d2 (.int j)) (h3 : EvE ρ h E d3 (.int k)) : EvE ρ h E (dChain fLe fLe d1 d2 d3) (.bl (decide (i ≤ j) && decide (j ≤ k))) := fun Q q => h1 _ (h2 _ (by
  show if decide (i ≤ j) = true then d3 ρ h (fun u h4 => fLe (.int j) u h4 Q) E else Q (.bl false) h
  by_cases c : i ≤ j
  · rw [decide_eq_true c, if_pos rfl]
    rw [decide_eq_true c, Bool.true_and] at q
    exact h3 _ q
  · rw [decide_eq_false c, if_neg Bool.false_ne_true]
    rw [decide_eq_false c, Bool.false_and] at q
    exact q))
theorem ev_slTP {vs : List Val} {lo hi : OD} {l r : Option Int} (hd : EvE ρ h E d (.tup vs)) (hl : EvO ρ h E lo l) (hr : EvO ρ h E hi r) : EvE ρ h E (dSl fSl d lo hi) (.tup (cutA vs l r)) := ev_sl hd hl hr fun Q q => q
theorem ev_slL {vs : List Val} {lo hi : OD} {l r : Option Int} (hd : EvE ρ h E d (.lst vs)) (hl : EvO ρ h E lo l) (hr : EvO ρ h E hi r) : EvE ρ h E (dSl fSl d lo hi) (.lst (cutA vs l r)) := ev_sl hd hl hr fun Q q => q
theorem cut_toP {xs : List Val} {j : Nat} (h : j ≤ xs.length) : cutA xs none (some (j : Int)) = xs.take j := by
  unfold cutA
  rw [HT.sIx_none, HT.sIx_nat, Nat.min_eq_left h, List.drop_zero]
  rfl
theorem cut_fromP {xs : List Val} {j : Nat} (h : j ≤ xs.length) : cutA xs (some (j : Int)) none = xs.drop j := by
  unfold cutA
  rw [HT.sIx_none, HT.sIx_nat, Nat.min_eq_left h]
  exact List.take_of_length_le (by rw [List.length_drop]; exact Nat.le_refl _)
theorem ev_namesP {db : ED} {i : Nat} (hb : EvE ρ h E db (encB b)) (n4 : b.lands.length ≤ 4) (hv : ∀ v, ∃ ρ', bT (.nm i) v (wipeA ρ [i]) = some ρ' ∧ ρ'[i]? = some (some v)) : EvE ρ h E (dLc (dIt (dBin fIx db (dC (.int 0)))) (.nm i) tTrue (dBin fIx (dVar i) (dC (.int 0))) [i]) (.lst (b.names.map .str)) :=
  EvE.cast (ev_lc b.lands encL (fun l => .str l.nm) (evi_it (ev_bin hb ev_c (f_ixI (i := 0) (u := .tup (b.lands.map encL)) rfl (by decide) rfl)) rfl) (fun _ _ => trivial) (by rw [sizeLine_eq]; omega) fun l hl => by
    obtain ⟨ρ', e1, e2⟩ := hv (encL l)
    exact ⟨ρ', e1, fun h' sb => ev_bin (ev_var e2) ev_c (f_ixI (i := 0) rfl (by decide) rfl)⟩) (by unfold Book.names; rw [List.map_map]; rfl)
theorem ev_ifS {ta : TD} {da db : ED} {k : Bool} {v w : Val} (ht : EvT ρ h E ta k) (ha : EvE ρ h E da v) (hb : EvE ρ h E db w) : EvE ρ h E (dIfE ta da db) (if k = true then v else w) := by
  cases k with
  | true => exact ev_if ht (fun _ => ha) fun z => nomatch z
  | false => exact ev_if ht (fun z => nomatch z) fun _ => hb
end
theorem hdW : heardW "NoThing" = "no thing" ∧ heardW "NoWorth" = "no worth" ∧ heardW "NoLand" = "no land" := by decide +kernel
def thMd : Th → Bool
  | .raw _ _ => false
  | .made _ _ => true
theorem isMade_get {ts : List Th} {n : Int} {th : Th} (e : ts[n.toNat]? = some th) : isMade ts n = thMd th := by
  cases th <;> (unfold isMade; rw [e]; rfl)
theorem wRefV {b : Book} {w : Int} {l : Option Str} : refV ((wRef b w l).map fun e => (e, none)) = if (decide (1 ≤ w) && decide (w ≤ 9999)) = true then (if inNm b l = true then .non else .tup [.str "no land"]) else .tup [.str "no worth"] := by
  unfold wRef
  by_cases c : 1 ≤ w ∧ w ≤ 9999
  · have hc : (decide (1 ≤ w) && decide (w ≤ 9999)) = true := by rw [decide_eq_true c.1, decide_eq_true c.2]; rfl
    rw [hc, if_neg (fun h => h c)]
    cases hi : inNm b l with
    | true => rfl
    | false =>
      show Val.tup [.str (heardW "NoLand")] = .tup [.str "no land"]
      rw [hdW.2.2]
  · have hc : (decide (1 ≤ w) && decide (w ≤ 9999)) = false := by
      rw [Bool.eq_false_iff]
      intro h
      rw [Bool.and_eq_true, decide_eq_true_eq, decide_eq_true_eq] at h
      exact c h
    rw [hc, if_pos c]
    show Val.tup [.str (heardW "NoWorth")] = .tup [.str "no worth"]
    rw [hdW.2.1]
def tkfd : List Str := ["take_in", "find"]
theorem evt_tkfd {ρ : Sl} {h : Hv} {E : PX} {d : ED} {w : Str} {k : Bool} (hd : EvE ρ h E d (.str w)) (e : decide (w ∈ tkfd) = k) : EvT ρ h E (dTest (dBin fIn d (dTup (aCons (dC (.str "take_in")) (aCons (dC (.str "find")) aNil))))) k :=
  evt_test (ev_bin hd (ev_tup (vs := tkfd.map .str) (eva2 ev_c ev_c) (by rw [sizeLine_eq]; decide)) (f_inTS e))
set_option maxHeartbeats 2000000 in
theorem bo__law_refusal (N : List Str) (hN : N.length = 11) : ∀ as h Q E, as.length = 4 → S__law_refusal as h Q E → den__law_refusal (startA N as) h (endsR Q) (RX E) := by
  rintro as h Q E - ⟨p, b, s, d, rfl, t, wf, wy, dok, hht, q⟩
  unfold den__law_refusal
  simp only [startA, hN]
  have n4 := wf.n4
  have ll := wy.ll
  refine ss_par2 (v := .lst (b.names.map .str)) (w := .int (s.things.length : Int)) (eva2 (ev_namesP (ev_var (v := encB b)) n4 fun v => ⟨_, rfl, rfl⟩) ((ev_cb (eva1 (pl_things t (ev_var (v := .ref p)))) c_lenL).cast (by rw [List.length_map]))) ?_
  have nl4 : b.names.length ≤ 4 := by unfold Book.names; rw [List.length_map]; exact n4
  have eAdd : ∀ {ρ : Sl} {d : ED}, EvE ρ h (RX E) d (.lst (b.names.map .str)) → EvE ρ h (RX E) (dBin fAdd d (dLst (aCons (dC .non) aNil))) (.lst (b.names.map .str ++ [.non])) := fun hd => ev_bin hd (ev_lst (vs := [.non]) (eva1 ev_c) (by rw [sizeLine_eq]; simp)) (f_addL rfl rfl (by rw [sizeLine_eq, List.length_map]; simp; omega))
  have one : ∀ {ρ : Sl} {z : Str}, EvE ρ h (RX E) (dTup (aCons (dC (.str z)) aNil)) (.tup [.str z]) := ev_tup (eva1 ev_c) (by rw [sizeLine_eq]; simp)
  cases d with
  | take w l =>
    refine ss_yes (evt_tkfd (ev_var (v := .str "take_in")) (by decide +kernel)) ?_
    refine ss_asg (v := .tup [.int w, encO l]) (ρ' := [some (encB b), some (.ref p), some (.str "take_in"), some (.tup [.int w, encO l]), some (encO l), some (.lst (b.names.map .str)), some (.int (s.things.length : Int)), some (.int w), none, none, none]) (EvE.cast (ev_slTP (vs := [.int w, encO l]) ev_var (evo_some (ev_neg ev_c)) evo_none) (by rfl)) (by rfl) ?_
    refine ss_no ((evt_and (k := false) (l := false) (evt_test (ev_bin (ev_var (v := .str "take_in")) ev_c (f_eqSS (by decide +kernel)))) fun z => nomatch z).cast rfl) ?_
    refine s_ret (v := refV (Deed.ref b s (.take w l))) (EvE.cast (ev_ifS (k := !(decide (1 ≤ w) && decide (w ≤ 9999))) (evt_not (evt_test (ev_rng3 ev_c (ev_var (v := .int w)) ev_c))) one (ev_ifS (k := inNm b l) (evt_test (ev_bin (ev_var (v := encO l)) (eAdd (ev_var (v := .lst (b.names.map .str)))) f_inNames)) ev_c one)) ?_) (RT.same q)
    show _ = refV ((wRef b w l).map fun e => (e, none))
    rw [wRefV]
    cases (decide (1 ≤ w) && decide (w ≤ 9999)) <;> rfl
  | find n w l =>
    obtain ⟨n0, -, -⟩ := dok
    have e3 : [some (encB b), some (.ref p), some (.str "find"), some (.tup [.int n, .int w, encO l]), none, some (.lst (b.names.map .str)), some (.int (s.things.length : Int)), none, none, none, none][3]? = some (some (Val.tup [.int n, .int w, encO l])) := rfl
    refine ss_yes (evt_tkfd (ev_var (v := .str "find")) (by decide +kernel)) ?_
    refine ss_asg (v := .tup [.int w, encO l]) (ρ' := [some (encB b), some (.ref p), some (.str "find"), some (.tup [.int n, .int w, encO l]), some (encO l), some (.lst (b.names.map .str)), some (.int (s.things.length : Int)), some (.int w), none, none, none]) (EvE.cast (ev_slTP (vs := [.int n, .int w, encO l]) ev_var (evo_some (ev_neg ev_c)) evo_none) (by rfl)) (by rfl) ?_
    have en : ∀ {ρ : Sl}, ρ[3]? = some (some (Val.tup [.int n, .int w, encO l])) → EvE ρ h (RX E) (dBin fIx (dVar 3) (dC (.int 0))) (.int n) := fun e => ev_bin (ev_var e) ev_c (f_ixI (i := 0) rfl (by decide) rfl)
    by_cases c : ¬(0 ≤ n ∧ n < (s.things.length : Int)) ∨ isMade s.things n = true
    · have er : refV (Deed.ref b s (.find n w l)) = .tup [.str "no thing"] := by
        show refV ((fRef b s n w l).map fun e => (e, none)) = _
        unfold fRef
        rw [if_pos c]
        show Val.tup [.str (heardW "NoThing")] = _
        rw [hdW.1]
      rw [er] at q
      refine ss_yes ((evt_and (k := true) (l := true) (evt_test (ev_bin (ev_var (v := .str "find")) ev_c (f_eqSS (by decide +kernel)))) fun _ => ?_).cast rfl) (s_ret one (RT.same q))
      by_cases c1 : (s.things.length : Int) ≤ n
      · exact (evt_or (k := true) (l := true) ((evt_test (ev_bin (en rfl) (ev_var (v := .int (s.things.length : Int))) f_geIP)).cast (decide_eq_true c1)) fun z => nomatch z).cast rfl
      · have n1 : n < (s.things.length : Int) := by omega
        have cm : isMade s.things n = true := c.resolve_left fun h => h ⟨n0, n1⟩
        obtain ⟨th, e⟩ := th_get n0 n1
        rw [isMade_get e] at cm
        cases th with
        | raw v o => cases cm
        | made z xs =>
          exact (evt_or (k := false) (l := true) ((evt_test (ev_bin (en rfl) (ev_var (v := .int (s.things.length : Int))) f_geIP)).cast (decide_eq_false c1)) fun _ => evt_truthB (ev_cb (eva2 (ev_bin (v := encThP (.made z xs)) (pl_thing t (ev_var (v := .ref p)) (en rfl) n0 e) ev_c (f_ixI (i := 1) (u := .tup (xs.map .int)) rfl (by decide) rfl)) ev_c) c_isTs)).cast rfl
    · have c1 : 0 ≤ n ∧ n < (s.things.length : Int) := Classical.byContradiction fun x => c (.inl x)
      have cm : isMade s.things n = false := by
        cases hm : isMade s.things n with
        | false => rfl
        | true => exact absurd (.inr hm) c
      obtain ⟨th, e⟩ := th_get c1.1 c1.2
      rw [isMade_get e] at cm
      cases th with
      | made z xs => cases cm
      | raw v o =>
        refine ss_no ((evt_and (k := true) (l := false) (evt_test (ev_bin (ev_var (v := .str "find")) ev_c (f_eqSS (by decide +kernel)))) fun _ => (evt_or (k := false) (l := false) ((evt_test (ev_bin (en rfl) (ev_var (v := .int (s.things.length : Int))) f_geIP)).cast (decide_eq_false (by omega))) fun _ => evt_truthB (ev_cb (eva2 (ev_bin (v := encThP (.raw v o)) (pl_thing t (ev_var (v := .ref p)) (en rfl) n0 e) ev_c (f_ixI (i := 1) (u := encO o) rfl (by decide) rfl)) ev_c) c_isTo)).cast rfl).cast rfl) ?_
        refine s_ret (v := refV (Deed.ref b s (.find n w l))) (EvE.cast (ev_ifS (k := !(decide (1 ≤ w) && decide (w ≤ 9999))) (evt_not (evt_test (ev_rng3 ev_c (ev_var (v := .int w)) ev_c))) one (ev_ifS (k := inNm b l) (evt_test (ev_bin (ev_var (v := encO l)) (eAdd (ev_var (v := .lst (b.names.map .str)))) f_inNames)) ev_c one)) ?_) (RT.same q)
        show _ = refV ((fRef b s n w l).map fun e => (e, none))
        unfold fRef
        rw [if_neg c, wRefV]
        cases (decide (1 ≤ w) && decide (w ≤ 9999)) <;> rfl
  | make z xs =>
    obtain ⟨x8, x0⟩ := dok
    refine ss_no (evt_tkfd (ev_var (v := .str "make")) (by decide +kernel)) ?_
    refine ss_yes (evt_test (ev_bin (ev_var (v := .str "make")) ev_c (f_eqSS (by decide +kernel)))) ?_
    have ez : ∀ {ρ : Sl}, ρ[3]? = some (some (Val.tup [.str z, .tup (xs.map .int)])) → EvE ρ h (RX E) (dBin fIx (dVar 3) (dC (.int 0))) (.str z) := fun e => ev_bin (ev_var e) ev_c (f_ixI (i := 0) rfl (by decide) rfl)
    have ex : ∀ {ρ : Sl}, ρ[3]? = some (some (Val.tup [.str z, .tup (xs.map .int)])) → EvE ρ h (RX E) (dBin fIx (dVar 3) (dC (.int 1))) (.tup (xs.map .int)) := fun e => ev_bin (ev_var e) ev_c (f_ixI (i := 1) rfl (by decide) rfl)
    by_cases c : z ∈ b.names
    · refine ss_no ((evt_test (ev_bin (ez rfl) (ev_var (v := .lst (b.names.map .str))) f_notinLS)).cast (by rw [decide_eq_true c]; rfl)) ?_
      obtain ⟨bad, ebad⟩ : ∃ bad, bad = xs.filter fun x => !decide (x ∈ s.lying) := ⟨_, rfl⟩
      have badl : bad.length ≤ 8 := by rw [ebad]; exact Nat.le_trans (List.length_filter_le _ _) x8
      refine ss_set (v := .lst (bad.map .int)) (EvE.cast (ev_lcF xs .int (fun x => !decide (x ∈ s.lying)) .int (evi_it (ex rfl) rfl) (fun _ _ => trivial) (by rw [sizeLine_eq]; omega) fun x hx => ⟨_, rfl, fun h' sb => evt_test (ev_bin (ev_var (v := .int x)) (pl_here (sb p _ t) (ev_var (v := .ref p))) (f_notInI rfl)), fun _ h' sb => ev_var⟩) (by rw [ebad])) ?_
      refine s_ret (v := refV (Deed.ref b s (.make z xs))) (EvE.cast (ev_ifS (k := !decide (bad = []) || (!decide xs.Nodup || decide (xs = []))) (evt_or (evt_test (ev_bin (ev_var (v := .lst (bad.map .int))) (ev_lst (vs := []) eva_nil (by simp)) (f_neLnilP (by omega)))) fun _ => evt_or (evt_lenSet (ex rfl) (by omega)) fun _ => evt_test (ev_bin (ex rfl) (ev_tup (vs := []) eva_nil (by simp)) (f_eqT0 (by omega)))) one ev_c) ?_) (RT.same q)
      have eb : bad = [] ↔ ¬ ∃ x ∈ xs, x ∉ s.lying := by
        rw [ebad, List.filter_eq_nil_iff]
        constructor
        · rintro h ⟨x, h1, h2⟩
          exact h x h1 (by rw [decide_eq_false h2]; rfl)
        · intro h x h1 h2
          exact h ⟨x, h1, fun h3 => by rw [decide_eq_true h3] at h2; cases h2⟩
      have hc : (!decide (bad = []) || (!decide xs.Nodup || decide (xs = []))) = decide (xs = [] ∨ (∃ x ∈ xs, x ∉ s.lying) ∨ ¬xs.Nodup) := by
        rw [Bool.eq_iff_iff, Bool.or_eq_true, Bool.or_eq_true, Bool.not_eq_true', Bool.not_eq_true', decide_eq_false_iff_not, decide_eq_false_iff_not, decide_eq_true_eq, decide_eq_true_eq, eb]
        constructor
        · rintro (h | h | h)
          · exact .inr (.inl (Classical.not_not.mp h))
          · exact .inr (.inr h)
          · exact .inl h
        · rintro (h | h | h)
          · exact .inr (.inr h)
          · exact .inl (fun z => z h)
          · exact .inr (.inl h)
      have em : mRef b s z xs = if (xs = [] ∨ (∃ x ∈ xs, x ∉ s.lying) ∨ ¬xs.Nodup) then some ("NoThing" : Str) else none := by
        unfold mRef
        rw [if_neg (fun h => h c)]
      show _ = refV ((mRef b s z xs).map fun e => (e, none))
      rw [em, hc]
      by_cases c2 : xs = [] ∨ (∃ x ∈ xs, x ∉ s.lying) ∨ ¬xs.Nodup
      · rw [if_pos c2, decide_eq_true c2, if_pos rfl]
        show _ = Val.tup [.str (heardW "NoThing")]
        rw [hdW.1]
      · rw [if_neg c2, decide_eq_false c2, if_neg Bool.false_ne_true]
        rfl
    · refine ss_yes ((evt_test (ev_bin (ez rfl) (ev_var (v := .lst (b.names.map .str))) f_notinLS)).cast (by rw [decide_eq_false c]; rfl)) (s_ret one (RT.same ?_))
      have er : refV (Deed.ref b s (.make z xs)) = .tup [.str "no land"] := by
        show refV ((mRef b s z xs).map fun e => (e, none)) = _
        unfold mRef
        rw [if_pos c]
        show Val.tup [.str (heardW "NoLand")] = _
        rw [hdW.2.2]
      rw [er] at q
      exact q
  | send n z =>
    refine ss_no (evt_tkfd (ev_var (v := .str "send")) (by decide +kernel)) ?_
    refine ss_no (evt_test (ev_bin (ev_var (v := .str "send")) ev_c (f_eqSS (by decide +kernel)))) ?_
    have en : ∀ {ρ : Sl}, ρ[3]? = some (some (Val.tup [.int n, .str z])) → EvE ρ h (RX E) (dBin fIx (dVar 3) (dC (.int 0))) (.int n) := fun e => ev_bin (ev_var e) ev_c (f_ixI (i := 0) rfl (by decide) rfl)
    have ez : ∀ {ρ : Sl}, ρ[3]? = some (some (Val.tup [.int n, .str z])) → EvE ρ h (RX E) (dBin fIx (dVar 3) (dC (.int 1))) (.str z) := fun e => ev_bin (ev_var e) ev_c (f_ixI (i := 1) rfl (by decide) rfl)
    change Q (refV (sRef b s n z)) h at q
    unfold sRef at q
    by_cases c : n ∈ s.lying
    · rw [if_neg (fun h => h c)] at q
      refine ss_no ((evt_test (ev_bin (en rfl) (pl_here t (ev_var (v := .ref p))) (f_notInI rfl))).cast (by rw [decide_eq_true c]; rfl)) ?_
      by_cases c2 : z ∈ b.names
      · rw [if_neg (fun h => h c2)] at q
        refine ss_no ((evt_test (ev_bin (ez rfl) (ev_var (v := .lst (b.names.map .str))) f_notinLS)).cast (by rw [decide_eq_true c2]; rfl)) ?_
        obtain ⟨n0, n1⟩ := wy.lr n c
        refine ss_set (v := encO ((treeY s.things n).land b (hpY s.things))) (ev_call (eva_cons (ev_var (v := encB b)) (eva2 (ev_var (v := .ref p)) (en rfl))) rfl fun Q q => ⟨p, b, s, n, rfl, t, wf, wy.t, n0, n1, hht n c, by omega, q⟩) ?_
        refine s_ret (v := if decide ((treeY s.things n).land b (hpY s.things) = some z) = true then .non else .tup [.str "not of", encO ((treeY s.things n).land b (hpY s.things))]) (ev_ifS (evt_test (ev_bin (ev_var (v := encO ((treeY s.things n).land b (hpY s.things)))) (ez rfl) (fun Q q => fEq_encO q))) ev_c (ev_tup (eva2 ev_c ev_var) (by rw [sizeLine_eq]; simp))) (RT.same ?_)
        by_cases c3 : (treeY s.things n).land b (hpY s.things) = some z
        · rw [if_pos c3] at q
          rw [decide_eq_true c3, if_pos rfl]; exact q
        · rw [if_neg c3] at q
          rw [decide_eq_false c3, if_neg Bool.false_ne_true]; exact q
      · rw [if_pos c2] at q
        refine ss_yes ((evt_test (ev_bin (ez rfl) (ev_var (v := .lst (b.names.map .str))) f_notinLS)).cast (by rw [decide_eq_false c2]; rfl)) (s_ret one (RT.same ?_))
        have : refV (some ("NoLand", none)) = .tup [.str "no land"] := by show Val.tup [.str (heardW "NoLand")] = _; rw [hdW.2.2]
        rw [this] at q
        exact q
    · rw [if_pos c] at q
      refine ss_yes ((evt_test (ev_bin (en rfl) (pl_here t (ev_var (v := .ref p))) (f_notInI rfl))).cast (by rw [decide_eq_false c]; rfl)) (s_ret one (RT.same ?_))
      have : refV (some ("NoThing", none)) = .tup [.str "no thing"] := by show Val.tup [.str (heardW "NoThing")] = _; rw [hdW.1]
      rw [this] at q
      exact q
end DL
namespace DL
open PySem PySem.Spec PyProof.Rows L2
theorem pl_put (s : St) (vs : List Val) : putA (plV s) (.inr "things") (.lst vs) = [(.inr "things", .lst vs), (.inr "here", .lst (s.lying.map .int)), (.inr "sent", .lst (s.gone.map encG))] ∧ putA (plV s) (.inr "here") (.lst vs) = [(.inr "things", .lst (s.things.map encThP)), (.inr "here", .lst vs), (.inr "sent", .lst (s.gone.map encG))] ∧ putA (plV s) (.inr "sent") (.lst vs) = [(.inr "things", .lst (s.things.map encThP)), (.inr "here", .lst (s.lying.map .int)), (.inr "sent", .lst vs)] := ⟨rfl, rfl, rfl⟩
section
variable {ρ : Sl} {h : Hv} {E : PX} {d dv : ED} {p : Addr} {s : St} {D : AE} {s2 : SD}
theorem pl_dput {k : Str} {vs : List Val} (t : PlAt h p s) : dputA (.ref p) (.str k) (.lst vs) h = some (put h p (.dK (putA (plV s) (.inr k) (.lst vs)))) := by
  unfold dputA
  dsimp only
  rw [show h p = _ from t]
  show (if (plV s).length < sizeLine then some _ else none) = _
  rw [if_pos (by rw [sizeLine_eq]; show 3 < 16777216; decide)]
theorem set_cut {α : Type} : ∀ (l : List α) (i : Nat) (x : α), i < l.length → l.take i ++ [x] ++ l.drop (i + 1) = l.set i x
  | [], i, x, h => absurd h (by simp)
  | y :: l, 0, x, _ => by simp
  | y :: l, i + 1, x, h => by
    rw [List.take_succ_cons, List.drop_succ_cons, List.set_cons_succ, ← set_cut l i x (by simpa using h)]
    rfl
theorem s_plT {s' : St} (t : PlAt h p s) (hd : EvE ρ h E d (.ref p)) (hv : EvE ρ h E dv (.lst (s'.things.map encThP))) (e1 : s'.lying = s.lying) (e2 : s'.gone = s.gone) (q : D.nx ρ (put h p (.dK (plV s')))) : sDPut d (dC (.str "things")) dv ρ h D E :=
  s_dput hv hd ev_c ((pl_dput t).trans (by rw [(pl_put s _).1]; unfold plV; rw [e1, e2])) q
theorem s_plH {s' : St} (t : PlAt h p s) (hd : EvE ρ h E d (.ref p)) (hv : EvE ρ h E dv (.lst (s'.lying.map .int))) (e1 : s'.things = s.things) (e2 : s'.gone = s.gone) (q : D.nx ρ (put h p (.dK (plV s')))) : sDPut d (dC (.str "here")) dv ρ h D E :=
  s_dput hv hd ev_c ((pl_dput t).trans (by rw [(pl_put s _).2.1]; unfold plV; rw [e1, e2])) q
theorem s_plS {s' : St} (t : PlAt h p s) (hd : EvE ρ h E d (.ref p)) (hv : EvE ρ h E dv (.lst (s'.gone.map encG))) (e1 : s'.things = s.things) (e2 : s'.lying = s.lying) (q : D.nx ρ (put h p (.dK (plV s')))) : sDPut d (dC (.str "sent")) dv ρ h D E :=
  s_dput hv hd ev_c ((pl_dput t).trans (by rw [(pl_put s _).2.2]; unfold plV; rw [e1, e2])) q
theorem ss_noE {t : TD} {s1 s2 s3 : SD} (ht : EvT ρ h E t false) (q : s2 ρ h { D with nx := fun ρ h => s3 ρ h D E } E) : sSeq (sIf t s1 s2) s3 ρ h D E := ss_if ht (fun z => nomatch z) fun _ => q
theorem so_noE {t : TD} {s1 s2 : SD} (ht : EvT ρ h E t false) (q : s2 ρ h D E) : sIf t s1 s2 ρ h D E := s_if ht (fun z => nomatch z) fun _ => q
theorem evt_tkmk {w : Str} {k : Bool} (hd : EvE ρ h E d (.str w)) (e : decide (w ∈ (["take_in", "make"] : List Str)) = k) : EvT ρ h E (dTest (dBin fIn d (dTup (aCons (dC (.str "take_in")) (aCons (dC (.str "make")) aNil))))) k :=
  evt_test (ev_bin hd (ev_tup (vs := (["take_in", "make"] : List Str).map .str) (eva2 ev_c ev_c) (by rw [sizeLine_eq]; decide)) (f_inTS e))
end
theorem mk_lying {s : St} {xs : List Int} : (s.lying.filter fun x => !decide (x ∈ xs)) = s.lying.filter fun x => decide (x ∉ xs) := List.filter_congr fun x _ => by
  by_cases c : x ∈ xs
  · rw [decide_eq_true c, decide_eq_false (fun h => h c)]; rfl
  · rw [decide_eq_false c, decide_eq_true c]; rfl
set_option maxHeartbeats 2000000 in
theorem bo__law_done (N : List Str) (hN : N.length = 7) : ∀ as h Q E, as.length = 3 → S__law_done as h Q E → den__law_done (startA N as) h (endsR Q) (RX E) := by
  rintro as h Q E - ⟨p, b, s, d, rfl, t, wy, dok, hr, q⟩
  unfold den__law_done
  simp only [startA, hN]
  have tl := wy.t.n
  have ll := wy.ll
  have gl := wy.gl
  refine ss_set (v := .int (s.things.length : Int)) ((ev_cb (eva1 (pl_things t (ev_var (v := .ref p)))) c_lenL).cast (by rw [List.length_map])) ?_
  have tp : ∀ (s' : St), PlAt (put h p (.dK (plV s'))) p s' := fun s' => put_same
  cases d with
  | take w l =>
    refine ss_noE (evt_test (ev_bin (ev_var (v := .str "take_in")) ev_c (f_eqSS (by decide +kernel)))) ?_
    refine so_noE (evt_test (ev_bin (ev_var (v := .str "take_in")) ev_c (f_eqSS (by decide +kernel)))) ?_
    refine ss_set (v := .tup []) (EvE.cast (ev_ifS (k := false) (evt_test (ev_bin (ev_var (v := .str "take_in")) ev_c (f_eqSS (by decide +kernel)))) (ev_bin (ev_var (v := .tup [.int w, encO l])) ev_c (f_ixI (i := 1) rfl (by decide) rfl)) (ev_tup (vs := []) eva_nil (by simp))) rfl) ?_
    refine s_seq (s_plT (s' := ⟨s.things ++ [.raw w l], s.lying, s.gone⟩) t (ev_var (v := .ref p)) (EvE.cast (ev_bin (v := .lst (s.things.map encThP)) (w := .lst [.tup [.int w, encO l]]) (pl_things t (ev_var (v := .ref p))) (ev_lst (eva1 ev_var) (by rw [sizeLine_eq]; simp)) (f_addL rfl rfl (by rw [sizeLine_eq, List.length_map]; simp; omega))) (by rw [List.map_append]; rfl)) rfl rfl ?_)
    dsimp only
    refine s_plH (s' := s.take w l) (tp _) (ev_var (v := .ref p)) (EvE.cast (ev_bin (v := .lst (s.lying.map .int)) (w := .lst [.int (s.things.length : Int)]) (EvE.cast (ev_lcF s.lying .int (fun x => !decide (x ∈ ([] : List Int))) .int (evi_it (pl_here (tp _) (ev_var (v := .ref p))) rfl) (fun _ _ => trivial) (by rw [sizeLine_eq]; omega) fun x hx => ⟨_, rfl, fun h' sb => evt_test (ev_bin (ev_var (v := .int x)) (ev_var (v := .tup [])) (f_notInI (xs := []) rfl)), fun _ h' sb => ev_var⟩) ?_) (ev_lst (eva1 ev_var) (by rw [sizeLine_eq]; simp)) (f_addL rfl rfl (by rw [sizeLine_eq, List.length_map]; simp; omega))) ?_) rfl rfl ?_
    · rw [List.filter_eq_self.mpr fun x _ => by simp]
    · show Val.lst (s.lying.map .int ++ [.int (s.things.length : Int)]) = .lst ((s.lying ++ [(s.things.length : Int)]).map .int)
      rw [List.map_append]; rfl
    dsimp only
    rw [put_put]
    refine s_ret (v := .int (s.things.length : Int)) (EvE.cast (ev_ifS (k := true) (evt_tkmk (ev_var (v := .str "take_in")) (by decide +kernel)) (ev_var (v := .int (s.things.length : Int))) ev_c) rfl) (RT.same q)
  | make z xs =>
    obtain ⟨x8, x0⟩ := dok
    refine ss_noE (evt_test (ev_bin (ev_var (v := .str "make")) ev_c (f_eqSS (by decide +kernel)))) ?_
    refine so_noE (evt_test (ev_bin (ev_var (v := .str "make")) ev_c (f_eqSS (by decide +kernel)))) ?_
    refine ss_set (v := .tup (xs.map .int)) (EvE.cast (ev_ifS (k := true) (evt_test (ev_bin (ev_var (v := .str "make")) ev_c (f_eqSS (by decide +kernel)))) (ev_bin (ev_var (v := .tup [.str z, .tup (xs.map .int)])) ev_c (f_ixI (i := 1) (u := .tup (xs.map .int)) rfl (by decide) rfl)) (ev_tup (vs := []) eva_nil (by simp))) rfl) ?_
    refine s_seq (s_plT (s' := ⟨s.things ++ [.made z xs], s.lying, s.gone⟩) t (ev_var (v := .ref p)) (EvE.cast (ev_bin (v := .lst (s.things.map encThP)) (w := .lst [.tup [.str z, .tup (xs.map .int)]]) (pl_things t (ev_var (v := .ref p))) (ev_lst (eva1 ev_var) (by rw [sizeLine_eq]; simp)) (f_addL rfl rfl (by rw [sizeLine_eq, List.length_map]; simp; omega))) (by rw [List.map_append]; rfl)) rfl rfl ?_)
    dsimp only
    have fl := List.length_filter_le (fun x => !decide (x ∈ xs)) s.lying
    refine s_plH (s' := s.mk' z xs) (tp _) (ev_var (v := .ref p)) (EvE.cast (ev_bin (v := .lst ((s.lying.filter fun x => !decide (x ∈ xs)).map .int)) (w := .lst [.int (s.things.length : Int)]) (ev_lcF s.lying .int (fun x => !decide (x ∈ xs)) .int (evi_it (pl_here (tp _) (ev_var (v := .ref p))) rfl) (fun _ _ => trivial) (by rw [sizeLine_eq]; omega) fun x hx => ⟨_, rfl, fun h' sb => evt_test (ev_bin (ev_var (v := .int x)) (ev_var (v := .tup (xs.map .int))) (f_notInI rfl)), fun _ h' sb => ev_var⟩) (ev_lst (eva1 ev_var) (by rw [sizeLine_eq]; simp)) (f_addL rfl rfl (by rw [sizeLine_eq, List.length_map]; simp; omega))) ?_) rfl rfl ?_
    · show Val.lst ((s.lying.filter fun x => !decide (x ∈ xs)).map .int ++ [.int (s.things.length : Int)]) = .lst (((s.lying.filter fun x => decide (x ∉ xs)) ++ [(s.things.length : Int)]).map .int)
      rw [List.map_append, mk_lying]; rfl
    dsimp only
    rw [put_put]
    refine s_ret (v := .int (s.things.length : Int)) (EvE.cast (ev_ifS (k := true) (evt_tkmk (ev_var (v := .str "make")) (by decide +kernel)) (ev_var (v := .int (s.things.length : Int))) ev_c) rfl) (RT.same q)
  | send n z =>
    refine ss_noE (evt_test (ev_bin (ev_var (v := .str "send")) ev_c (f_eqSS (by decide +kernel)))) ?_
    refine so_yes (evt_test (ev_bin (ev_var (v := .str "send")) ev_c (f_eqSS (by decide +kernel)))) ?_
    refine s_seq (s_plH (s' := ⟨s.things, s.lying.filter fun x => decide (x ≠ n), s.gone⟩) t (ev_var (v := .ref p)) (EvE.cast (ev_lcF s.lying .int (fun x => !decide (x = n)) .int (evi_it (pl_here t (ev_var (v := .ref p))) rfl) (fun _ _ => trivial) (by rw [sizeLine_eq]; omega) fun x hx => ⟨_, rfl, fun h' sb => evt_test (ev_bin (ev_var (v := .int x)) (ev_bin (ev_var (v := .tup [.int n, .str z])) ev_c (f_ixI (i := 0) (u := .int n) rfl (by decide) rfl)) f_neIY), fun _ h' sb => ev_var⟩) ?_) rfl rfl ?_)
    · congr 2
      refine List.filter_congr fun x _ => ?_
      by_cases c : x = n
      · rw [decide_eq_true c, decide_eq_false (fun h => h c)]; rfl
      · rw [decide_eq_false c, decide_eq_true c]; rfl
    dsimp only
    refine s_plS (s' := s.snd n z) (tp _) (ev_var (v := .ref p)) (EvE.cast (ev_bin (v := .lst (s.gone.map encG)) (w := .lst [.tup [.int n, .str z]]) (pl_sent (s := ⟨s.things, s.lying.filter fun x => decide (x ≠ n), s.gone⟩) (tp _) (ev_var (v := .ref p))) (ev_lst (eva1 ev_var) (by rw [sizeLine_eq]; simp)) (f_addL rfl rfl (by rw [sizeLine_eq, List.length_map]; simp; omega))) ?_) rfl rfl ?_
    · show Val.lst (s.gone.map encG ++ [.tup [.int n, .str z]]) = .lst ((s.gone ++ [(n, z)]).map encG)
      rw [List.map_append]; rfl
    dsimp only
    rw [put_put]
    refine s_ret (v := .non) (EvE.cast (ev_ifS (k := false) (evt_tkmk (ev_var (v := .str "send")) (by decide +kernel)) (ev_var (v := .int (s.things.length : Int))) ev_c) rfl) (RT.same q)
  | find n w l =>
    obtain ⟨⟨n0, n1⟩, v, o, er⟩ := fRef_raw (Option.map_eq_none_iff.mp hr)
    obtain ⟨k, rfl⟩ := Int.eq_ofNat_of_zero_le n0
    have kl : k < s.things.length := by omega
    refine ss_yes (evt_test (ev_bin (ev_var (v := .str "find")) ev_c (f_eqSS (by decide +kernel)))) ?_
    refine ss_set (pl_things t (ev_var (v := .ref p))) ?_
    have en : ∀ {ρ : Sl}, ρ[2]? = some (some (Val.tup [.int (k : Int), .int w, encO l])) → EvE ρ h (RX E) (dBin fIx (dVar 2) (dC (.int 0))) (.int (k : Int)) := fun e => ev_bin (ev_var e) ev_c (f_ixI (i := 0) rfl (by decide) rfl)
    refine s_plT (s' := s.fnd (k : Int) w l) t (ev_var (v := .ref p)) (EvE.cast (ev_bin (v := .lst ((s.things.map encThP).take k ++ [.tup [.int w, encO l]])) (w := .lst ((s.things.map encThP).drop (k + 1))) (ev_bin (v := .lst ((s.things.map encThP).take k)) (w := .lst [.tup [.int w, encO l]]) (EvE.cast (ev_slL (vs := s.things.map encThP) ev_var evo_none (evo_some (en rfl))) (by rw [cut_toP (by rw [List.length_map]; omega)])) (ev_lst (eva1 (EvE.cast (ev_slTP (vs := [.int (k : Int), .int w, encO l]) ev_var (evo_some ev_c) evo_none) (by rfl))) (by rw [sizeLine_eq]; simp)) (f_addL rfl rfl (by rw [sizeLine_eq, List.length_take, List.length_map]; simp; omega))) (EvE.cast (ev_slL (vs := s.things.map encThP) (l := some ((k + 1 : Nat) : Int)) ev_var (evo_some (ev_bin (en rfl) ev_c (f_add _ _))) evo_none) (by rw [cut_fromP (by rw [List.length_map]; omega)])) (f_addL rfl rfl (by rw [sizeLine_eq, List.length_append, List.length_take, List.length_drop, List.length_map]; simp; omega))) ?_) rfl rfl ?_
    · show Val.lst (((s.things.map encThP).take k ++ [encThP (.raw w l)]) ++ (s.things.map encThP).drop (k + 1)) = .lst ((s.things.set ((k : Int)).toNat (.raw w l)).map encThP)
      rw [set_cut _ _ _ (by rw [List.length_map]; exact kl), Int.toNat_natCast, List.map_set]
    dsimp only
    refine s_ret (v := .non) (EvE.cast (ev_ifS (k := false) (evt_tkmk (ev_var (v := .str "find")) (by decide +kernel)) (ev_var (v := .int (s.things.length : Int))) ev_c) rfl) (RT.same q)
theorem txt_len {n : Nat} (h : n ≤ 1000) : (txtI (n : Int)).length ≤ 5 := by
  unfold txtI
  rw [PySem.ofString_length]
  exact int_text_length_le10 (k := 4) (by decide) (by rw [Int.natAbs_natCast]; exact Nat.lt_of_le_of_lt h (by decide))
theorem log_ok {n : Nat} (h : n ≤ 1000) : (n : Int).natAbs.log2 < 1920 := by
  rw [Int.natAbs_natCast]
  exact Nat.lt_of_le_of_lt (Nat.log2_le_self n) (by omega)
section
variable {ρ : Sl} {h : Hv} {E : PX} {d : ED}
theorem ev_fmtN {n : Nat} (hd : EvE ρ h E d (.int (n : Int))) (hn : n ≤ 1000) : EvE ρ h E (dFmt d) (.str (txtI (n : Int))) := fun Q q => hd _ ⟨log_ok hn, q⟩
theorem ev_strN {n : Nat} (hd : EvE ρ h E d (.int (n : Int))) (hn : n ≤ 1000) : EvE ρ h E (dCB fStrI (aCons d aNil)) (.str (txtI (n : Int))) := ev_cb (eva1 hd) fun Q q => ⟨log_ok hn, q⟩
theorem f_addS {x y : Str} (hl : x.length + y.length ≤ sizeLine) : EvF h fAdd (.str x) (.str y) (.str (x ++ y)) := fun Q q => ⟨hl, q⟩
theorem js_step {y : Str} {ds : List ED} {acc : Str} {Q : Str → Hv → Prop} (hd : EvE ρ h E d (.str y)) (hl : (acc ++ y).length ≤ sizeLine) (q : dJsL ds (acc ++ y) ρ h Q E) : dJsL (d :: ds) acc ρ h Q E := hd _ ⟨hl, q⟩
end
theorem emp_app (x : Str) : Str.empty ++ x = x := Str.append_left_empty rfl
def w1 : Str := " here, "
def w2 : Str := " sent, "
def w3 : Str := " false"
theorem w_len : w1.length ≤ 10 ∧ w2.length ≤ 10 ∧ w3.length ≤ 10 := by decide +kernel
theorem sl_app (a b : Str) : (a ++ b).length = a.length + b.length := Str.length_append a b
theorem bo_Yard___str__ (G : Gx) (N : List Str) (hN : N.length = 1) : ∀ as h Q E, as.length = 1 → S_Yard___str__ G as h Q E → den_Yard___str__ G (startA N as) h (endsR Q) (RX E) := by
  rintro as h Q E - ⟨a, b, s, A, ds, us, rfl, y, wf, wy, hd, q⟩
  unfold den_Yard___str__
  simp only [startA, hN]
  have ll := wy.ll
  have gl := wy.gl
  have fl : (falseY b s).length ≤ 200 := by
    unfold falseY
    rw [(sortI_perm _).length_eq, List.length_map]
    have := List.length_filter_le (fun p : Int × Str => decide ((treeY s.things p.1).land b (hpY s.things) ≠ some p.2)) s.gone
    omega
  have t1 := txt_len (n := s.lying.length) (by omega)
  have t2 := txt_len (n := s.gone.length) (by omega)
  have t3 := txt_len (n := (falseY b s).length) (by omega)
  obtain ⟨l1, l2, l3⟩ := w_len
  refine s_ret (v := .str (strY b s)) (fun Q q => ?_) (RT.same q)
  show dJsL _ Str.empty _ _ _ _
  have ya := yi_state (ρ := [some (.ref a)]) (h := h) (E := RX E) y.ins (ev_var (i := 0) (v := .ref a))
  refine js_step (ev_fmtN (n := s.lying.length) ((ev_cb (eva1 (y_lying y.st ya)) c_lenL).cast (by rw [List.length_map])) (by omega)) (by rw [emp_app, sizeLine_eq]; omega) ?_
  rw [emp_app]
  refine js_step (y := w1) ev_c (by rw [sl_app, sizeLine_eq]; omega) ?_
  refine js_step (ev_fmtN (n := s.gone.length) ((ev_cb (eva1 (y_gone y.st ya)) c_lenL).cast (by rw [List.length_map])) (by omega)) (by rw [sl_app, sl_app, sizeLine_eq]; omega) ?_
  refine js_step (y := w2) ev_c (by rw [sl_app, sl_app, sl_app, sizeLine_eq]; omega) ?_
  refine js_step (ev_fmtN (n := (falseY b s).length) ((ev_cb (eva1 (fun Q q => e_meth0 (a := a) (ev_var (v := .ref a)) y.ins rfl ⟨a, b, s, A, ds, us, rfl, y, wf, wy, hd, q⟩)) (c_lenT (xs := (falseY b s).map .int))).cast (by rw [List.length_map])) (by omega)) (by rw [sl_app, sl_app, sl_app, sl_app, sizeLine_eq]; omega) ?_
  refine js_step (y := w3) ev_c (by rw [sl_app, sl_app, sl_app, sl_app, sl_app, sizeLine_eq]; omega) ?_
  exact q
end DL
namespace DL
open PySem PySem.Spec PyProof.Rows L2
section
variable {G : Gx} {ρ : Sl} {h : Hv} {E : PX} {d dl dx : ED} {a : Addr} {b : Book} {s : St} {A : Ay} {ds us : List (Val × Addr)} {D : AE}
theorem c_sumP {xs : List Int} : EvC h fSum [.lst (xs.map .int)] (.int xs.sum) := fun Q q => by
  show fSum [.lst (xs.map .int)] h Q
  simp only [fSum, listOf, Option.bind_some, intsOf_map']
  exact q
theorem c_tupR {p : Addr} {vs : List Val} (e : h p = some (.lst vs)) : EvC h fTuple [.ref p] (.tup vs) := fun Q q => by
  show (match listOf (.ref p) h with | some vs => Q (.tup vs) h | none => _)
  simp only [listOf, e]
  exact q
theorem s_appP {vs : List Val} {w : Val} {r : Addr} (ho : EvE ρ h E dl (.ref r)) (e : h r = some (.lst vs)) (hl : vs.length < sizeLine) (hx : EvE ρ h E dx w) (q : D.nx ρ (put h r (.lst (vs ++ [w])))) : sExpr (dBM "list" fAppend dl (aCons dx aNil)) ρ h D E := s_app ho e hl hx q
theorem x_lstP {i : Nat} {s2 : SD} (q : ∀ r, h r = none → s2 (ρ.set i (some (.ref r))) (put h r (.lst [])) D E) : sSeq (sSet i (dLstH aNil)) s2 ρ h D E := s_seq ⟨by simp, fun r nr => q r nr⟩
theorem e_deedsW {d1 : ED} (y : YdAt G h a b s A ds us) (dl : ds.length ≤ 1000) (h1 : EvE ρ h E d1 (.ref a)) : EvE ρ h E (dMeth0 (G.C "Yard") "deeds" (S_Yard_deeds G) d1) (.tup (ds.map (·.1))) := fun Q q =>
  e_meth0 (a := a) h1 y.ins rfl ⟨a, b, s, A, ds, us, rfl, y, dl, q⟩
theorem e_worthsP (y : YdAt G h a b s A ds us) (wf : WFB b) (wy : WFY b s) (l : s.things.length ≤ 30) (h1 : EvE ρ h E d (.ref a)) : EvE ρ h E (dMeth0 (G.C "Yard") "worths" (S_Yard_worths G) d) (.tup (worthsY b s)) := fun Q q =>
  e_meth0 (a := a) h1 y.ins rfl ⟨a, b, s, A, ds, us, rfl, y, wf, wy, fun n hn => by have := ht_treeY wy.t n; have := wy.lr n hn; omega, q⟩
theorem e_strW {d1 : ED} (y : YdAt G h a b s A ds us) (wf : WFB b) (wy : WFY b s) (l : s.things.length ≤ 30) (h1 : EvE ρ h E d1 (.ref a)) : EvE ρ h E (dCB (fStrO (G.C "Yard") (S_Yard___str__ G)) (aCons d1 aNil)) (.str (strY b s)) := ev_cb (eva1 h1) fun Q q => by
  show match h a with | some (.ins C' fl) => C' = G.C "Yard" ∧ S_Yard___str__ G [.ref a] h (fun v h2 => ∃ i : Str, v = .str i ∧ Q v h2) (fun _ _ _ => False) | _ => False
  rw [y.ins]
  exact ⟨rfl, a, b, s, A, ds, us, rfl, y, wf, wy, fun p hp => by have := ht_treeY wy.t p.1; have := wy.gr p hp; omega, _, rfl, q⟩
theorem f_neStrP {x y : Str} : EvF h fNe (.str x) (.str y) (.bl (!decide (x = y))) := fun Q q => q
theorem okN_sent (nz : ∀ z ∈ b.names, okN 0 (.str z) = true) (wy : WFY b s) (hg : ∀ p ∈ s.gone, p.2 ∈ b.names) : okN 64 (.tup (s.gone.map encG)) = true := by
  have h2 := wy.gl
  rw [okN_tup]
  refine ⟨fun v hv => ?_, by rw [List.length_map]; omega⟩
  obtain ⟨p, hp, rfl⟩ := List.mem_map.mp hv
  unfold encG
  rw [okN_tup]
  refine ⟨fun v hv => ?_, by simp⟩
  rcases List.mem_cons.mp hv with e | hv
  · rw [e]; rfl
  · rw [List.mem_singleton.mp hv]; exact okN_le (nz _ (hg p hp)) (by decide)
theorem okN_worths (nz : ∀ z ∈ b.names, okN 0 (.str z) = true) (l4 : b.names.length ≤ 4) : okN 64 (.tup (worthsY b s)) = true := by
  rw [okN_tup]
  refine ⟨fun v hv => ?_, by unfold worthsY; rw [List.length_map]; omega⟩
  obtain ⟨z, hz, rfl⟩ := List.mem_map.mp hv
  rw [okN_tup]
  refine ⟨fun v hv => ?_, by simp⟩
  rcases List.mem_cons.mp hv with e | hv
  · rw [e]; exact okN_le (nz _ hz) (by decide)
  · rw [List.mem_singleton.mp hv]; rfl
end
theorem falseY_len {b : Book} {s : St} (g : s.gone.length ≤ 200) : (falseY b s).length ≤ 200 := by
  unfold falseY
  rw [(sortI_perm _).length_eq, List.length_map]
  have := List.length_filter_le (fun p : Int × Str => decide ((treeY s.things p.1).land b (hpY s.things) ≠ some p.2)) s.gone
  omega
set_option maxHeartbeats 4000000 in
theorem bo__law_stands (G : Gx) (N : List Str) (hN : N.length = 14) : ∀ as h Q E, as.length = 4 → S__law_stands G as h Q E → den__law_stands G (startA N as) h (endsR Q) (RX E) := by
  rintro as h0 Q E - ⟨a, p, r, b, s, A, ds, us, rfl, y0, t0, e0, wf, wy, tl, dl, nz, hg, okd, q⟩
  unfold den__law_stands
  simp only [startA, hN]
  have n4 := wf.n4
  have l4 := names_len wf
  have ll := wy.ll
  have gl := wy.gl
  have fl := falseY_len (b := b) gl
  have hh : ∀ i : Int, i < (s.things.length : Int) → (treeY s.things i).ht < 40 := fun i hi => by have := ht_treeY wy.t i; omega
  refine ss_par2 (v := .int (s.things.length : Int)) (w := .lst (b.names.map .str)) (eva2 ((ev_cb (eva1 (pl_things t0 (ev_var (v := .ref p)))) c_lenL).cast (by rw [List.length_map])) (ev_namesP (ev_var (v := encB b)) n4 fun v => ⟨_, rfl, rfl⟩)) ?_
  have eL : ∀ {ρ : Sl} {h : Hv} {E : PX} {d1 d2 d3 : ED} {i : Int}, PlAt h p s → 0 ≤ i → i < (s.things.length : Int) → EvE ρ h E d1 (encB b) → EvE ρ h E d2 (.ref p) → EvE ρ h E d3 (.int i) → EvE ρ h E (dCall 3 S__law_land (aCons d1 (aCons d2 (aCons d3 aNil)))) (encO ((treeY s.things i).land b (hpY s.things))) := fun {_ _ _ _ _ _ i} t i0 i1 h1 h2 h3 => ev_call (eva_cons h1 (eva2 h2 h3)) rfl fun Q q => ⟨p, b, s, i, rfl, t, wf, wy.t, i0, i1, hh i i1, by omega, q⟩
  have eW : ∀ {ρ : Sl} {h : Hv} {E : PX} {d2 d3 : ED} {i : Int}, PlAt h p s → 0 ≤ i → i < (s.things.length : Int) → EvE ρ h E d2 (.ref p) → EvE ρ h E d3 (.int i) → EvE ρ h E (dCall 2 S__law_worth (aCons d2 (aCons d3 aNil))) (.int ((treeY s.things i).whole (hpY s.things))) := fun {_ _ _ _ _ i} t i0 i1 h2 h3 => ev_call (eva2 h2 h3) rfl fun Q q => ⟨p, b, s, i, rfl, t, wy.t, i0, i1, hh i i1, q⟩
  obtain ⟨Ls, eLs⟩ : ∃ Ls : Val, Ls = .lst ((rngI s.things.length).map fun i => encO ((treeY s.things i).land b (hpY s.things))) := ⟨_, rfl⟩
  refine ss_set (v := Ls) (EvE.cast (ev_lc (rngI s.things.length) Val.int (fun i => encO ((treeY s.things i).land b (hpY s.things))) (evi_rngW (n := s.things.length) ev_var (by omega)) (fun _ _ => trivial) (by rw [len_rngW, sizeLine_eq]; omega) fun i hi => ⟨_, rfl, fun h' sb => eL (sb p _ t0) (mem_rngW.mp hi).1 (mem_rngW.mp hi).2 (ev_var (v := encB b)) (ev_var (v := .ref p)) (ev_var (v := .int i))⟩) eLs.symm) ?_
  have eLi : ∀ {ρ : Sl} {h : Hv} {E : PX} {d1 d2 : ED} {i : Int}, 0 ≤ i → i < (s.things.length : Int) → EvE ρ h E d1 Ls → EvE ρ h E d2 (.int i) → EvE ρ h E (dBin fIx d1 d2) (encO ((treeY s.things i).land b (hpY s.things))) := fun {_ _ _ _ _ i} i0 i1 h1 h2 => ev_bin h1 h2 (f_ixI (by rw [eLs]; rfl) i0 (get_rngW i0 i1 fun i => encO ((treeY s.things i).land b (hpY s.things))))
  refine ss_set (v := .tup ((falseY b s).map .int)) (ev_tupleL (ev_cb (eva1 (EvE.cast (ev_lcF s.gone encG (fun p => decide ((treeY s.things p.1).land b (hpY s.things) ≠ some p.2)) (fun p => .int p.1) (evi_it (pl_sent t0 (ev_var (v := .ref p))) rfl) (fun _ _ => trivial) (by rw [sizeLine_eq]; omega) fun g hg => ⟨_, rfl, fun h' sb => ?_, fun _ h' sb => ev_var⟩) ?_)) (c_sortY (xs := (s.gone.filter fun p => decide ((treeY s.things p.1).land b (hpY s.things) ≠ some p.2)).map (·.1))))) ?_
  · obtain ⟨g0, g1⟩ := wy.gr g hg
    refine (evt_test (ev_bin (eLi g0 g1 ev_var (ev_var (v := .int g.1))) (ev_var (v := .str g.2)) f_neOZ)).cast ?_
    by_cases c : (treeY s.things g.1).land b (hpY s.things) = some g.2 <;> simp [c]
  · rw [List.map_map]; rfl
  have okH : okN 64 (.tup (s.lying.map .int)) = true := okN_ints (by omega) 63
  have okF : okN 64 (.tup ((falseY b s).map .int)) = true := okN_ints (by omega) 63
  refine ss_no ((evt_or (k := false) (l := false) (evt_test (ev_bin (e_hereW y0 wy (ev_var (v := .ref a))) (ev_tupleL (pl_here t0 (ev_var (v := .ref p)))) (f_neS okH rfl))) fun _ => (evt_or (k := false) (l := false) (evt_test (ev_bin (e_sentW y0 (ev_var (v := .ref a))) (ev_tupleL (pl_sent t0 (ev_var (v := .ref p)))) (f_neS (okN_sent nz wy hg) rfl))) fun _ => evt_test (ev_bin (e_falseW y0 wf wy tl (ev_var (v := .ref a))) (ev_var (v := .tup ((falseY b s).map .int))) (f_neS okF rfl))).cast rfl).cast rfl) ?_
  have t1 := txt_len (n := s.lying.length) (by omega)
  have t2 := txt_len (n := s.gone.length) (by omega)
  have t3 := txt_len (n := (falseY b s).length) (by omega)
  obtain ⟨l1, l2, l3⟩ := w_len
  refine ss_set (v := .str (txtI (s.lying.length : Int) ++ w1 ++ txtI (s.gone.length : Int) ++ w2)) (ev_bin (ev_bin (ev_bin (ev_strN (n := s.lying.length) ((ev_cb (eva1 (pl_here t0 (ev_var (v := .ref p)))) c_lenL).cast (by rw [List.length_map])) (by omega)) (ev_c (v := .str w1)) (f_addS (by rw [sizeLine_eq]; omega))) (ev_strN (n := s.gone.length) ((ev_cb (eva1 (pl_sent t0 (ev_var (v := .ref p)))) c_lenL).cast (by rw [List.length_map])) (by omega)) (f_addS (by rw [sl_app, sizeLine_eq]; omega))) (ev_c (v := .str w2)) (f_addS (by rw [sl_app, sl_app, sizeLine_eq]; omega))) ?_
  refine ss_set (v := .str (strY b s)) (EvE.cast (ev_bin (ev_bin (ev_var (v := .str (txtI (s.lying.length : Int) ++ w1 ++ txtI (s.gone.length : Int) ++ w2))) (ev_strN (n := (falseY b s).length) ((ev_cb (eva1 (ev_var (v := .tup ((falseY b s).map .int)))) c_lenT).cast (by rw [List.length_map])) (by omega)) (f_addS (by rw [sl_app, sl_app, sl_app, sizeLine_eq]; omega))) (ev_c (v := .str w3)) (f_addS (by rw [sl_app, sl_app, sl_app, sl_app, sizeLine_eq]; omega))) rfl) ?_
  have okD : okN 64 (.tup (ds.map (·.1))) = true := by
    rw [okN_tup]
    exact ⟨fun v hv => okN_le (okd v hv) (by decide), by rw [List.length_map]; omega⟩
  refine ss_no ((evt_or (k := false) (l := false) ((evt_test (ev_bin (e_strW y0 wf wy tl (ev_var (v := .ref a))) (ev_var (v := .str (strY b s))) f_neStrP)).cast (by rw [decide_eq_true rfl]; rfl)) fun _ => (evt_or (k := false) (l := false) ((evt_test (ev_bin (e_lenW y0 wy (ev_var (v := .ref a))) ((ev_cb (eva1 (pl_here t0 (ev_var (v := .ref p)))) c_lenL).cast (by rw [List.length_map])) f_neIW)).cast (by rw [decide_eq_true rfl]; rfl)) fun _ => evt_test (ev_bin (e_deedsW y0 (by omega) (ev_var (v := .ref a))) (ev_cb (eva1 (ev_var (v := .ref r))) (c_tupR e0)) (f_neS okD rfl))).cast rfl).cast rfl) ?_
  refine x_lstP fun c nc => ?_
  have yp : ∀ o, YdAt G (put h0 c o) a b s A ds us := fun o => y0.keep nc
  have tp : ∀ o, PlAt (put h0 c o) p s := fun o => by
    show put h0 c o p = _
    rw [put_ne (fun e => by rw [← e, show h0 p = _ from t0] at nc; cases nc)]
    exact t0
  refine ss_for (evi_it (v := .lst (b.names.map .str)) ev_var rfl) fun dd hdd => ?_
  refine for_ind (fun vs ρ h => ∃ (done rest : List Str) (x6 x11 x12 x13 : Option Val), b.names = done ++ rest ∧ vs = rest.map .str ∧ h = put h0 c (.lst (done.map fun z => .tup [.str z, .int (wOf b s s.lying z)])) ∧ ρ = [some (encB b), some (.ref a), some (.ref p), some (.ref r), some (.int (s.things.length : Int)), some (.lst (b.names.map .str)), x6, some Ls, some (.tup ((falseY b s).map .int)), some (.str (strY b s)), some (.ref c), x11, x12, x13]) ?_ ?_ _ _ _ ⟨[], b.names, none, none, none, none, rfl, rfl, rfl, rfl⟩
  · rintro ρ h ⟨done, rest, x6, x11, x12, x13, e1, e2, rfl, rfl⟩
    have : rest = [] := by cases rest with
      | nil => rfl
      | cons _ _ => cases e2
    subst this
    rw [List.append_nil] at e1
    subst e1
    refine ⟨trivial, ?_⟩
    dsimp only
    have y1 := yp (.lst (b.names.map fun z => .tup [.str z, .int (wOf b s s.lying z)]))
    have t1 := tp (.lst (b.names.map fun z => .tup [.str z, .int (wOf b s s.lying z)]))
    refine ss_no (evt_test (ev_bin (e_worthsP y1 wf wy tl (ev_var (v := .ref a))) (ev_cb (eva1 (ev_var (v := .ref c))) (c_tupR put_same)) (f_neS (okN_worths nz l4) rfl))) ?_
    refine ss_for (evi_rngW (n := s.things.length) (ev_var (v := .int (s.things.length : Int))) (by omega)) fun d2 hd2 => ?_
    refine for_ind (fun vs ρ h => h = put h0 c (.lst (b.names.map fun z => .tup [.str z, .int (wOf b s s.lying z)])) ∧ (∀ v ∈ vs, ∃ i : Int, v = .int i ∧ 0 ≤ i ∧ i < (s.things.length : Int)) ∧ ∃ x6 x13 : Option Val, ρ = [some (encB b), some (.ref a), some (.ref p), some (.ref r), some (.int (s.things.length : Int)), some (.lst (b.names.map .str)), x6, some Ls, some (.tup ((falseY b s).map .int)), some (.str (strY b s)), some (.ref c), x11, x12, x13]) ?_ ?_ _ _ _ ⟨rfl, fun v hv => ?_, x6, x13, rfl⟩
    · rintro ρ h ⟨rfl, -, x6, x13, rfl⟩
      refine ⟨trivial, ?_⟩
      dsimp only
      exact s_ret ev_c (RT.less (Lss.put nc (fun z => nomatch z)) q)
    · rintro v vs ρ h ⟨rfl, hvs, x6, x13, rfl⟩
      obtain ⟨i, rfl, i0, i1⟩ := hvs v List.mem_cons_self
      refine ⟨trivial, _, rfl, fun N1 hN1 => ?_⟩
      subst hd2
      refine ss_no ((evt_or (k := false) (l := false) ((evt_test (ev_bin (e_countsW y1 wf wy tl i0 i1 (ev_var (v := .ref a)) (ev_var (v := .int i))) (eLi i0 i1 ev_var (ev_var (v := .int i))) f_neOO)).cast (by rw [decide_eq_true rfl]; rfl)) fun _ => (evt_test (ev_bin (e_worthW y1 wy tl i0 i1 (ev_var (v := .ref a)) (ev_var (v := .int i))) (eW t1 i0 i1 (ev_var (v := .ref p)) (ev_var (v := .int i))) f_neIW)).cast (by rw [decide_eq_true rfl]; rfl)).cast rfl) ?_
      have hl := List.length_filter_le (fun j => holdY s.things i j) (rngI s.things.length)
      rw [len_rngW] at hl
      refine so_no (evt_test (ev_bin (e_holdersW y1 wy tl i0 i1 (ev_var (v := .ref a)) (ev_var (v := .int i))) (ev_tupleL (ev_lcF (rngI s.things.length) Val.int (fun j => holdY s.things i j) Val.int (evi_rngW (n := s.things.length) (ev_var (v := .int (s.things.length : Int))) (by omega)) (fun _ _ => trivial) (by rw [len_rngW, sizeLine_eq]; omega) fun j hj => ⟨_, rfl, fun h' sb => ?_, fun _ h' sb => ev_var⟩)) (f_neS (okN_ints (by omega) 63) rfl))) (hN1 _ _ ⟨rfl, fun v hv => hvs v (List.mem_cons_of_mem _ hv), _, _, rfl⟩)
      obtain ⟨j0, j1⟩ := mem_rngW.mp hj
      exact evt_truthB (ev_call (eva_cons (ev_var (v := .ref p)) (eva2 (ev_var (v := .int j)) (ev_var (v := .int i)))) rfl fun Q q => ⟨p, b, s, j, i, rfl, sb p _ t1, wy.t, j0, j1, hh j j1, q⟩)
    · obtain ⟨i, hi, rfl⟩ := List.mem_map.mp hv
      exact ⟨i, rfl, mem_rngW.mp hi⟩
  · rintro v vs ρ h ⟨done, rest, x6, x11, x12, x13, e1, e2, rfl, rfl⟩
    cases rest with
    | nil => cases e2
    | cons z rest =>
      cases e2
      refine ⟨trivial, _, rfl, fun N1 hN1 => ?_⟩
      subst hdd
      have t1 := tp (.lst (done.map fun z => .tup [.str z, .int (wOf b s s.lying z)]))
      have dn : done.length ≤ 4 := by have := congrArg List.length e1; rw [List.length_append] at this; omega
      refine s_appP (r := c) ev_var put_same (by rw [List.length_map, sizeLine_eq]; omega) (ev_tup (eva2 (ev_var (v := .str z)) (ev_cb (eva1 (EvE.cast (ev_lcF s.lying .int (fun n => decide ((treeY s.things n).land b (hpY s.things) = some z)) (fun n => .int ((treeY s.things n).whole (hpY s.things))) (evi_it (pl_here t1 (ev_var (v := .ref p))) rfl) (fun _ _ => trivial) (by rw [sizeLine_eq]; omega) fun n hn => ⟨_, rfl, fun h' sb => evt_test (ev_bin (eLi (wy.lr n hn).1 (wy.lr n hn).2 ev_var (ev_var (v := .int n))) (ev_var (v := .str z)) (fun Q q => fEq_encO q)), fun _ h' sb => eW (sb p _ t1) (wy.lr n hn).1 (wy.lr n hn).2 (ev_var (v := .ref p)) (ev_var (v := .int n))⟩) ?_)) (c_sumP (xs := (s.lying.filter fun n => decide ((treeY s.things n).land b (hpY s.things) = some z)).map fun n => (treeY s.things n).whole (hpY s.things))))) (by rw [sizeLine_eq]; simp)) (hN1 _ _ ⟨done ++ [z], rest, _, _, _, _, by rw [e1]; simp, rfl, ?_, rfl⟩)
      · rw [List.map_map]; rfl
      · rw [put_put, List.map_append]; rfl
end DL
namespace DL
open PySem PySem.Spec PyProof.Rows L2
theorem ris_up : ∀ {zs : List Str}, zs.Pairwise (fun x y => x.cps.toList < y.cps.toList) → risA (zs.map Val.str) = some true
  | [], _ => rfl
  | [_], _ => rfl
  | x :: y :: r, h => by
    rw [List.pairwise_cons] at h
    have i := ris_up h.2
    have hxy := h.1 y List.mem_cons_self
    show (match ltA (.str x) (.str y), risA ((y :: r).map Val.str) with | some b, some c => some (b && c) | _, _ => none) = _
    rw [i]
    show some (decide (x.cps.toList < y.cps.toList) && true) = _
    rw [decide_eq_true hxy]; rfl
theorem lt_pairT {a b c d : Str} (h : a.cps.toList < c.cps.toList ∨ (a = c ∧ b.cps.toList < d.cps.toList)) : ltA (.tup [.str a, .str b]) (.tup [.str c, .str d]) = some true := by
  unfold ltA
  dsimp only
  rw [if_pos (by rfl)]
  unfold ltL
  rcases h with h | ⟨rfl, h⟩
  · have ne : ¬ a = c := fun e => by rw [e] at h; exact absurd h (List.lt_irrefl _)
    have : eqA (.str a) (.str c) = false := by show (a == c) = false; simpa using ne
    rw [this, if_neg Bool.false_ne_true]
    show some (decide (a.cps.toList < c.cps.toList)) = _
    rw [decide_eq_true h]
  · have e : eqA (.str a) (.str a) = true := by show (a == a) = true; simp
    rw [e, if_pos rfl]
    have ne : ¬ b = d := fun e => by rw [e] at h; exact absurd h (List.lt_irrefl _)
    have : eqA (.str b) (.str d) = false := by show (b == d) = false; simpa using ne
    unfold ltL
    rw [this, if_neg Bool.false_ne_true]
    show some (decide (b.cps.toList < d.cps.toList)) = _
    rw [decide_eq_true h]
theorem ris_upP : ∀ {ps : List (Str × Str)}, ps.Pairwise (fun x y => x.1.cps.toList < y.1.cps.toList ∨ (x.1 = y.1 ∧ x.2.cps.toList < y.2.cps.toList)) → risA (ps.map encP) = some true
  | [], _ => rfl
  | [_], _ => rfl
  | x :: y :: r, h => by
    rw [List.pairwise_cons] at h
    have i := ris_upP h.2
    have hxy := lt_pairT (h.1 y List.mem_cons_self)
    show (match ltA (encP x) (encP y), risA ((y :: r).map encP) with | some b, some c => some (b && c) | _, _ => none) = _
    rw [i]
    unfold encP
    rw [hxy]; rfl
theorem isBook_wf {b : Book} (w : WFB b) : isBook (encB b) = true := by
  have h1 : 1 ≤ b.lands.length := w.n1
  have h4 := w.n4
  have hl : (b.lands.map encL).all isLand = true := by
    rw [List.all_eq_true]
    intro v hv
    obtain ⟨l, hl, rfl⟩ := List.mem_map.mp hv
    have := w.sh l hl
    simp [encL, isLand, w.nm l hl, isNum, this]
    omega
  have hn : (b.lands.map encL).map nmOf = b.names := by rw [List.map_map]; rfl
  have hr : risA ((b.lands.map encL).map fun l => Val.str (nmOf l)) = some true := by
    have := ris_up w.up
    rw [← hn, List.map_map] at this
    exact this
  have hp : ((b.pacts.map encP).all fun p => isPact p ((b.lands.map encL).map nmOf)) = true := by
    rw [hn, List.all_eq_true]
    intro v hv
    obtain ⟨p, hp, rfl⟩ := List.mem_map.mp hv
    have := w.pc p hp
    simp [encP, isPact, this]
  unfold encB isBook
  simp only [hl, hr, hp, ris_upP w.pu, List.length_map]
  simp [h1, h4]
theorem okD_encL {l : Land} (h : l.nm.length ≤ 1000) : okD (encL l) = true := by simp [encL, okD, okDs, h]
theorem okD_encP {p : Str × Str} (h : p.1.length ≤ 1000) (h' : p.2.length ≤ 1000) : okD (encP p) = true := by simp [encP, okD, okDs, h, h']
theorem WFB.len8 {b : Book} (w : WFB b) {z : Str} (h : z ∈ b.names) : z.length ≤ 1000 := by
  obtain ⟨l, hl, rfl⟩ := List.mem_map.mp h
  have := w.nm l hl
  simp [isName] at this
  omega
theorem okD_lands {b : Book} (w : WFB b) : okDs (b.lands.map encL) = true := okDs_of fun v hv => by
  obtain ⟨l, hl, rfl⟩ := List.mem_map.mp hv
  exact okD_encL (w.len8 (List.mem_map.mpr ⟨l, hl, rfl⟩))
theorem okD_pacts {b : Book} (w : WFB b) : okDs (b.pacts.map encP) = true := okDs_of fun v hv => by
  obtain ⟨p, hp, rfl⟩ := List.mem_map.mp hv
  exact okD_encP (w.len8 (w.pc p hp).1) (w.len8 (w.pc p hp).2.1)
theorem okD_book {b : Book} (w : WFB b) : okD (encB b) = true := by
  have := w.n4
  have := w.pl
  simp [encB, okD, okDs, okD_lands w, okD_pacts w]
  omega
end DL
namespace DL
open PySem PySem.Spec PyProof.Rows L2
theorem datEq_refP {a : Addr} {vs : List Val} {w : Val} {h : Hv} {Q : Bool → Prop} (ha : h a = some (.lst vs)) (q : datEq (.lst vs) w h Q) : datEq (.ref a) w h Q := by
  obtain ⟨d, e, h1, h2⟩ := q
  refine ⟨d, e, ?_, h2⟩
  have : datH (.lst vs) h = (dats vs).map .list := by show dat (.lst vs) = _; rw [dat]
  rw [this] at h1
  unfold datH
  simp only [ha]
  exact h1
section
variable {G : Gx} {ρ : Sl} {h h' : Hv} {E : PX} {d : ED} {a p c : Addr} {b : Book} {s : St} {A : Ay} {ds us : List (Val × Addr)}
theorem YdAt.putP (y : YdAt G h a b s A ds us) {o : Ob} (n1 : p ≠ a) (n2 : p ≠ A.st) (n3 : p ≠ A.dn) (n4 : p ≠ A.un) : YdAt G (put h p o) a b s A ds us :=
  ⟨by rw [put_ne n1.symm]; exact y.ins, by unfold StAt; rw [put_ne n2.symm]; exact y.st, by rw [put_ne n3.symm]; exact y.dn, by rw [put_ne n4.symm]; exact y.un, y.ne⟩
theorem YdAt.neK (y : YdAt G h a b s A ds us) {kvs : List (Key × Val)} (e : h p = some (.dK kvs)) : p ≠ a ∧ p ≠ A.st ∧ p ≠ A.dn ∧ p ≠ A.un :=
  ⟨fun z => (by rw [z, y.ins] at e; cases e), fun z => (by rw [z, show h A.st = _ from y.st] at e; cases e), fun z => (by rw [z, y.dn] at e; cases e), fun z => (by rw [z, y.un] at e; cases e)⟩
theorem YdAt.neL (y : YdAt G h a b s A ds us) {vs : List Val} (e : h p = some (.lst vs)) : p ≠ a ∧ p ≠ A.st :=
  ⟨fun z => (by rw [z, y.ins] at e; cases e), fun z => (by rw [z, show h A.st = _ from y.st] at e; cases e)⟩
theorem f_eqR {vs : List Val} (e : h c = some (.lst vs)) (ok : okN 64 (.lst vs) = true) : EvF h fEq (.ref c) (.lst vs) (.bl true) := fun Q q => by
  show datEq (.ref c) (.lst vs) h fun b => Q (.bl b) h
  exact datEq_refP e (datEq_ok ok ok (by rw [eqD_refl ok]; exact q))
end
theorem f_mod5 {h : Hv} (k : Int) : EvF h fMod (.int k) (.int 5) (.int (k % 5)) := fun Q q => ⟨(by show (0 : Int) < 5; decide), q⟩
theorem deed_okN {names : List Str} (nz : ∀ z ∈ names, okN 0 (.str z) = true) {d : Deed} (h1 : d.ok) (h2 : ∀ z ∈ d.lands, z ∈ names ∨ z = "zz") : okN 8 d.enc = true := by
  have oz : okN 0 (.str "zz") = true := by decide +kernel
  have hz : ∀ z ∈ d.lands, okN 0 (.str z) = true := fun z hz => (h2 z hz).elim (nz z) fun e => e ▸ oz
  have hw0 : ∀ z ∈ (["take_in", "make", "send", "find"] : List Str), okN 7 (.str z) = true := by decide +kernel
  have hw : okN 7 (.str d.word) = true := hw0 _ (by cases d <;> simp [Deed.word])
  have two : ∀ {v w : Val} {k : Nat}, okN k v = true → okN k w = true → okN (k + 1) (.tup [v, w]) = true := fun {v w k} a c => by
    rw [okN_tup]
    refine ⟨fun x hx => ?_, by simp⟩
    rcases List.mem_cons.mp hx with e | hx
    · rw [e]; exact a
    · rw [List.mem_singleton.mp hx]; exact c
  have oO : ∀ (l : Option Str) (k : Nat), (∀ z ∈ l.toList, okN 0 (.str z) = true) → okN k (encO l) = true := fun l k h => by
    cases l with
    | none => cases k <;> rfl
    | some z => exact okN_le (h z (by simp)) (Nat.zero_le _)
  refine two hw ?_
  cases d with
  | take w l => exact two (k := 6) rfl (oO l 6 hz)
  | make z xs => exact two (k := 6) (okN_le (hz z (by simp [Deed.lands])) (by decide)) (okN_ints (by have := h1.1; omega) 5)
  | send n z => exact two (k := 6) rfl (okN_le (hz z (by simp [Deed.lands])) (by decide))
  | find n w l =>
    show okN 7 (.tup [.int n, .int w, encO l]) = true
    rw [okN_tup]
    refine ⟨fun x hx => ?_, by simp⟩
    rcases List.mem_cons.mp hx with e | hx
    · rw [e]; rfl
    · rcases List.mem_cons.mp hx with e | hx
      · rw [e]; rfl
      · rw [List.mem_singleton.mp hx]; exact oO l 6 hz
structure P30 (G : Gx) (t r a p c : Addr) (b : Book) (h : Hv) (s : St) (A : Ay) (ds us : List (Val × Addr)) (L : List Deed) : Prop where
  ls : LSW G.Ts t r h
  y : YdAt G h a b s A ds us
  pl : PlAt h p s
  dl : h c = some (.lst (ds.map (·.1)))
  qd : c ≠ A.dn
  qu : c ≠ A.un
  rn : Run b s L
  ed : ds.map (·.1) = L.map Deed.enc
  ok : ∀ v ∈ ds.map (·.1), okN 8 v = true
  pt : p ≠ t ∧ p ≠ r
theorem P30.only {G : Gx} {t r a p c : Addr} {b : Book} {h h' : Hv} {s : St} {A : Ay} {ds us : List (Val × Addr)} {L : List Deed} (x : P30 G t r a p c b h s A ds us L) (T : Town t r h') (o : Only t r h h') : P30 G t r a p c b h' s A ds us L := by
  have ct : c ≠ t := fun e => by obtain ⟨_, _, e1⟩ := x.ls.T.tc; have := x.dl; rw [e, e1] at this; cases this
  have cr : c ≠ r := fun e => by obtain ⟨_, e1, _⟩ := x.ls.T.rc; have := x.dl; rw [e, e1] at this; cases this
  exact ⟨x.ls.only T o, x.y.onlyZ x.ls.T o, (o p x.pt.1 x.pt.2).trans x.pl, (o c ct cr).trans x.dl, x.qd, x.qu, x.rn, x.ed, x.ok, x.pt⟩
theorem okN_told {b : Book} {s : St} {d : Deed} : okN 64 (.tup [.str "told", d.ret s]) = true := by
  rw [okN_tup]
  refine ⟨fun v hv => ?_, by simp⟩
  rcases List.mem_cons.mp hv with e | hv
  · rw [e]; decide +kernel
  · rw [List.mem_singleton.mp hv]; cases d <;> rfl
theorem x_asgP {ρ : Sl} {h : Hv} {E : PX} {D : AE} {de : ED} {t : Tg} {s2 : SD} (q : de ρ h (fun v h1 => match bT t v ρ with | some ρ' => s2 ρ' h1 D E | none => False) E) : sSeq (sAsg t de) s2 ρ h D E := q
theorem x_tupP {ρ : Sl} {h : Hv} {E : PX} {aa : AD} {Q : PV} (q : aa ρ h (fun vs h1 => vs.length ≤ sizeLine ∧ Q (.tup vs) h1) E) : dTup aa ρ h Q E := q
theorem x_consP {ρ : Sl} {h : Hv} {E : PX} {da : ED} {aa : AD} {QA : List Val → Hv → Prop} (q : da ρ h (fun v h1 => aa ρ h1 (fun vs h2 => QA (v :: vs) h2) E) E) : aCons da aa ρ h QA E := q
theorem x_lastP {ρ : Sl} {h : Hv} {E : PX} {da : ED} {QA : List Val → Hv → Prop} (q : da ρ h (fun v h1 => QA [v] h1) E) : aCons da aNil ρ h QA E := q
theorem x_lstH {aa : AD} {ρ : Sl} {h : Hv} {E : PX} {Q : PV} (q : aa ρ h (fun vs h1 => vs.length ≤ sizeLine ∧ ∀ p, h1 p = none → Q (.ref p) (put h1 p (.lst vs))) E) : dLstH aa ρ h Q E := q
theorem refV_ok {b : Book} {s : St} (nz : ∀ z ∈ b.names, okN 0 (.str z) = true) (wy : WFY b s) {d : Deed} {e : Str} {pl : Option Val} (hr : d.ref b s = some (e, pl)) : okN 64 (refV (some (e, pl))) = true ∧ scA (refV (some (e, pl))) (refV (some (e, pl))) = none ∧ ∀ h, EvF h fIsN (refV (some (e, pl))) .non (.bl false) := by
  rcases ref_kind hr with ⟨m, rfl⟩ | ⟨rfl, v, rfl⟩
  · refine ⟨?_, rfl, fun h Q q => q⟩
    have : ∀ x ∈ (["BadBook", "NoLand", "NoThing", "NoWorth"] : List Str), okN 64 (.tup [.str (heardW x)]) = true := by decide +kernel
    exact this e m
  · refine ⟨?_, rfl, fun h Q q => q⟩
    have hv : ∃ n, n ∈ s.lying ∧ v = encO ((treeY s.things n).land b (hpY s.things)) := by
      cases d with
      | take w l => obtain ⟨_, _, e⟩ := Option.map_eq_some_iff.mp hr; cases e
      | make z xs => obtain ⟨_, _, e⟩ := Option.map_eq_some_iff.mp hr; cases e
      | find n w l => obtain ⟨_, _, e⟩ := Option.map_eq_some_iff.mp hr; cases e
      | send n z =>
        have hr : sRef b s n z = some (("NotOf" : Str), some v) := hr
        unfold sRef at hr
        by_cases c : n ∈ s.lying
        · rw [if_neg (fun h => h c)] at hr
          by_cases c2 : z ∈ b.names
          · rw [if_neg (fun h => h c2)] at hr
            by_cases c3 : (treeY s.things n).land b (hpY s.things) = some z
            · rw [if_pos c3] at hr; cases hr
            · rw [if_neg c3] at hr
              cases hr
              exact ⟨n, c, rfl⟩
          · rw [if_pos c2] at hr; cases hr
        · rw [if_pos c] at hr; cases hr
    obtain ⟨n, hn, rfl⟩ := hv
    show okN 64 (.tup [.str "not of", _]) = true
    rw [okN_tup]
    refine ⟨fun v hv => ?_, by simp⟩
    rcases List.mem_cons.mp hv with e | hv
    · rw [e]; decide +kernel
    · rw [List.mem_singleton.mp hv]
      exact okN_encO nz (treeY_land wy.t (wy.lr n hn).1 (wy.lr n hn).2) _
set_option maxHeartbeats 4000000 in
theorem bo_law (G : Gx) (N : List Str) (hN : N.length = 12) : ∀ as h Q E, as.length = 1 → S_lawN ["law"] G as h Q E → den_law G (startA N as) h (endsR Q) (RX E) := by
  rintro as h0 Q E - ⟨ns, rfl, nl, gns, tb0, q⟩
  have iL : ("law" : Str) ∈ G.ns := by rw [gns]; decide
  have mL : (G.T "law", LQ) ∈ G.Ts := G.mem iL
  unfold den_law
  simp only [startA, hN]
  refine ss_begun tb0 fun t r h1 T1 tb1 => ?_
  refine ss_book nl T1 tb1 ev_var ev_var fun b h2 db T2 tb2 _ => ?_
  have wf := db.wf
  have n4 := wf.n4
  have nz := db.nz
  refine x_asgP (x_tupP (x_consP (x_new (eva1 (ev_var (v := encB b))) fun a na => ⟨rfl, a, h2, encB b, rfl, na, rfl, .inl ⟨b, rfl, isBook_wf wf, okD_book wf, fun h3 A y3 nw3 nd3 nu3 => ⟨rfl, ?_⟩⟩⟩)))
  have s3 : LSW G.Ts t r h3 := (LSW.mk T2 tb2).nw nw3
  refine x_consP ?_
  unfold dDisp
  intro p np
  have eN : ∀ {ρ : Sl} {h : Hv}, EvE ρ h (RX E) (dLst aNil) (.lst []) := ev_lst eva_nil (by simp)
  refine x_evW (ev_c (v := .str "things")) (x_evW eN (x_evW (ev_c (v := .str "here")) (x_evW eN (x_evW (ev_c (v := .str "sent")) (x_evW eN ?_)))))
  refine ⟨(show 3 ≤ 15 by decide), ?_⟩
  rw [put_put]
  have em : mergeA [] [((Sum.inr "things" : Key), Val.lst []), (.inr "here", .lst []), (.inr "sent", .lst [])] = plV ⟨[], [], []⟩ := rfl
  rw [em]
  obtain ⟨pt, pr⟩ := s3.T.fresh np
  refine x_lastP (x_lstH ⟨by simp, fun c nc => ⟨by rw [sizeLine_eq]; simp, ?_⟩⟩)
  have T4 : Town t r (put h3 p (.dK (plV ⟨[], [], []⟩))) := s3.T.put pt pr
  have nc3 : h3 c = none := by
    rw [put_ne (fun e => by rw [e, put_same] at nc; cases nc)] at nc; exact nc
  have cp : c ≠ p := fun e => by rw [e, put_same] at nc; cases nc
  obtain ⟨ct, cr⟩ := s3.T.fresh nc3
  have y4 : YdAt G (put h3 p (.dK (plV ⟨[], [], []⟩))) a b ⟨[], [], []⟩ A [] [] := y3.keep np
  have x0 : P30 G t r a p c b (put (put h3 p (.dK (plV ⟨[], [], []⟩))) c (.lst [])) ⟨[], [], []⟩ A [] [] [] := by
    refine ⟨⟨T4.put ct cr, (s3.tb.put np (fun _ z => by cases z)).put nc (fun _ z => by cases z)⟩, y4.keep nc, ?_, put_same, fun e => ?_, fun e => ?_, .nil, rfl, fun v hv => absurd hv (by simp), pt, pr⟩
    · show put _ c _ p = _
      rw [put_ne cp.symm, put_same]
    · rw [e, y3.dn] at nc3; cases nc3
    · rw [e, y3.un] at nc3; cases nc3
  show sSeq _ _ [some (.scr ns), some (.ref t), some (.ref p), some (.ref c), none, none, none, none, some (encB b), none, none, some (.ref a)] _ _ _
  refine ss_for (evi_rngW (n := 30) ev_c (by decide)) fun dd hdd => ?_
  refine for_ind (fun vs ρ h => ∃ (s : St) (A : Ay) (ds us : List (Val × Addr)) (L : List Deed), P30 G t r a p c b h s A ds us L ∧ L.length + vs.length ≤ 30 ∧ (∀ v ∈ vs, ∃ i : Int, v = .int i ∧ 0 ≤ i) ∧ ∃ x4 x5 x6 x7 x9 x10 : Option Val, ρ = [some (.scr ns), some (.ref t), some (.ref p), some (.ref c), x4, x5, x6, x7, some (encB b), x9, x10, some (.ref a)]) ?_ ?_ _ _ _ ⟨_, _, _, _, _, x0, by rw [List.length_map, len_rngW]; simp, fun v hv => ?_, none, none, none, none, none, none, rfl⟩
  rotate_left
  · rintro v vs ρ h ⟨s, A, ds, us, L, x, ll, hvs, x4, x5, x6, x7, x9, x10, rfl⟩
    obtain ⟨k, rfl, k0⟩ := hvs v List.mem_cons_self
    rw [List.length_cons] at ll
    refine ⟨trivial, _, rfl, fun N1 hN1 => ?_⟩
    subst hdd
    have wy := x.rn.wf (by omega)
    have nlen := x.rn.len
    have dl : ds.length = L.length := by have := congrArg List.length x.ed; rwa [List.length_map, List.length_map] at this
    refine x_asgP (e_call (eva_cons (ev_var (v := .scr ns)) (eva_cons (ev_var (v := .ref t)) (eva2 (ev_var (v := encB b)) (ev_var (v := .ref p))))) rfl ⟨ns, t, r, p, b, plV s, s.things.map encThP, s.lying, rfl, nl, x.ls.T, db, x.pl, rfl, rfl, by rw [List.length_map]; omega, wy.ll, fun i hi => (wy.lr i hi).1, x.pt.1, x.pt.2, fun d h5 dok dla T5 o5 => ?_⟩)
    have x5' := x.only T5 o5
    have hhl : ∀ n ∈ s.lying, (treeY s.things n).ht < 40 := fun n hn => by have := ht_treeY wy.t n; have := wy.lr n hn; omega
    show sSeq _ _ [some (.scr ns), some (.ref t), some (.ref p), some (.ref c), some (.int k), x5, x6, x7, some (encB b), some d.args, some (.str d.word), some (.ref a)] h5 _ _
    refine ss_set (v := refV (d.ref b s)) (ev_call (eva_cons (ev_var (v := encB b)) (eva_cons (ev_var (v := .ref p)) (eva2 (ev_var (v := .str d.word)) (ev_var (v := d.args))))) rfl fun Q q => ⟨p, b, s, d, rfl, x5'.pl, wf, wy, dok, hhl, q⟩) ?_
    refine x_set (x_heardZ x5'.ls.tb mL (e_call (eva_cons (ev_var (v := .ref a)) (eva2 (ev_var (v := .str d.word)) (ev_var (v := d.args)))) rfl ⟨a, b, s, A, ds, us, d, rfl, x5'.y, wf, wy, by omega, dok, hhl, ?_⟩))
    -- the end of the turn
    have fin2 : ∀ {s' : St} {A' : Ay} {ds' us' : List (Val × Addr)} {L' : List Deed} {h6 : Hv} {v5 v6 : Option Val} {D : AE}, D.nx = N1 → P30 G t r a p c b h6 s' A' ds' us' L' → L'.length + vs.length ≤ 30 → sIf (dAnd (dTest (dBin fEq (dBin fMod (dVar 4) (dC (.int 5))) (dC (.int 4)))) (dNot (dTruth (dCall 4 (S__law_stands G) (aCons (dVar 8) (aCons (dVar 11) (aCons (dVar 2) (aCons (dVar 3) aNil)))))))) (sRet (dC (.bl false))) sNext [some (.scr ns), some (.ref t), some (.ref p), some (.ref c), some (.int k), v5, v6, x7, some (encB b), some d.args, some (.str d.word), some (.ref a)] h6 D (RX E) := fun {s' A' ds' us' L' h6 v5 v6 D} eD x6 l6 => by
      have wy6 := x6.rn.wf (by omega)
      have nlen6 := x6.rn.len
      have dl6 : ds'.length = L'.length := by have := congrArg List.length x6.ed; rwa [List.length_map, List.length_map] at this
      refine so_no ((evt_and (k := decide (k % 5 = 4)) (l := false) (evt_test (ev_bin (ev_bin (ev_var (v := .int k)) ev_c (f_mod5 k)) ev_c f_eqIY)) fun _ => (evt_not (k := true) (evt_truthB (ev_call (eva_cons (ev_var (v := encB b)) (eva_cons (ev_var (v := .ref a)) (eva2 (ev_var (v := .ref p)) (ev_var (v := .ref c))))) rfl fun Q q => ⟨a, p, c, b, s', A', ds', us', rfl, x6.y, x6.pl, x6.dl, wf, wy6, by omega, by omega, nz, x6.rn.gone, x6.ok, q⟩))).cast rfl).cast (Bool.and_false _)) ?_
      rw [eD]
      exact hN1 _ _ ⟨s', A', ds', us', L', x6, l6, fun v hv => hvs v (List.mem_cons_of_mem _ hv), _, _, _, _, _, _, rfl⟩
    cases hr : d.ref b s with
    | none =>
      refine .inl ⟨rfl, fun h6 st un y6 f6 n6 => ?_⟩
      have nea := x5'.y.neK x5'.pl
      have nel := x5'.y.neL x5'.dl
      have pl6 : PlAt h6 p s := by
        rcases f6.o p nea.1 nea.2.2.1 with z | z
        · rw [show h5 p = _ from x5'.pl] at z; cases z
        · exact z.trans x5'.pl
      have dl6 : h6 c = some (.lst (ds.map (·.1))) := by
        rcases f6.o c nel.1 x5'.qd with z | z
        · rw [x5'.dl] at z; cases z
        · exact z.trans x5'.dl
      have cu : c ≠ un := fun e => by rw [← e, x5'.dl] at n6; cases n6
      have ls6 := x5'.ls.yfr x5'.y f6
      have nep := y6.neK pl6
      refine ss_yes (evt_test (ev_bin (ev_var (v := .non)) ev_c fun Q q => q)) ?_
      refine x_set (x_tupP (x_consP (x_evW (ev_c (v := .str "told")) (x_lastP (e_call (eva_cons (ev_var (v := .ref p)) (eva2 (ev_var (v := .str d.word)) (ev_var (v := d.args)))) rfl ⟨p, b, s, d, rfl, pl6, wy, dok, hr, ⟨by rw [sizeLine_eq]; simp, ?_⟩⟩)))))
      have cpn : c ≠ p := fun e => by rw [e, show h6 p = _ from pl6] at dl6; cases dl6
      have y7 : YdAt G (put h6 p (.dK (plV (d.does s)))) a b (d.does s) ⟨st, A.dn, un⟩ (ds ++ [(d.enc, A.st)]) [] := y6.putP nep.1 nep.2.1 nep.2.2.1 nep.2.2.2
      have dl7 : put h6 p (.dK (plV (d.does s))) c = some (.lst (ds.map (·.1))) := by rw [put_ne cpn]; exact dl6
      refine s_appP (r := c) (ev_var (v := .ref c)) dl7 (by rw [List.length_map, sizeLine_eq]; omega) (ev_tup (eva2 (ev_var (v := .str d.word)) (ev_var (v := d.args))) (by rw [sizeLine_eq]; simp)) ?_
      have nel7 := y7.neL dl7
      have x8 : P30 G t r a p c b (put (put h6 p (.dK (plV (d.does s)))) c (.lst (ds.map (·.1) ++ [.tup [.str d.word, d.args]]))) (d.does s) ⟨st, A.dn, un⟩ (ds ++ [(d.enc, A.st)]) [] (L ++ [d]) := by
        have ctn : c ≠ t := fun e => by obtain ⟨_, _, e1⟩ := ls6.T.tc; rw [e, e1] at dl6; cases dl6
        have crn : c ≠ r := fun e => by obtain ⟨_, e1, _⟩ := ls6.T.rc; rw [e, e1] at dl6; cases dl6
        refine ⟨⟨(ls6.T.put x.pt.1 x.pt.2).put ctn crn, ⟨fun z hz => ?_, fun z w hz => ?_⟩⟩, y7.putP nel7.1 nel7.2 x5'.qd cu, ?_, ?_, x5'.qd, cu, x5'.rn.step dok hr, ?_, fun v hv => ?_, x.pt⟩
        · have e := ls6.tb.has z hz
          rw [put_ne (fun e2 => by rw [e2, dl6] at e; cases e), put_ne (fun e2 => by rw [e2, show h6 p = _ from pl6] at e; cases e)]
          exact e
        · by_cases e1 : z = c
          · rw [e1, put_same] at hz; cases hz
          · rw [put_ne e1] at hz
            by_cases e2 : z = p
            · rw [e2, put_same] at hz; cases hz
            · rw [put_ne e2] at hz
              exact ls6.tb.all z w hz
        · show put _ c _ p = _
          rw [put_ne cpn.symm, put_same]
        · rw [put_same, List.map_append]; rfl
        · rw [List.map_append, List.map_append, x5'.ed]; rfl
        · rw [List.map_append] at hv
          rcases List.mem_append.mp hv with hv | hv
          · exact x5'.ok v hv
          · rw [List.mem_singleton.mp hv]; exact deed_okN nz dok dla
      dsimp only
      refine ss_no (evt_test (ev_bin (ev_var (v := .tup [.str "told", d.ret s])) (ev_var (v := .tup [.str "told", d.ret s])) (f_neS (okN_told (b := b)) rfl))) ?_
      exact fin2 rfl x8 (by rw [List.length_append]; simp; omega)
    | some ep =>
      obtain ⟨e, pl⟩ := ep
      obtain ⟨ok1, ok2, ok3⟩ := refV_ok nz wy hr
      refine .inr ⟨e, pl, rfl, ?_⟩
      rcases ref_kind hr with ⟨m, e2⟩ | ⟨e1, v2, e2⟩
      · refine .inl ⟨m, e2, ?_⟩
        subst e2
        refine ss_no (evt_test (ev_bin (ev_var (v := refV (some (e, none)))) ev_c (ok3 _))) ?_
        refine ss_no (evt_test (ev_bin (v := refV (some (e, none))) ev_var (ev_var (v := refV (some (e, none)))) (f_neS ok1 ok2))) ?_
        exact fin2 rfl x5' (by omega)
      · refine .inr ⟨e1, v2, e2, ?_⟩
        subst e2
        refine ss_no (evt_test (ev_bin (ev_var (v := refV (some (e, some v2)))) ev_c (ok3 _))) ?_
        refine ss_no (evt_test (ev_bin (v := refV (some (e, some v2))) ev_var (ev_var (v := refV (some (e, some v2)))) (f_neS ok1 ok2))) ?_
        exact fin2 rfl x5' (by omega)
  · obtain ⟨i, hi, rfl⟩ := List.mem_map.mp hv
    exact ⟨i, rfl, (mem_rngW.mp hi).1⟩
  rintro ρ h ⟨s, A, ds, us, L, x, ll, -, x4, x5, x6, x7, x9, x10, rfl⟩
  have ll : L.length ≤ 30 := by simpa using ll
  refine ⟨trivial, ?_⟩
  dsimp only
  have wy := x.rn.wf (by omega)
  have nlen := x.rn.len
  have dl : ds.length = L.length := by have := congrArg List.length x.ed; rwa [List.length_map, List.length_map] at this
  refine x_set (x_lstH (x_lastP (x_heardZ x.ls.tb mL (x_new (eva1 (ev_c (v := .non))) fun a' na' => ⟨rfl, a', h, .non, rfl, na', rfl, .inr ⟨rfl, rfl, .inl ⟨by decide, rfl, by rw [sizeLine_eq]; simp, fun o no => ?_⟩⟩⟩))))
  have y1 : YdAt G (put (put h a' (.ins (G.C "Yard") [])) o (.lst [.tup [.str (heardW "BadBook")]])) a b s A ds us := (x.y.keep na').keep no
  have tb1 : Tbs G.Ts (put (put h a' (.ins (G.C "Yard") [])) o (.lst [.tup [.str (heardW "BadBook")]])) := (x.ls.tb.put na' (fun _ z => by cases z)).put no (fun _ z => by cases z)
  obtain ⟨h7, e7⟩ : ∃ h7, h7 = put (put h a' (.ins (G.C "Yard") [])) o (.lst [.tup [.str (heardW "BadBook")]]) := ⟨_, rfl⟩
  rw [← e7] at y1 tb1 ⊢
  have o1 : h7 o = some (.lst [.tup [.str "no book"]]) := by
    have : heardW "BadBook" = "no book" := by decide +kernel
    rw [e7, put_same, this]
  have nt : ∀ {ρ : Sl} {h : Hv} {d : ED}, Tbs G.Ts h → (∀ (Q : PV) (E' : PX), E' "NoThing" none ρ h → d ρ h Q E') → EvE ρ h (RX E) (dHeardN G.Ts (G.T "law") LQ ["BadBook", "NoLand", "NoThing", "NoWorth"] d) (.tup [.str "no thing"]) := fun tb hd Q q => x_heardZ tb mL (hd _ _ (.inl ⟨by decide, rfl, q⟩))
  have h99 : (treeY s.things 99).ht < 40 := by
    unfold treeY trY
    rw [List.getElem?_eq_none (by show s.things.length ≤ 99; omega)]
    show 0 < 40
    decide
  have hm1 : (treeY s.things (-1)).ht < 40 := by have := ht_treeY wy.t (-1); have : (-1 : Int).toNat = 0 := rfl; omega
  obtain ⟨l0, ls, el⟩ : ∃ l0 ls, b.lands = l0 :: ls := by
    cases hb : b.lands with
    | nil => have := wf.n1; rw [hb] at this; simp at this
    | cons l0 ls => exact ⟨l0, ls, rfl⟩
  have hz : l0.nm ∈ b.names := by unfold Book.names; rw [el]; simp
  refine s_seq (s_appP (r := o) (ev_var (v := .ref o)) o1 (by rw [sizeLine_eq]; simp) (nt tb1 fun Q E' q => e_meth (ev_var (v := .ref a)) y1.ins rfl (eva1 (ev_c (v := .int 99))) rfl ⟨a, b, s, A, ds, us, 99, rfl, y1, wy, h99, .inr ⟨by omega, q⟩⟩) ?_)
  dsimp only
  have no' : o ≠ a' := fun e => by rw [e, put_same] at no; cases no
  have noh : h o = none := by rw [put_ne no'] at no; exact no
  have yk : ∀ vs, YdAt G (put h7 o (.lst vs)) a b s A ds us := fun vs => by
    rw [e7, put_put]; exact (x.y.keep na').keep no
  have tk : ∀ vs, Tbs G.Ts (put h7 o (.lst vs)) := fun vs => by
    rw [e7, put_put]; exact (x.ls.tb.put na' (fun _ z => by cases z)).put no (fun _ z => by cases z)
  refine s_seq (s_appP (r := o) (ev_var (v := .ref o)) put_same (by rw [sizeLine_eq]; simp) (nt (tk _) fun Q E' q => e_meth (ev_var (v := .ref a)) (yk _).ins rfl (eva1 (ev_neg (ev_c (v := .int 1)))) rfl ⟨a, b, s, A, ds, us, -1, rfl, yk _, wy, hm1, .inr ⟨by omega, q⟩⟩) ?_)
  dsimp only
  rw [put_put]
  refine s_seq (s_appP (r := o) (ev_var (v := .ref o)) put_same (by rw [sizeLine_eq]; simp) (nt (tk _) fun Q E' q => e_meth (ev_var (v := .ref a)) (yk _).ins rfl (eva2 (v := .str l0.nm) (w := .tup (([] : List Int).map .int)) (ev_bin (ev_bin (ev_bin (ev_var (v := encB b)) ev_c (f_ixI (i := 0) (u := .tup (b.lands.map encL)) rfl (by decide) rfl)) ev_c (f_ixI (i := 0) (u := encL l0) rfl (by decide) (by rw [el]; rfl))) ev_c (f_ixI (i := 0) (u := .str l0.nm) (by unfold encL; rfl) (by decide) rfl)) (ev_tup eva_nil (by simp))) rfl ⟨a, b, s, A, ds, us, l0.nm, [], rfl, yk _, wy, n4, by omega, by simp, .inr ⟨"NoThing", by unfold mRef; rw [if_neg (fun h => h hz), if_pos (.inl rfl)], q⟩⟩) ?_)
  dsimp only
  rw [put_put]
  obtain ⟨od, eod⟩ : ∃ od : List Val, od = [.tup [.str "no book"], .tup [.str "no thing"], .tup [.str "no thing"], .tup [.str "no thing"]] := ⟨_, rfl⟩
  have one : ∀ {ρ : Sl} {h : Hv} {z : Str}, EvE ρ h (RX E) (dTup (aCons (dC (.str z)) aNil)) (.tup [.str z]) := ev_tup (eva1 ev_c) (by rw [sizeLine_eq]; simp)
  refine s_ret (v := .bl true) (ev_bin (ev_var (v := .ref o)) (EvE.cast (ev_lst (eva_cons one (eva_cons one (eva2 one one))) (by rw [sizeLine_eq]; simp)) (by rw [eod])) (f_eqR (vs := od) (by rw [put_same, eod]; rfl) (by rw [eod]; decide +kernel))) (RT.same (q _))
end DL
namespace DL
open PySem PySem.Spec PyProof.Rows L2
end DL
namespace DL
open PySem PySem.Spec PyProof.Rows L2
def oexB (K : PySem.W.Frag) (C : Addr) : Bool :=
  (match K.lookup C with
  | some ⟨.type "type", _, .cls cd, sl⟩ => (match cd.mro, sl.toList with
    | .ref C' :: bm, [_, _, _, _, some (.builtin n), _] => C' == C && n == "ValueError.__new__" && !cd.hasDel && cd.hasDict && PySem.HandSPX.refsVE bm
    | _, _ => false)
  | _ => false) &&
  (decide (PySem.W.findIn K (.ref C) "__setattr__" = some (some (.builtin "object.__setattr__"))) && (decide (PySem.W.subIn K (.ref C) (.type "BaseException") = some true) && (decide (PySem.W.typeIn K (.ref C) = some (.type "type")) && PySem.W.keepIn K (.ref C))))
theorem oexB_ok {K : PySem.W.Frag} {C : Addr} (h : oexB K C = true) : OexC K C := by
  unfold oexB at h
  rw [Bool.and_eq_true, Bool.and_eq_true, Bool.and_eq_true, Bool.and_eq_true, decide_eq_true_eq, decide_eq_true_eq, decide_eq_true_eq] at h
  obtain ⟨q, h1, h2, h3, h4⟩ := h
  refine ⟨?_, h1, h2, h3, h4⟩
  split at q
  · rename_i dd cd sl ho
    split at q
    · rename_i C' bm k0 k1 k2 k3 n k5 hm hs
      simp only [Bool.and_eq_true, beq_iff_eq, Bool.not_eq_true'] at q
      obtain ⟨⟨⟨⟨rfl, rfl⟩, hdel⟩, hdi⟩, ht⟩ := q
      obtain ⟨nm, bs, mro, ns, qn, hd, sn, sub, ab, col, del⟩ := cd
      dsimp only at hm hdel hdi
      subst hm hdel hdi
      have hsl : sl = #[k0, k1, k2, k3, some (.builtin "ValueError.__new__"), k5] := by
        obtain ⟨l⟩ := sl
        simp only at hs
        rw [hs]
      subst hsl
      exact ⟨nm, qn, ns, bs, bm, sn, sub, ab, col, dd, k0, k1, k2, k3, k5, ho, ht⟩
    · cases q
  · cases q
abbrev noI (K : PySem.W.Frag) : Addr := He.fAd K ("NotOf", some "__init__")
def exBN (K : PySem.W.Frag) : Bool :=
  excCB K (He.ga K "NotOf") && (decide (PySem.W.exmOne K (.ref (He.ga K "NotOf")) (.ref (He.ga K "CountError")) = some true) && (decide (PySem.W.kitOne K (.ref (He.ga K "NotOf")) (.ref (He.ga K "NotOf")) = some true) && (xfB K (He.ga K "NotOf") &&
    (oexB K (He.ga K "NotOf") && (decide (PySem.W.findIn K (.ref (He.ga K "NotOf")) "land" = some none) && (decide (PySem.W.findIn K (.ref (He.ga K "NotOf")) "__init__" = some (some (.ref (noI K)))) && decide (PySem.W.typeIn K (.ref (noI K)) = some (.type "function"))))))))
structure NoFacts (K : PySem.W.Frag) : Prop where
  ec : ExcC K (He.ga K "NotOf")
  ex : PySem.W.exmOne K (.ref (He.ga K "NotOf")) (.ref (He.ga K "CountError")) = some true
  kt : PySem.W.kitOne K (.ref (He.ga K "NotOf")) (.ref (He.ga K "NotOf")) = some true
  xf : XfC K (He.ga K "NotOf")
  ox : OexC K (He.ga K "NotOf")
  no : PySem.W.findIn K (.ref (He.ga K "NotOf")) "land" = some none
  ini : PySem.W.findIn K (.ref (He.ga K "NotOf")) "__init__" = some (some (.ref (noI K)))
  ty : PySem.W.typeIn K (.ref (noI K)) = some (.type "function")
theorem exBN_ok {K : PySem.W.Frag} (h : exBN K = true) : NoFacts K := by
  unfold exBN at h
  simp only [Bool.and_eq_true, decide_eq_true_eq] at h
  obtain ⟨a, b, c, d, e, f, g, i⟩ := h
  exact ⟨excCB_ok a, b, c, xfB_ok d, oexB_ok e, f, g, i⟩
theorem NoFacts.cls {K : PySem.W.Frag} {mg : Str → Option Value} {rs : List Str} (n : NoFacts K) (c : HCls K mg (He.ga K) rs) : HClsN K mg (He.ga K) rs := ⟨c, n.ec, n.ex, n.kt, n.xf, n.no⟩
def exTN (rs : List Str) (tf : List He.Defn) (K : PySem.W.Frag) : Bool := exBN K && exT rs tf K
theorem exTN_ok {rs : List Str} {tf : List He.Defn} {K : PySem.W.Frag} (h : exTN rs tf K = true) : NoFacts K ∧ exT rs tf K = true := by
  unfold exTN at h
  rw [Bool.and_eq_true] at h
  exact ⟨exBN_ok h.1, h.2⟩
theorem NoFacts.xcv {P : Program} {w : World} {K : PySem.W.Frag} {mg : Str → Option Value} {base : Heap} {rs : List Str} {fd : FuncData} (n : NoFacts K) (c : HCls K mg (He.ga K) rs) (O : FnOk P w K mg base (L2.CX P w) 1 (noI K) fd ["self", "land"] (spNo K)) (hb : L2.Binds K fd ["self", "land"] []) : XcV P w K mg base "NotOf" :=
  ⟨⟨He.ga K "NotOf", noI K, fd, _, c.mg _ (by decide +kernel), n.ox, n.no, n.ini, n.ty, O, hb⟩⟩
end DL
namespace DL
open PySem PySem.Spec PyProof.Rows L2
def topS (i : Nat) : Stmt := PySem.Challenge.pw_countsfrom_k30_yards.main.body.getD i (.Pass ⟨0, 0, 0, 0⟩)
abbrev s_NotOf___init__ : Stmt := inClass (topS 11) 0
theorem sc_NotOf___init__ : FnScope ["self", "land"] ["self", "land"] (defScope s_NotOf___init__) := ⟨rfl, rfl, rfl, by decide +kernel, rfl, by decide +kernel, by decide +kernel⟩
abbrev s__law_heard : Stmt := topS 31
abbrev N__law_heard : List Str := NH
theorem sc__law_heard : FnScope NH ["deed"] (defScope s__law_heard) := ⟨rfl, rfl, rfl, by decide +kernel, rfl, by decide +kernel, by decide +kernel⟩
abbrev s_law : Stmt := topS 47
abbrev N_law : List Str := ["script", "town", "plain", "deeds", "k", "due", "told", "odd", "book_here", "some", "word", "yard"]
theorem hd_law {P : Program} {w : World} {K : PySem.W.Frag} {mg : Str → Option Value} {base : Heap} {f fh c T : Addr} {fdh : FuncData} {cdv : Value} {A : Around} {outer : List Env} {s : Shared} {H : Hp} {E : XK} {cs : Str → Addr} (Fh : Fun K "_law_heard" "_law_heard" s__law_heard fh fdh) (mh : mg "_law_heard" = some (.ref fh)) (HN : HClsN K mg cs ["BadBook", "NoLand", "NoThing", "NoWorth"]) (m_isinstance : mg "isinstance" = none) (m_len : mg "len" = none) (m_ValueError : mg "ValueError" = none)
    (TB : LamX.TabB base mg c T) (hcode : cdv = .ref c) (hr : Room 87 (A.deeper (envOfC "law" (defScope s_law) s.heap.objs.size f cdv))) : HeardN (cxOf (L2.CX P w) P w K mg base N_law "law" (defScope s_law) f cdv A outer s H E) 85 T ["BadBook", "NoLand", "NoThing", "NoWorth"] := by
  have HC := HN.c
  have hb := Fh.binds (ps := ["deed"]) fun _ _ _ _ _ _ us hl => match us, hl with | [_], _ => rfl
  obtain ⟨oc, od, kV, doc, pm, an, cdg, ct, osl, rfl, lk, hcd⟩ := Fh.ex
  have nd := sc__law_heard.nd
  refine ⟨fh, c, _, _, _, _, kV, doc, pm, cdg, ct, oc, an, od, osl, mh, Fh.kp, lk, hcd, hb, sc__law_heard, Or.inl rfl, heard_givesN HN (tail_okN HN) rfl rfl rfl rfl (fun s' H' => ps_asg (pe_tup (pa_cons pe_non (pa_cons pe_non pa_nil))) (pg_tup rfl (pgs_cons (pg_name (i := 1) nd rfl (Or.inl rfl)) (pgs_cons (pg_name (i := 2) nd rfl (Or.inl rfl)) pgs_nil)))) (fun s' H' B => ?_), TB, hcode, hr⟩
  have hr := (hr.deeper (envOfC "_law_heard" (defScope s__law_heard) s'.heap.objs.size fh cdg) : Room 86 _)
  have hu := hu_of hr
  unfold den__law_heardN den__law_heardP
  exact (dss_cons (ds_if (dt_cmp op_isN ol_isN (de_var 1) de_non) (dss_one (ds_ret (de_tup (da_cons de_str (da_cons (de_var 2) da_nil))))) dss_nil) (dss_cons (ds_if (dt_truth (de_callB call_isK cl_isK (by rfl) m_isinstance bt_isinstance (da_cons (de_var 1) (da_cons (de_gref (by rfl) (HC.mg "NotOf" (by decide +kernel))) da_nil)))) (dss_one (ds_ret (de_tup (da_cons de_str (da_cons (de_xf HN.xf HN.no (de_var 1)) da_nil))))) dss_nil) (dss_cons (ds_set (i := 4) nd rfl (Or.inr rfl) (de_disp (ps := [((dC (.str "no land")), (dCB (fIsK K) (aCons (dVar 1) (aCons (dC (.ref (cs "NoLand"))) aNil)))), ((dC (.str "no path")), (dCB (fIsK K) (aCons (dVar 1) (aCons (dC (.ref (cs "NoPath"))) aNil))))]) (pps_cons de_str (de_callB call_isK cl_isK (by rfl) m_isinstance bt_isinstance (da_cons (de_var 1) (da_cons (de_gref (by rfl) (HC.mg "NoLand" (by decide +kernel))) da_nil))) (pps_cons de_str (de_callB call_isK cl_isK (by rfl) m_isinstance bt_isinstance (da_cons (de_var 1) (da_cons (de_gref (by rfl) (HC.mg "NoPath" (by decide +kernel))) da_nil))) pps_nil)))) (dss_cons (ds_expr (de_bm PySem.F.plainAttrs_dict PySem.F.slot_dict_update PySem.F.type_dict_update mt_update ml_update (de_var 4) (da_cons (de_disp (ps := [((dC (.str "too many")), (dCB (fIsK K) (aCons (dVar 1) (aCons (dC (.ref (cs "TooMany"))) aNil)))), ((dC (.str "no claims")), (dCB (fIsK K) (aCons (dVar 1) (aCons (dC (.ref (cs "NoClaims"))) aNil))))]) (pps_cons de_str (de_callB call_isK cl_isK (by rfl) m_isinstance bt_isinstance (da_cons (de_var 1) (da_cons (de_gref (by rfl) (HC.mg "TooMany" (by decide +kernel))) da_nil))) (pps_cons de_str (de_callB call_isK cl_isK (by rfl) m_isinstance bt_isinstance (da_cons (de_var 1) (da_cons (de_gref (by rfl) (HC.mg "NoClaims" (by decide +kernel))) da_nil))) pps_nil))) da_nil))) (dss_cons (ds_expr (de_bm PySem.F.plainAttrs_dict PySem.F.slot_dict_update PySem.F.type_dict_update mt_update ml_update (de_var 4) (da_cons (de_disp (ps := [((dC (.str "no thing")), (dCB (fIsK K) (aCons (dVar 1) (aCons (dC (.ref (cs "NoThing"))) aNil)))), ((dC (.str "no worth")), (dCB (fIsK K) (aCons (dVar 1) (aCons (dC (.ref (cs "NoWorth"))) aNil))))]) (pps_cons de_str (de_callB call_isK cl_isK (by rfl) m_isinstance bt_isinstance (da_cons (de_var 1) (da_cons (de_gref (by rfl) (HC.mg "NoThing" (by decide +kernel))) da_nil))) (pps_cons de_str (de_callB call_isK cl_isK (by rfl) m_isinstance bt_isinstance (da_cons (de_var 1) (da_cons (de_gref (by rfl) (HC.mg "NoWorth" (by decide +kernel))) da_nil))) pps_nil))) da_nil))) (dss_cons (ds_expr (de_bm PySem.F.plainAttrs_dict PySem.F.slot_dict_update PySem.F.type_dict_update mt_update ml_update (de_var 4) (da_cons (de_disp (ps := [((dC (.str "no book")), (dCB (fIsK K) (aCons (dVar 1) (aCons (dC (.ref (cs "BadBook"))) aNil)))), ((dC (.str "no back")), (dCB (fIsK K) (aCons (dVar 1) (aCons (dC (.ref (cs "NoBack"))) aNil))))]) (pps_cons de_str (de_callB call_isK cl_isK (by rfl) m_isinstance bt_isinstance (da_cons (de_var 1) (da_cons (de_gref (by rfl) (HC.mg "BadBook" (by decide +kernel))) da_nil))) (pps_cons de_str (de_callB call_isK cl_isK (by rfl) m_isinstance bt_isinstance (da_cons (de_var 1) (da_cons (de_gref (by rfl) (HC.mg "NoBack" (by decide +kernel))) da_nil))) pps_nil))) da_nil))) (dss_cons (ds_dput hu (de_var 4) de_str (de_callB call_isK cl_isK (by rfl) m_isinstance bt_isinstance (da_cons (de_var 1) (da_cons (de_gref (by rfl) (HC.mg "NoText" (by decide +kernel))) da_nil)))) (dss_cons (ds_setLc (i := 5) (own := [("word", 6)]) (t := (.nm 6)) false rfl rfl nd rfl rfl (sw_true rfl rfl rfl (by decide +kernel)) (di_keys (de_var 4)) (blkOk_by (N := N__law_heard) (sc := defScope s__law_heard) (by decide +kernel)) (by decide) (fun _ _ _ _ _ => (gt_name (i := 6) nd rfl (Or.inl rfl))) (fun _ _ _ _ _ => (dts_one (dt_truth (de_dget hu (de_var 4) (de_var 6))))) (fun _ _ _ _ _ => (de_var 6))) (dss_one (ds_ret (de_if (dt_w (dw_and (dt_cmp (or_eq hr.units) ol_eq (de_callB call_len cl_len rfl m_len bt_len (da_cons (de_var 5) da_nil)) de_int) (dw_and1 (dt_truth (de_callB call_isK cl_isK (by rfl) m_isinstance bt_isinstance (da_cons (de_var 1) (da_cons (de_ty rfl m_ValueError bt_ValueError) da_nil))))))) (de_tup (da_cons (de_ix (de_var 5) de_int) da_nil)) (de_tup (da_cons de_str da_nil)))))))))))))

abbrev s_is_number : Stmt := topS 14
abbrev N_is_number : List Str := ["thing", "least", "most"]
theorem sc_is_number : FnScope N_is_number ["thing", "least", "most"] (defScope s_is_number) := ⟨rfl, rfl, rfl, by decide +kernel, rfl, by decide +kernel, by decide +kernel⟩
theorem ok_is_number {P : Program} {w : World} {K : PySem.W.Frag} {mg : Str → Option Value} {base : Heap} {f : Addr} {fd : FuncData} (F : Fun K "is_number" "is_number" s_is_number f fd) (m_bool : mg "bool" = none) (m_int : mg "int" = none) (m_isinstance : mg "isinstance" = none) :
    FnOk P w K mg base (L2.CX P w) 1 f fd ["thing", "least", "most"] (spA K mg 3 S_is_number) := by
  refine fn_mk (den := den_is_number) F sc_is_number (fun cdv A outer s H E B hr tk => ?_) (bo_is_number N_is_number rfl)
  have nd := sc_is_number.nd
  exact (dss_one (ds_ret (de_and (de_callB call_isi cl_isi rfl m_isinstance bt_isinstance (da_cons (de_var 0) (da_cons (de_ty rfl m_int bt_int) da_nil))) (de_and (de_not (de_callB call_isi cl_isi rfl m_isinstance bt_isinstance (da_cons (de_var 0) (da_cons (de_ty rfl m_bool bt_bool) da_nil)))) (de_one (de_chain op_le op_le ol_B0 ol_B0 (de_var 1) (de_var 0) (de_var 2)))))))

abbrev s_is_name : Stmt := topS 15
abbrev N_is_name : List Str := ["thing", "sign"]
theorem sc_is_name : FnScope N_is_name ["thing"] (defScope s_is_name) := ⟨rfl, rfl, rfl, by decide +kernel, rfl, by decide +kernel, by decide +kernel⟩
theorem ok_is_name {P : Program} {w : World} {K : PySem.W.Frag} {mg : Str → Option Value} {base : Heap} {f : Addr} {fd : FuncData} (F : Fun K "is_name" "is_name" s_is_name f fd) (m_all : mg "all" = none) (m_isinstance : mg "isinstance" = none) (m_len : mg "len" = none) (m_str : mg "str" = none) {t_LETTERS : Tok} (c_LETTERS : mg "LETTERS" = some (.str "abcdefghijklmnopqrstuvwxyz" t_LETTERS)) :
    FnOk P w K mg base (L2.CX P w) 1 f fd ["thing"] (spA K mg 1 S_is_name) := by
  refine fn_mk (den := den_is_name) F sc_is_name (fun cdv A outer s H E B hr tk => ?_) (bo_is_name N_is_name rfl)
  have nd := sc_is_name.nd
  exact (dss_one (ds_ret (de_and (de_callB call_isi cl_isi rfl m_isinstance bt_isinstance (da_cons (de_var 0) (da_cons (de_ty rfl m_str bt_str) da_nil))) (de_and (de_chain op_le op_le ol_B0 ol_B0 de_int (de_callB call_len cl_len rfl m_len bt_len (da_cons (de_var 0) da_nil)) de_int) (de_one (de_callB (cr_all rfl) cl_all rfl m_all bt_all (da_cons (de_lc (own := [("sign", 1)]) (t := (.nm 1)) rfl nd (di_any (de_var 0)) (blkOk_by (N := N_is_name) (sc := defScope s_is_name) (by decide +kernel)) (by decide) (fun _ _ _ _ _ => (gt_name (i := 1) nd rfl (Or.inl rfl))) (fun _ _ _ _ _ => dts_nil) (fun _ _ _ _ _ => (de_cmp op_in_sign ol_inS (de_var 1) (de_gstr rfl c_LETTERS)))) da_nil)))))))

abbrev s_is_rising : Stmt := topS 16
abbrev N_is_rising : List Str := ["thing", "one", "other"]
theorem sc_is_rising : FnScope N_is_rising ["thing"] (defScope s_is_rising) := ⟨rfl, rfl, rfl, by decide +kernel, rfl, by decide +kernel, by decide +kernel⟩
theorem ok_is_rising {P : Program} {w : World} {K : PySem.W.Frag} {mg : Str → Option Value} {base : Heap} {f : Addr} {fd : FuncData} (F : Fun K "is_rising" "is_rising" s_is_rising f fd) (m_all : mg "all" = none) (m_zip : mg "zip" = none) :
    FnOk P w K mg base (L2.CX P w) 1 f fd ["thing"] (spA K mg 1 S_is_rising) := by
  refine fn_mk (den := den_is_rising) F sc_is_rising (fun cdv A outer s H E B hr tk => ?_) (bo_is_rising N_is_rising rfl)
  have nd := sc_is_rising.nd
  exact (dss_one (ds_ret (de_callB (cr_all rfl) cl_all rfl m_all bt_all (da_cons (de_lc (own := [("one", 1), ("other", 2)]) (t := (.tp [(.nm 1), (.nm 2)])) rfl nd (di_zip rfl m_zip (da_cons (de_var 0) (da_cons (de_slice (de_var 0) (do_some de_int) do_none) da_nil))) (blkOk_by (N := N_is_rising) (sc := defScope s_is_rising) (by decide +kernel)) (by decide) (fun _ _ _ _ _ => (gt_tup rfl (gts_cons (gt_name (i := 1) nd rfl (Or.inl rfl)) (gts_cons (gt_name (i := 2) nd rfl (Or.inl rfl)) gts_nil)))) (fun _ _ _ _ _ => dts_nil) (fun _ _ _ _ _ => (de_cmp (op_ltV hr.units0) ol_lt (de_var 1) (de_var 2)))) da_nil))))

abbrev s_is_pact : Stmt := topS 18
abbrev N_is_pact : List Str := ["thing", "names", "name"]
theorem sc_is_pact : FnScope N_is_pact ["thing", "names"] (defScope s_is_pact) := ⟨rfl, rfl, rfl, by decide +kernel, rfl, by decide +kernel, by decide +kernel⟩
theorem ok_is_pact {P : Program} {w : World} {K : PySem.W.Frag} {mg : Str → Option Value} {base : Heap} {f : Addr} {fd : FuncData} (F : Fun K "is_pact" "is_pact" s_is_pact f fd) (m_all : mg "all" = none) (m_isinstance : mg "isinstance" = none) (m_len : mg "len" = none) (m_str : mg "str" = none) (m_tuple : mg "tuple" = none) :
    FnOk P w K mg base (L2.CX P w) 1 f fd ["thing", "names"] (spA K mg 2 S_is_pact) := by
  refine fn_mk (den := den_is_pact) F sc_is_pact (fun cdv A outer s H E B hr tk => ?_) (bo_is_pact N_is_pact rfl)
  have nd := sc_is_pact.nd
  exact (dss_cons (ds_if (dt_w (dw_or (dt_not (dt_truth (de_callB call_isi cl_isi rfl m_isinstance bt_isinstance (da_cons (de_var 0) (da_cons (de_ty rfl m_tuple bt_tuple) da_nil))))) (dw_or (dt_cmp (or_ne hr.units) ol_ne (de_callB call_len cl_len rfl m_len bt_len (da_cons (de_var 0) da_nil)) de_int) (dw_or1 (dt_not (dt_truth (de_callB (cr_all rfl) cl_all rfl m_all bt_all (da_cons (de_lc (own := [("name", 2)]) (t := (.nm 2)) rfl nd (di_any (de_var 0)) (blkOk_by (N := N_is_pact) (sc := defScope s_is_pact) (by decide +kernel)) (by decide) (fun _ _ _ _ _ => (gt_name (i := 2) nd rfl (Or.inl rfl))) (fun _ _ _ _ _ => dts_nil) (fun _ _ _ _ _ => (de_callB call_isi cl_isi rfl m_isinstance bt_isinstance (da_cons (de_var 2) (da_cons (de_ty rfl m_str bt_str) da_nil))))) da_nil)))))))) (dss_one (ds_ret de_bl)) dss_nil) (dss_one (ds_ret (de_and (de_cmp op_in_seq ol_in (de_ix (de_var 0) de_int) (de_var 1)) (de_and (de_cmp op_in_seq ol_in (de_ix (de_var 0) de_int) (de_var 1)) (de_one (de_cmp (or_ne hr.units) ol_ne (de_ix (de_var 0) de_int) (de_ix (de_var 0) de_int))))))))

abbrev s_names_of : Stmt := topS 20
abbrev N_names_of : List Str := ["book", "land"]
theorem sc_names_of : FnScope N_names_of ["book"] (defScope s_names_of) := ⟨rfl, rfl, rfl, by decide +kernel, rfl, by decide +kernel, by decide +kernel⟩
theorem ok_names_of {P : Program} {w : World} {K : PySem.W.Frag} {mg : Str → Option Value} {base : Heap} {f : Addr} {fd : FuncData} (F : Fun K "names_of" "names_of" s_names_of f fd)  :
    FnOk P w K mg base (L2.CX P w) 1 f fd ["book"] (spA K mg 1 S_names_of) := by
  refine fn_mk (den := den_names_of) F sc_names_of (fun cdv A outer s H E B hr tk => ?_) (bo_names_of N_names_of rfl)
  have nd := sc_names_of.nd
  exact (dss_one (ds_ret (de_lc (own := [("land", 1)]) (t := (.nm 1)) rfl nd (di_any (de_ix (de_var 0) de_int)) (blkOk_by (N := N_names_of) (sc := defScope s_names_of) (by decide +kernel)) (by decide) (fun _ _ _ _ _ => (gt_name (i := 1) nd rfl (Or.inl rfl))) (fun _ _ _ _ _ => dts_nil) (fun _ _ _ _ _ => (de_ix (de_var 1) de_int)))))

abbrev s_row_of : Stmt := topS 22
abbrev N_row_of : List Str := ["book", "land", "row"]
theorem sc_row_of : FnScope N_row_of ["book", "land"] (defScope s_row_of) := ⟨rfl, rfl, rfl, by decide +kernel, rfl, by decide +kernel, by decide +kernel⟩
theorem ok_row_of {P : Program} {w : World} {K : PySem.W.Frag} {mg : Str → Option Value} {base : Heap} {f : Addr} {fd : FuncData} (F : Fun K "row_of" "row_of" s_row_of f fd)  :
    FnOk P w K mg base (L2.CX P w) 1 f fd ["book", "land"] (spA K mg 2 S_row_of) := by
  refine fn_mk (den := den_row_of) F sc_row_of (fun cdv A outer s H E B hr tk => ?_) (bo_row_of N_row_of rfl)
  have nd := sc_row_of.nd
  exact (dss_one (ds_ret (de_ix (de_lc (own := [("row", 2)]) (t := (.nm 2)) rfl nd (di_any (de_ix (de_var 0) de_int)) (blkOk_by (N := N_row_of) (sc := defScope s_row_of) (by decide +kernel)) (by decide) (fun _ _ _ _ _ => (gt_name (i := 2) nd rfl (Or.inl rfl))) (fun _ _ _ _ _ => (dts_one (dt_cmp (or_eq hr.units) ol_eq (de_ix (de_var 2) de_int) (de_var 1)))) (fun _ _ _ _ _ => (de_var 2))) de_int)))

abbrev s_takes : Stmt := topS 23
abbrev N_takes : List Str := ["book", "land", "taker", "giver"]
theorem sc_takes : FnScope N_takes ["book", "land"] (defScope s_takes) := ⟨rfl, rfl, rfl, by decide +kernel, rfl, by decide +kernel, by decide +kernel⟩
theorem ok_takes {P : Program} {w : World} {K : PySem.W.Frag} {mg : Str → Option Value} {base : Heap} {f : Addr} {fd : FuncData} (F : Fun K "takes" "takes" s_takes f fd) (m_sorted : mg "sorted" = none) (m_tuple : mg "tuple" = none) :
    FnOk P w K mg base (L2.CX P w) 1 f fd ["book", "land"] (spA K mg 2 S_takes) := by
  refine fn_mk (den := den_takes) F sc_takes (fun cdv A outer s H E B hr tk => ?_) (bo_takes N_takes rfl)
  have nd := sc_takes.nd
  exact (dss_one (ds_ret (de_callTy call_tuple_of cl_tuple rfl m_tuple bt_tuple (da_cons (de_callB cr_sortedAll cl_sorted rfl m_sorted bt_sorted (da_cons (de_op or_add ol_add (de_lst (da_cons (de_var 1) da_nil)) (de_lc (own := [("taker", 2), ("giver", 3)]) (t := (.tp [(.nm 2), (.nm 3)])) rfl nd (di_any (de_ix (de_var 0) de_int)) (blkOk_by (N := N_takes) (sc := defScope s_takes) (by decide +kernel)) (by decide) (fun _ _ _ _ _ => (gt_tup rfl (gts_cons (gt_name (i := 2) nd rfl (Or.inl rfl)) (gts_cons (gt_name (i := 3) nd rfl (Or.inl rfl)) gts_nil)))) (fun _ _ _ _ _ => (dts_one (dt_cmp (or_eq hr.units) ol_eq (de_var 2) (de_var 1)))) (fun _ _ _ _ _ => (de_var 3)))) da_nil)) da_nil))))

abbrev s_State___init__ : Stmt := inClass (topS 28) 0
abbrev N_State___init__ : List Str := ["self", "things", "lying", "gone"]
theorem sc_State___init__ : FnScope N_State___init__ ["self", "things", "lying", "gone"] (defScope s_State___init__) := ⟨rfl, rfl, rfl, by decide +kernel, rfl, by decide +kernel, by decide +kernel⟩
theorem ok_State___init__ {P : Program} {w : World} {K : PySem.W.Frag} {mg : Str → Option Value} {base : Heap} {f : Addr} {fd : FuncData} (F : Fun K "__init__" "State.__init__" s_State___init__ f fd) {G : Gx} (cl_State : Cls K (G.C "State")) (na_State_gone : NoAttr K (G.C "State") "gone") (na_State_lying : NoAttr K (G.C "State") "lying") (na_State_things : NoAttr K (G.C "State") "things") :
    FnOk P w K mg base (L2.CX P w) 1 f fd ["self", "things", "lying", "gone"] (spA K mg 4 (S_State___init__ G)) := by
  refine fn_mk (den := (den_State___init__ G)) F sc_State___init__ (fun cdv A outer s H E B hr tk => ?_) (bo_State___init__ G N_State___init__ rfl)
  have nd := sc_State___init__.nd
  exact (dss_cons (ds_fld cl_State na_State_things (de_var 0) (de_var 1)) (dss_cons (ds_fld cl_State na_State_lying (de_var 0) (de_var 2)) (dss_one (ds_fld cl_State na_State_gone (de_var 0) (de_var 3)))))

abbrev s_Yard___len__ : Stmt := inClass (topS 29) 1
abbrev N_Yard___len__ : List Str := ["self"]
theorem sc_Yard___len__ : FnScope N_Yard___len__ ["self"] (defScope s_Yard___len__) := ⟨rfl, rfl, rfl, by decide +kernel, rfl, by decide +kernel, by decide +kernel⟩
theorem ok_Yard___len__ {P : Program} {w : World} {K : PySem.W.Frag} {mg : Str → Option Value} {base : Heap} {f : Addr} {fd : FuncData} (F : Fun K "__len__" "Yard.__len__" s_Yard___len__ f fd) {G : Gx} (m_len : mg "len" = none) (cl_State : Cls K (G.C "State")) (cl_Yard : Cls K (G.C "Yard")) (na_State_lying : NoAttr K (G.C "State") "lying") (na_Yard_state : NoAttr K (G.C "Yard") "state") :
    FnOk P w K mg base (L2.CX P w) 1 f fd ["self"] (spA K mg 1 (S_Yard___len__ G)) := by
  refine fn_mk (den := (den_Yard___len__ G)) F sc_Yard___len__ (fun cdv A outer s H E B hr tk => ?_) (bo_Yard___len__ G N_Yard___len__ rfl)
  have nd := sc_Yard___len__.nd
  exact (dss_one (ds_ret (de_callB call_len cl_len rfl m_len bt_len (da_cons (de_fld cl_State na_State_lying (de_fld cl_Yard na_Yard_state (de_var 0))) da_nil))))

abbrev s_Yard_here : Stmt := inClass (topS 29) 11
abbrev N_Yard_here : List Str := ["self"]
theorem sc_Yard_here : FnScope N_Yard_here ["self"] (defScope s_Yard_here) := ⟨rfl, rfl, rfl, by decide +kernel, rfl, by decide +kernel, by decide +kernel⟩
theorem ok_Yard_here {P : Program} {w : World} {K : PySem.W.Frag} {mg : Str → Option Value} {base : Heap} {f : Addr} {fd : FuncData} (F : Fun K "here" "Yard.here" s_Yard_here f fd) {G : Gx} (m_tuple : mg "tuple" = none) (cl_State : Cls K (G.C "State")) (cl_Yard : Cls K (G.C "Yard")) (na_State_lying : NoAttr K (G.C "State") "lying") (na_Yard_state : NoAttr K (G.C "Yard") "state") :
    FnOk P w K mg base (L2.CX P w) 1 f fd ["self"] (spA K mg 1 (S_Yard_here G)) := by
  refine fn_mk (den := (den_Yard_here G)) F sc_Yard_here (fun cdv A outer s H E B hr tk => ?_) (bo_Yard_here G N_Yard_here rfl)
  have nd := sc_Yard_here.nd
  exact (dss_one (ds_ret (de_callTy call_tuple_of cl_tuple rfl m_tuple bt_tuple (da_cons (de_fld cl_State na_State_lying (de_fld cl_Yard na_Yard_state (de_var 0))) da_nil))))

abbrev s_Yard_sent : Stmt := inClass (topS 29) 15
abbrev N_Yard_sent : List Str := ["self"]
theorem sc_Yard_sent : FnScope N_Yard_sent ["self"] (defScope s_Yard_sent) := ⟨rfl, rfl, rfl, by decide +kernel, rfl, by decide +kernel, by decide +kernel⟩
theorem ok_Yard_sent {P : Program} {w : World} {K : PySem.W.Frag} {mg : Str → Option Value} {base : Heap} {f : Addr} {fd : FuncData} (F : Fun K "sent" "Yard.sent" s_Yard_sent f fd) {G : Gx} (m_tuple : mg "tuple" = none) (cl_State : Cls K (G.C "State")) (cl_Yard : Cls K (G.C "Yard")) (na_State_gone : NoAttr K (G.C "State") "gone") (na_Yard_state : NoAttr K (G.C "Yard") "state") :
    FnOk P w K mg base (L2.CX P w) 1 f fd ["self"] (spA K mg 1 (S_Yard_sent G)) := by
  refine fn_mk (den := (den_Yard_sent G)) F sc_Yard_sent (fun cdv A outer s H E B hr tk => ?_) (bo_Yard_sent G N_Yard_sent rfl)
  have nd := sc_Yard_sent.nd
  exact (dss_one (ds_ret (de_callTy call_tuple_of cl_tuple rfl m_tuple bt_tuple (da_cons (de_fld cl_State na_State_gone (de_fld cl_Yard na_Yard_state (de_var 0))) da_nil))))

abbrev s_Yard_deeds : Stmt := inClass (topS 29) 19
abbrev N_Yard_deeds : List Str := ["self", "deed", "state"]
theorem sc_Yard_deeds : FnScope N_Yard_deeds ["self"] (defScope s_Yard_deeds) := ⟨rfl, rfl, rfl, by decide +kernel, rfl, by decide +kernel, by decide +kernel⟩
theorem ok_Yard_deeds {P : Program} {w : World} {K : PySem.W.Frag} {mg : Str → Option Value} {base : Heap} {f : Addr} {fd : FuncData} (F : Fun K "deeds" "Yard.deeds" s_Yard_deeds f fd) {G : Gx} (m_tuple : mg "tuple" = none) (cl_Yard : Cls K (G.C "Yard")) (na_Yard_done : NoAttr K (G.C "Yard") "done") :
    FnOk P w K mg base (L2.CX P w) 1 f fd ["self"] (spA K mg 1 (S_Yard_deeds G)) := by
  refine fn_mk (den := (den_Yard_deeds G)) F sc_Yard_deeds (fun cdv A outer s H E B hr tk => ?_) (bo_Yard_deeds G N_Yard_deeds rfl)
  have nd := sc_Yard_deeds.nd
  exact (dss_one (ds_ret (de_callTy call_tuple_of cl_tuple rfl m_tuple bt_tuple (da_cons (de_lc (own := [("deed", 1), ("state", 2)]) (t := (.tp [(.nm 1), (.nm 2)])) rfl nd (di_any (de_fld cl_Yard na_Yard_done (de_var 0))) (blkOk_by (N := N_Yard_deeds) (sc := defScope s_Yard_deeds) (by decide +kernel)) (by decide) (fun _ _ _ _ _ => (gt_tup rfl (gts_cons (gt_name (i := 1) nd rfl (Or.inl rfl)) (gts_cons (gt_name (i := 2) nd rfl (Or.inl rfl)) gts_nil)))) (fun _ _ _ _ _ => dts_nil) (fun _ _ _ _ _ => (de_var 1))) da_nil))))

abbrev s__law_draw : Stmt := topS 32
abbrev N__law_draw : List Str := ["script", "town", "many", "at", "rest", "number"]
theorem sc__law_draw : FnScope N__law_draw ["script", "town", "many"] (defScope s__law_draw) := ⟨rfl, rfl, rfl, by decide +kernel, rfl, by decide +kernel, by decide +kernel⟩
theorem ok__law_draw {P : Program} {w : World} {K : PySem.W.Frag} {mg : Str → Option Value} {base : Heap} {f : Addr} {fd : FuncData} (F : Fun K "_law_draw" "_law_draw" s__law_draw f fd) (m_len : mg "len" = none) :
    FnOk P w K mg base (L2.CX P w) 1 f fd ["script", "town", "many"] (spA K mg 3 S__law_draw) := by
  refine fn_mk (den := den__law_draw) F sc__law_draw (fun cdv A outer s H E B hr tk => ?_) (bo__law_draw N__law_draw rfl)
  have nd := sc__law_draw.nd
  have hu := hu_of hr
  exact (dss_cons (ds_dput hu (de_var 1) de_str (de_op or_add ol_add (de_dget hu (de_var 1) de_str) de_int)) (dss_cons (ds_set (i := 3) nd rfl (Or.inl rfl) (de_if (dt_truth (de_var 0)) (de_op op_mod ol_I (de_dget hu (de_var 1) de_str) (de_callB call_len cl_len rfl m_len bt_len (da_cons (de_var 0) da_nil))) de_int)) (dss_cons (ds_set (i := 4) nd rfl (Or.inl rfl) (de_dget2 hu (de_dget hu (de_var 1) de_str) (de_var 3) (de_if (dt_truth (de_var 0)) (de_ix (de_var 0) (de_var 3)) de_int) ⟨rfl, rfl, rfl, rfl⟩)) (dss_cons (ds_if (dt_cmp op_ge ol_B0 (de_var 4) (de_op op_pow ol_I de_int de_int)) (dss_cons (ds_dput hu (de_dget hu (de_var 1) de_str) (de_var 3) (de_op op_fdiv ol_I (de_var 4) (de_var 2))) (dss_one (ds_ret (de_op op_mod ol_I (de_var 4) (de_var 2))))) dss_nil) (dss_cons (ds_set (i := 5) nd rfl (Or.inl rfl) (de_op op_mod ol_I (de_op or_add ol_add (de_var 4) (de_op or_mul ol_mul de_int (de_dget hu (de_var 1) de_str))) de_int)) (dss_cons (ds_set (i := 5) nd rfl (Or.inl rfl) (de_op op_mod ol_I (de_op op_pow ol_I (de_var 5) de_int) de_int)) (dss_one (ds_ret (de_op op_mod ol_I (de_op op_fdiv ol_I (de_op op_mod ol_I (de_op or_add ol_add (de_op or_mul ol_mul (de_op op_fdiv ol_I (de_var 5) de_int) de_int) (de_var 5)) de_int) de_int) (de_var 2))))))))))

abbrev s__law_begun : Stmt := topS 33
abbrev N__law_begun : List Str := []
theorem sc__law_begun : FnScope N__law_begun [] (defScope s__law_begun) := ⟨rfl, rfl, rfl, by decide +kernel, rfl, by decide +kernel, by decide +kernel⟩
theorem ok__law_begun {P : Program} {w : World} {K : PySem.W.Frag} {mg : Str → Option Value} {base : Heap} {f : Addr} {fd : FuncData} (F : Fun K "_law_begun" "_law_begun" s__law_begun f fd)  :
    FnOk P w K mg base (L2.CX P w) 1 f fd [] (spA K mg 0 S__law_begun) := by
  refine fn_mk (den := den__law_begun) F sc__law_begun (fun cdv A outer s H E B hr tk => ?_) (bo__law_begun N__law_begun rfl)
  have nd := sc__law_begun.nd
  exact (dss_one (ds_ret (de_disp (ps := [((dC (.str "count")), (dC (.int 0))), ((dC (.str "rests")), dNewK)]) (pps_cons de_str de_int (pps_cons de_str de_dnewK pps_nil)))))

abbrev s__law_row : Stmt := topS 36
abbrev N__law_row : List Str := ["book_here", "land_here", "row"]
theorem sc__law_row : FnScope N__law_row ["book_here", "land_here"] (defScope s__law_row) := ⟨rfl, rfl, rfl, by decide +kernel, rfl, by decide +kernel, by decide +kernel⟩
theorem ok__law_row {P : Program} {w : World} {K : PySem.W.Frag} {mg : Str → Option Value} {base : Heap} {f : Addr} {fd : FuncData} (F : Fun K "_law_row" "_law_row" s__law_row f fd)  :
    FnOk P w K mg base (L2.CX P w) 1 f fd ["book_here", "land_here"] (spA K mg 2 S__law_row) := by
  refine fn_mk (den := den__law_row) F sc__law_row (fun cdv A outer s H E B hr tk => ?_) (bo__law_row N__law_row rfl)
  have nd := sc__law_row.nd
  exact (dss_one (ds_ret (de_ix (de_lc (own := [("row", 2)]) (t := (.nm 2)) rfl nd (di_any (de_ix (de_var 0) de_int)) (blkOk_by (N := N__law_row) (sc := defScope s__law_row) (by decide +kernel)) (by decide) (fun _ _ _ _ _ => (gt_name (i := 2) nd rfl (Or.inl rfl))) (fun _ _ _ _ _ => (dts_one (dt_cmp (or_eq hr.units) ol_eq (de_ix (de_var 2) de_int) (de_var 1)))) (fun _ _ _ _ _ => (de_var 2))) de_int)))

abbrev s__law_takes : Stmt := topS 37
abbrev N__law_takes : List Str := ["book_here", "land_here", "pact"]
theorem sc__law_takes : FnScope N__law_takes ["book_here", "land_here"] (defScope s__law_takes) := ⟨rfl, rfl, rfl, by decide +kernel, rfl, by decide +kernel, by decide +kernel⟩
theorem ok__law_takes {P : Program} {w : World} {K : PySem.W.Frag} {mg : Str → Option Value} {base : Heap} {f : Addr} {fd : FuncData} (F : Fun K "_law_takes" "_law_takes" s__law_takes f fd) (m_sorted : mg "sorted" = none) :
    FnOk P w K mg base (L2.CX P w) 1 f fd ["book_here", "land_here"] (spA K mg 2 S__law_takes) := by
  refine fn_mk (den := den__law_takes) F sc__law_takes (fun cdv A outer s H E B hr tk => ?_) (bo__law_takes N__law_takes rfl)
  have nd := sc__law_takes.nd
  exact (dss_one (ds_ret (de_callB cr_sortedAll cl_sorted rfl m_sorted bt_sorted (da_cons (de_op or_add ol_add (de_lst (da_cons (de_var 1) da_nil)) (de_lc (own := [("pact", 2)]) (t := (.nm 2)) rfl nd (di_any (de_ix (de_var 0) de_int)) (blkOk_by (N := N__law_takes) (sc := defScope s__law_takes) (by decide +kernel)) (by decide) (fun _ _ _ _ _ => (gt_name (i := 2) nd rfl (Or.inl rfl))) (fun _ _ _ _ _ => (dts_one (dt_cmp (or_eq hr.units) ol_eq (de_ix (de_var 2) de_int) (de_var 1)))) (fun _ _ _ _ _ => (de_ix (de_var 2) de_int)))) da_nil))))

abbrev s__law_done : Stmt := topS 43
abbrev N__law_done : List Str := ["plain", "word", "some", "n", "rows", "gone", "one"]
theorem sc__law_done : FnScope N__law_done ["plain", "word", "some"] (defScope s__law_done) := ⟨rfl, rfl, rfl, by decide +kernel, rfl, by decide +kernel, by decide +kernel⟩
theorem ok__law_done {P : Program} {w : World} {K : PySem.W.Frag} {mg : Str → Option Value} {base : Heap} {f : Addr} {fd : FuncData} (F : Fun K "_law_done" "_law_done" s__law_done f fd) (m_len : mg "len" = none) :
    FnOk P w K mg base (L2.CX P w) 1 f fd ["plain", "word", "some"] (spA K mg 3 S__law_done) := by
  refine fn_mk (den := den__law_done) F sc__law_done (fun cdv A outer s H E B hr tk => ?_) (bo__law_done N__law_done rfl)
  have nd := sc__law_done.nd
  have hu := hu_of hr
  exact (dss_cons (ds_set (i := 3) nd rfl (Or.inl rfl) (de_callB call_len cl_len rfl m_len bt_len (da_cons (de_dget hu (de_var 0) de_str) da_nil))) (dss_cons (ds_if (dt_cmp (or_eq hr.units) ol_eq (de_var 1) de_str) (dss_cons (ds_set (i := 4) nd rfl (Or.inl rfl) (de_dget hu (de_var 0) de_str)) (dss_one (ds_dput hu (de_var 0) de_str (de_op or_add ol_add (de_op or_add ol_add (de_slice (de_var 4) do_none (do_some (de_ix (de_var 2) de_int))) (de_lst (da_cons (de_slice (de_var 2) (do_some de_int) do_none) da_nil))) (de_slice (de_var 4) (do_some (de_op or_add ol_add (de_ix (de_var 2) de_int) de_int)) do_none))))) (dss_one (ds_if (dt_cmp (or_eq hr.units) ol_eq (de_var 1) de_str) (dss_cons (ds_dput hu (de_var 0) de_str (de_lc (own := [("one", 6)]) (t := (.nm 6)) rfl nd (di_any (de_dget hu (de_var 0) de_str)) (blkOk_by (N := N__law_done) (sc := defScope s__law_done) (by decide +kernel)) (by decide) (fun _ _ _ _ _ => (gt_name (i := 6) nd rfl (Or.inl rfl))) (fun _ _ _ _ _ => (dts_one (dt_cmp (or_ne hr.units) ol_ne (de_var 6) (de_ix (de_var 2) de_int)))) (fun _ _ _ _ _ => (de_var 6)))) (dss_one (ds_dput hu (de_var 0) de_str (de_op or_add ol_add (de_dget hu (de_var 0) de_str) (de_lst (da_cons (de_var 2) da_nil)))))) (dss_cons (ds_set (i := 5) nd rfl (Or.inr rfl) (de_if (dt_cmp (or_eq hr.units) ol_eq (de_var 1) de_str) (de_ix (de_var 2) de_int) (de_tup da_nil))) (dss_cons (ds_dput hu (de_var 0) de_str (de_op or_add ol_add (de_dget hu (de_var 0) de_str) (de_lst (da_cons (de_var 2) da_nil)))) (dss_one (ds_dput hu (de_var 0) de_str (de_op or_add ol_add (de_lc (own := [("one", 6)]) (t := (.nm 6)) rfl nd (di_any (de_dget hu (de_var 0) de_str)) (blkOk_by (N := N__law_done) (sc := defScope s__law_done) (by decide +kernel)) (by decide) (fun _ _ _ _ _ => (gt_name (i := 6) nd rfl (Or.inl rfl))) (fun _ _ _ _ _ => (dts_one (dt_cmp op_notIn_seq ol_notIn (de_var 6) (de_var 5)))) (fun _ _ _ _ _ => (de_var 6))) (de_lst (da_cons (de_var 3) da_nil)))))))))) (dss_one (ds_ret (de_if (dt_cmp op_in_seq ol_in (de_var 1) (de_tup (da_cons de_str (da_cons de_str da_nil)))) (de_var 3) de_non)))))

abbrev s_is_land : Stmt := topS 17
abbrev N_is_land : List Str := ["thing"]
theorem sc_is_land : FnScope N_is_land ["thing"] (defScope s_is_land) := ⟨rfl, rfl, rfl, by decide +kernel, rfl, by decide +kernel, by decide +kernel⟩
theorem ok_is_land {P : Program} {w : World} {K : PySem.W.Frag} {mg : Str → Option Value} {base : Heap} {f : Addr} {fd : FuncData} (F : Fun K "is_land" "is_land" s_is_land f fd) (m_isinstance : mg "isinstance" = none) (m_len : mg "len" = none) (m_tuple : mg "tuple" = none) (F_is_name : FnR P w K mg base 1 "is_name" 1 S_is_name) (F_is_number : FnR P w K mg base 1 "is_number" 3 S_is_number) :
    FnOk P w K mg base (L2.CX P w) 2 f fd ["thing"] (spA K mg 1 S_is_land) := by
  refine fn_mk (den := den_is_land) F sc_is_land (fun cdv A outer s H E B hr tk => ?_) (bo_is_land N_is_land rfl)
  have nd := sc_is_land.nd
  exact (dss_cons (ds_if (dt_w (dw_or (dt_not (dt_truth (de_callB call_isi cl_isi rfl m_isinstance bt_isinstance (da_cons (de_var 0) (da_cons (de_ty rfl m_tuple bt_tuple) da_nil))))) (dw_or (dt_cmp (or_ne hr.units) ol_ne (de_callB call_len cl_len rfl m_len bt_len (da_cons (de_var 0) da_nil)) de_int) (dw_or1 (dt_not (dt_truth (de_call (F_is_name.at hr) tk (da_cons (de_ix (de_var 0) de_int) da_nil)))))))) (dss_one (ds_ret de_bl)) dss_nil) (dss_one (ds_ret (de_and (de_call (F_is_number.at hr) tk (da_cons (de_ix (de_var 0) de_int) (da_cons de_int (da_cons de_int da_nil)))) (de_and (de_call (F_is_number.at hr) tk (da_cons (de_ix (de_var 0) de_int) (da_cons de_int (da_cons (de_ix (de_var 0) de_int) da_nil)))) (de_one (de_call (F_is_number.at hr) tk (da_cons (de_ix (de_var 0) de_int) (da_cons de_int (da_cons de_int da_nil))))))))))

abbrev s_look_land : Stmt := topS 21
abbrev N_look_land : List Str := ["book", "land"]
theorem sc_look_land : FnScope N_look_land ["book", "land"] (defScope s_look_land) := ⟨rfl, rfl, rfl, by decide +kernel, rfl, by decide +kernel, by decide +kernel⟩
theorem ok_look_land {P : Program} {w : World} {K : PySem.W.Frag} {mg : Str → Option Value} {base : Heap} {f : Addr} {fd : FuncData} (F : Fun K "look_land" "look_land" s_look_land f fd) (m_isinstance : mg "isinstance" = none) (m_str : mg "str" = none) (F_names_of : FnR P w K mg base 1 "names_of" 1 S_names_of) (x_NoLand : XcR K mg "NoLand") :
    FnOk P w K mg base (L2.CX P w) 2 f fd ["book", "land"] (spA K mg 2 S_look_land) := by
  refine fn_mk (den := den_look_land) F sc_look_land (fun cdv A outer s H E B hr tk => ?_) (bo_look_land N_look_land rfl)
  have nd := sc_look_land.nd
  exact (dss_one (ds_if (dt_w (dw_or (dt_not (dt_truth (de_callB call_isi cl_isi rfl m_isinstance bt_isinstance (da_cons (de_var 1) (da_cons (de_ty rfl m_str bt_str) da_nil))))) (dw_or1 (dt_cmp op_notIn_seq ol_notIn (de_var 1) (de_call (F_names_of.at hr) tk (da_cons (de_var 0) da_nil)))))) (dss_one (ds_raise x_NoLand tk)) dss_nil))

abbrev s_is_enough : Stmt := topS 24
abbrev N_is_enough : List Str := ["book", "land", "counting", "whole", "name", "part", "parts", "price"]
theorem sc_is_enough : FnScope N_is_enough ["book", "land", "counting", "whole"] (defScope s_is_enough) := ⟨rfl, rfl, rfl, by decide +kernel, rfl, by decide +kernel, by decide +kernel⟩
theorem ok_is_enough {P : Program} {w : World} {K : PySem.W.Frag} {mg : Str → Option Value} {base : Heap} {f : Addr} {fd : FuncData} (F : Fun K "is_enough" "is_enough" s_is_enough f fd) (F_row_of : FnR P w K mg base 1 "row_of" 2 S_row_of) :
    FnOk P w K mg base (L2.CX P w) 2 f fd ["book", "land", "counting", "whole"] (spA K mg 4 S_is_enough) := by
  refine fn_mk (den := den_is_enough) F sc_is_enough (fun cdv A outer s H E B hr tk => ?_) (bo_is_enough N_is_enough rfl)
  have nd := sc_is_enough.nd
  exact (dss_cons (ds_asg (t := (.tp [(.nm 4), (.nm 5), (.nm 6), (.nm 7)])) (de_call (F_row_of.at hr) tk (da_cons (de_var 0) (da_cons (de_var 1) da_nil))) (gt_tup rfl (gts_cons (gt_name (i := 4) nd rfl (Or.inl rfl)) (gts_cons (gt_name (i := 5) nd rfl (Or.inl rfl)) (gts_cons (gt_name (i := 6) nd rfl (Or.inl rfl)) (gts_cons (gt_name (i := 7) nd rfl (Or.inl rfl)) gts_nil)))))) (dss_one (ds_ret (de_cmp op_ge ol_B0 (de_op or_mul ol_mul (de_var 2) (de_var 6)) (de_op or_mul ol_mul (de_var 3) (de_var 5))))))

abbrev s_is_none_or_land : Stmt := topS 26
abbrev N_is_none_or_land : List Str := ["book", "thing"]
theorem sc_is_none_or_land : FnScope N_is_none_or_land ["book", "thing"] (defScope s_is_none_or_land) := ⟨rfl, rfl, rfl, by decide +kernel, rfl, by decide +kernel, by decide +kernel⟩
theorem ok_is_none_or_land {P : Program} {w : World} {K : PySem.W.Frag} {mg : Str → Option Value} {base : Heap} {f : Addr} {fd : FuncData} (F : Fun K "is_none_or_land" "is_none_or_land" s_is_none_or_land f fd) (m_isinstance : mg "isinstance" = none) (m_str : mg "str" = none) (F_names_of : FnR P w K mg base 1 "names_of" 1 S_names_of) :
    FnOk P w K mg base (L2.CX P w) 2 f fd ["book", "thing"] (spA K mg 2 S_is_none_or_land) := by
  refine fn_mk (den := den_is_none_or_land) F sc_is_none_or_land (fun cdv A outer s H E B hr tk => ?_) (bo_is_none_or_land N_is_none_or_land rfl)
  have nd := sc_is_none_or_land.nd
  exact (dss_one (ds_ret (de_or (de_cmp op_isN ol_isN (de_var 1) de_non) (de_one (de_and (de_callB call_isi cl_isi rfl m_isinstance bt_isinstance (da_cons (de_var 1) (da_cons (de_ty rfl m_str bt_str) da_nil))) (de_one (de_cmp op_in_seq ol_in (de_var 1) (de_call (F_names_of.at hr) tk (da_cons (de_var 0) da_nil)))))))))

abbrev s_Yard_look_thing : Stmt := inClass (topS 29) 6
abbrev N_Yard_look_thing : List Str := ["self", "thing"]
theorem sc_Yard_look_thing : FnScope N_Yard_look_thing ["self", "thing"] (defScope s_Yard_look_thing) := ⟨rfl, rfl, rfl, by decide +kernel, rfl, by decide +kernel, by decide +kernel⟩
theorem ok_Yard_look_thing {P : Program} {w : World} {K : PySem.W.Frag} {mg : Str → Option Value} {base : Heap} {f : Addr} {fd : FuncData} (F : Fun K "look_thing" "Yard.look_thing" s_Yard_look_thing f fd) {G : Gx} (m_len : mg "len" = none) (F_is_number : FnR P w K mg base 1 "is_number" 3 S_is_number) (cl_State : Cls K (G.C "State")) (cl_Yard : Cls K (G.C "Yard")) (na_State_things : NoAttr K (G.C "State") "things") (na_Yard_state : NoAttr K (G.C "Yard") "state") (x_NoThing : XcR K mg "NoThing") :
    FnOk P w K mg base (L2.CX P w) 2 f fd ["self", "thing"] (spA K mg 2 (S_Yard_look_thing G)) := by
  refine fn_mk (den := (den_Yard_look_thing G)) F sc_Yard_look_thing (fun cdv A outer s H E B hr tk => ?_) (bo_Yard_look_thing G N_Yard_look_thing rfl)
  have nd := sc_Yard_look_thing.nd
  exact (dss_one (ds_if (dt_not (dt_truth (de_call (F_is_number.at hr) tk (da_cons (de_var 1) (da_cons de_int (da_cons (de_op op_sub ol_I0 (de_callB call_len cl_len rfl m_len bt_len (da_cons (de_fld cl_State na_State_things (de_fld cl_Yard na_Yard_state (de_var 0))) da_nil)) de_int) da_nil)))))) (dss_one (ds_raise x_NoThing tk)) dss_nil))

abbrev s__law_a_book : Stmt := topS 34
abbrev N__law_a_book : List Str := ["script", "town", "names", "lands", "pacts", "name", "parts", "taker", "giver"]
theorem sc__law_a_book : FnScope N__law_a_book ["script", "town"] (defScope s__law_a_book) := ⟨rfl, rfl, rfl, by decide +kernel, rfl, by decide +kernel, by decide +kernel⟩
theorem ok__law_a_book {P : Program} {w : World} {K : PySem.W.Frag} {mg : Str → Option Value} {base : Heap} {f : Addr} {fd : FuncData} (F : Fun K "_law_a_book" "_law_a_book" s__law_a_book f fd) (m_tuple : mg "tuple" = none) (F__law_draw : FnR P w K mg base 1 "_law_draw" 3 S__law_draw) :
    FnOk P w K mg base (L2.CX P w) 2 f fd ["script", "town"] (spA K mg 2 S__law_a_book) := by
  refine fn_mk (den := den__law_a_book) F sc__law_a_book (fun cdv A outer s H E B hr tk => ?_) (bo__law_a_book N__law_a_book rfl)
  have nd := sc__law_a_book.nd
  exact (dss_cons (ds_par3 (i := 2) (j := 3) (l := 4) rfl nd rfl rfl rfl (by decide) (by decide) (by decide) rfl rfl rfl (da_cons (de_slice (de_tup (da_cons de_str (da_cons de_str (da_cons de_str da_nil)))) do_none (do_some (de_op or_add ol_add de_int (de_call (F__law_draw.at hr) tk (da_cons (de_var 0) (da_cons (de_var 1) (da_cons de_int da_nil))))))) (da_cons (de_lstH da_nil) (da_cons (de_lstH da_nil) da_nil)))) (dss_cons (ds_for (t := (.nm 5)) (passes_of rfl) rfl (di_any (de_var 2)) (gt_name (i := 5) nd rfl (Or.inl rfl)) (dss_cons (ds_set (i := 6) nd rfl (Or.inl rfl) (de_op or_add ol_add de_int (de_call (F__law_draw.at hr) tk (da_cons (de_var 0) (da_cons (de_var 1) (da_cons de_int da_nil)))))) (dss_one (ds_expr (de_bm PySem.F.plainAttrs_list PySem.F.slot_list_append PySem.F.type_list_append mt_append ml_append (de_var 3) (da_cons (de_tup (da_cons (de_var 5) (da_cons (de_op or_add ol_add de_int (de_call (F__law_draw.at hr) tk (da_cons (de_var 0) (da_cons (de_var 1) (da_cons (de_var 6) da_nil))))) (da_cons (de_var 6) (da_cons (de_call (F__law_draw.at hr) tk (da_cons (de_var 0) (da_cons (de_var 1) (da_cons de_int da_nil)))) da_nil))))) da_nil)))))) (dss_cons (ds_for (t := (.nm 7)) (passes_of rfl) rfl (di_any (de_var 2)) (gt_name (i := 7) nd rfl (Or.inl rfl)) (dss_one (ds_for (t := (.nm 8)) (passes_of rfl) rfl (di_any (de_var 2)) (gt_name (i := 8) nd rfl (Or.inl rfl)) (dss_one (ds_if (dt_w (dw_and (dt_cmp (or_ne hr.units) ol_ne (de_var 7) (de_var 8)) (dw_and1 (dt_cmp (or_eq hr.units) ol_eq (de_call (F__law_draw.at hr) tk (da_cons (de_var 0) (da_cons (de_var 1) (da_cons de_int da_nil)))) de_int)))) (dss_one (ds_expr (de_bm PySem.F.plainAttrs_list PySem.F.slot_list_append PySem.F.type_list_append mt_append ml_append (de_var 4) (da_cons (de_tup (da_cons (de_var 7) (da_cons (de_var 8) da_nil))) da_nil)))) dss_nil))))) (dss_one (ds_ret (de_tup (da_cons (de_callTy call_tuple_of cl_tuple rfl m_tuple bt_tuple (da_cons (de_var 3) da_nil)) (da_cons (de_callTy call_tuple_of cl_tuple rfl m_tuple bt_tuple (da_cons (de_var 4) da_nil)) da_nil))))))))

abbrev s__law_has_share : Stmt := topS 38
abbrev N__law_has_share : List Str := ["book_here", "land_here", "counting", "whole", "row"]
theorem sc__law_has_share : FnScope N__law_has_share ["book_here", "land_here", "counting", "whole"] (defScope s__law_has_share) := ⟨rfl, rfl, rfl, by decide +kernel, rfl, by decide +kernel, by decide +kernel⟩
theorem ok__law_has_share {P : Program} {w : World} {K : PySem.W.Frag} {mg : Str → Option Value} {base : Heap} {f : Addr} {fd : FuncData} (F : Fun K "_law_has_share" "_law_has_share" s__law_has_share f fd) (F__law_row : FnR P w K mg base 1 "_law_row" 2 S__law_row) :
    FnOk P w K mg base (L2.CX P w) 2 f fd ["book_here", "land_here", "counting", "whole"] (spA K mg 4 S__law_has_share) := by
  refine fn_mk (den := den__law_has_share) F sc__law_has_share (fun cdv A outer s H E B hr tk => ?_) (bo__law_has_share N__law_has_share rfl)
  have nd := sc__law_has_share.nd
  exact (dss_cons (ds_set (i := 4) nd rfl (Or.inl rfl) (de_call (F__law_row.at hr) tk (da_cons (de_var 0) (da_cons (de_var 1) da_nil)))) (dss_one (ds_ret (de_cmp op_ge ol_B0 (de_op or_mul ol_mul (de_var 2) (de_ix (de_var 4) de_int)) (de_op or_mul ol_mul (de_var 3) (de_ix (de_var 4) de_int))))))

abbrev s__law_a_deed : Stmt := topS 41
abbrev N__law_a_deed : List Str := ["script", "town", "book_here", "plain", "land_here", "many", "names", "word", "one", "two", "here", "some", "worth", "other", "k"]
theorem sc__law_a_deed : FnScope N__law_a_deed ["script", "town", "book_here", "plain"] (defScope s__law_a_deed) := ⟨rfl, rfl, rfl, by decide +kernel, rfl, by decide +kernel, by decide +kernel⟩
theorem ok__law_a_deed {P : Program} {w : World} {K : PySem.W.Frag} {mg : Str → Option Value} {base : Heap} {f : Addr} {fd : FuncData} (F : Fun K "_law_a_deed" "_law_a_deed" s__law_a_deed f fd) (m_len : mg "len" = none) (m_range : mg "range" = none) (m_set : mg "set" = none) (m_sorted : mg "sorted" = none) (m_tuple : mg "tuple" = none) (F__law_draw : FnR P w K mg base 1 "_law_draw" 3 S__law_draw) :
    FnOk P w K mg base (L2.CX P w) 2 f fd ["script", "town", "book_here", "plain"] (spA K mg 4 S__law_a_deed) := by
  refine fn_mk (den := den__law_a_deed) F sc__law_a_deed (fun cdv A outer s H E B hr tk => ?_) (bo__law_a_deed N__law_a_deed rfl)
  have nd := sc__law_a_deed.nd
  have hu := hu_of hr
  exact (dss_cons (ds_par2 (i := 5) (j := 6) rfl nd rfl rfl (by decide) rfl rfl (da_cons (de_callB call_len cl_len rfl m_len bt_len (da_cons (de_dget hu (de_var 3) de_str) da_nil)) (da_cons (de_lc (own := [("land_here", 4)]) (t := (.nm 4)) rfl nd (di_any (de_ix (de_var 2) de_int)) (blkOk_by (N := N__law_a_deed) (sc := defScope s__law_a_deed) (by decide +kernel)) (by decide) (fun _ _ _ _ _ => (gt_name (i := 4) nd rfl (Or.inl rfl))) (fun _ _ _ _ _ => dts_nil) (fun _ _ _ _ _ => (de_ix (de_var 4) de_int))) da_nil))) (dss_cons (ds_set (i := 7) nd rfl (Or.inl rfl) (de_ix (de_lst (da_cons de_str (da_cons de_str (da_cons de_str (da_cons de_str (da_cons de_str (da_cons de_str da_nil))))))) (de_call (F__law_draw.at hr) tk (da_cons (de_var 0) (da_cons (de_var 1) (da_cons de_int da_nil)))))) (dss_cons (ds_set (i := 4) nd rfl (Or.inl rfl) (de_ix (de_var 6) (de_call (F__law_draw.at hr) tk (da_cons (de_var 0) (da_cons (de_var 1) (da_cons (de_callB call_len cl_len rfl m_len bt_len (da_cons (de_var 6) da_nil)) da_nil)))))) (dss_cons (ds_par2 (i := 8) (j := 9) rfl nd rfl rfl (by decide) rfl rfl (da_cons (de_call (F__law_draw.at hr) tk (da_cons (de_var 0) (da_cons (de_var 1) (da_cons (de_op or_add ol_add (de_var 5) de_int) da_nil)))) (da_cons (de_call (F__law_draw.at hr) tk (da_cons (de_var 0) (da_cons (de_var 1) (da_cons (de_op or_add ol_add (de_var 5) de_int) da_nil)))) da_nil))) (dss_cons (ds_if (dt_cmp (or_eq hr.units) ol_eq (de_var 7) de_str) (dss_cons (ds_set (i := 10) nd rfl (Or.inr rfl) (de_dget hu (de_var 3) de_str)) (dss_cons (ds_set (i := 11) nd rfl (Or.inl rfl) (de_lst (da_cons de_int da_nil))) (dss_cons (ds_if (dt_cmp (or_ne hr.units) ol_ne (de_var 10) (de_lst da_nil)) (dss_one (ds_setLc (i := 11) (own := [("k", 14)]) (t := (.nm 14)) false rfl rfl nd rfl rfl (sw_true rfl rfl rfl (by decide +kernel)) (di_range1 rfl m_range (da_cons (de_op or_add ol_add de_int (de_call (F__law_draw.at hr) tk (da_cons (de_var 0) (da_cons (de_var 1) (da_cons de_int da_nil))))) da_nil)) (blkOk_by (N := N__law_a_deed) (sc := defScope s__law_a_deed) (by decide +kernel)) (by decide) (fun _ _ _ _ _ => (gt_name (i := 14) nd rfl (Or.inl rfl))) (fun _ _ _ _ _ => dts_nil) (fun _ _ _ _ _ => (de_ix (de_var 10) (de_call (F__law_draw.at hr) takesF (da_cons (de_var 0) (da_cons (de_var 1) (da_cons (de_callB call_len cl_len rfl m_len bt_len (da_cons (de_var 10) da_nil)) da_nil)))))))) dss_nil) (dss_cons (ds_set (i := 11) nd rfl (Or.inl rfl) (de_if (dt_cmp op_gt ol_B0 (de_call (F__law_draw.at hr) tk (da_cons (de_var 0) (da_cons (de_var 1) (da_cons de_int da_nil)))) de_int) (de_sortSet rfl m_sorted rfl m_set (de_var 11)) (de_op or_add ol_add (de_var 11) (de_lst (da_cons (de_var 9) da_nil))))) (dss_one (ds_ret (de_tup (da_cons (de_var 7) (da_cons (de_tup (da_cons (de_if (dt_cmp op_gt ol_B0 (de_call (F__law_draw.at hr) tk (da_cons (de_var 0) (da_cons (de_var 1) (da_cons de_int da_nil)))) de_int) (de_var 4) de_str) (da_cons (de_callTy call_tuple_of cl_tuple rfl m_tuple bt_tuple (da_cons (de_var 11) da_nil)) da_nil))) da_nil))))))))) dss_nil) (dss_cons (ds_if (dt_cmp (or_eq hr.units) ol_eq (de_var 7) de_str) (dss_cons (ds_if (dt_w (dw_and (dt_cmp (or_ne hr.units) ol_ne (de_dget hu (de_var 3) de_str) (de_lst da_nil)) (dw_and1 (dt_cmp op_gt ol_B0 (de_call (F__law_draw.at hr) tk (da_cons (de_var 0) (da_cons (de_var 1) (da_cons de_int da_nil)))) de_int)))) (dss_one (ds_set (i := 8) nd rfl (Or.inl rfl) (de_ix (de_dget hu (de_var 3) de_str) (de_call (F__law_draw.at hr) tk (da_cons (de_var 0) (da_cons (de_var 1) (da_cons (de_callB call_len cl_len rfl m_len bt_len (da_cons (de_dget hu (de_var 3) de_str) da_nil)) da_nil))))))) dss_nil) (dss_one (ds_ret (de_tup (da_cons (de_var 7) (da_cons (de_tup (da_cons (de_var 8) (da_cons (de_if (dt_cmp op_gt ol_B0 (de_call (F__law_draw.at hr) tk (da_cons (de_var 0) (da_cons (de_var 1) (da_cons de_int da_nil)))) de_int) (de_var 4) de_str) da_nil))) da_nil)))))) dss_nil) (dss_cons (ds_set (i := 12) nd rfl (Or.inl rfl) (de_op or_add ol_add de_int (de_call (F__law_draw.at hr) tk (da_cons (de_var 0) (da_cons (de_var 1) (da_cons de_int da_nil)))))) (dss_cons (ds_set (i := 12) nd rfl (Or.inl rfl) (de_if (dt_cmp op_gt ol_B0 (de_call (F__law_draw.at hr) tk (da_cons (de_var 0) (da_cons (de_var 1) (da_cons de_int da_nil)))) de_int) (de_var 12) (de_ix (de_lst (da_cons de_int (da_cons de_int da_nil))) (de_call (F__law_draw.at hr) tk (da_cons (de_var 0) (da_cons (de_var 1) (da_cons de_int da_nil))))))) (dss_cons (ds_set (i := 13) nd rfl (Or.inl rfl) (de_if (dt_cmp op_gt ol_B0 (de_call (F__law_draw.at hr) tk (da_cons (de_var 0) (da_cons (de_var 1) (da_cons de_int da_nil)))) de_int) (de_ix (de_op or_add ol_add (de_var 6) (de_lst (da_cons de_non (da_cons de_non da_nil)))) (de_call (F__law_draw.at hr) tk (da_cons (de_var 0) (da_cons (de_var 1) (da_cons (de_op or_add ol_add (de_callB call_len cl_len rfl m_len bt_len (da_cons (de_var 6) da_nil)) de_int) da_nil))))) de_str)) (dss_one (ds_ret (de_tup (da_cons (de_var 7) (da_cons (de_if (dt_cmp (or_eq hr.units) ol_eq (de_var 7) de_str) (de_tup (da_cons (de_var 12) (da_cons (de_var 13) da_nil))) (de_tup (da_cons (de_var 8) (da_cons (de_var 12) (da_cons (de_var 13) da_nil))))) da_nil))))))))))))))

abbrev s_is_book : Stmt := topS 19
abbrev N_is_book : List Str := ["thing", "lands", "pacts", "names", "land", "pact"]
theorem sc_is_book : FnScope N_is_book ["thing"] (defScope s_is_book) := ⟨rfl, rfl, rfl, by decide +kernel, rfl, by decide +kernel, by decide +kernel⟩
theorem ok_is_book {P : Program} {w : World} {K : PySem.W.Frag} {mg : Str → Option Value} {base : Heap} {f : Addr} {fd : FuncData} (F : Fun K "is_book" "is_book" s_is_book f fd) (m_all : mg "all" = none) (m_isinstance : mg "isinstance" = none) (m_len : mg "len" = none) (m_tuple : mg "tuple" = none) (F_is_land : FnR P w K mg base 2 "is_land" 1 S_is_land) (F_is_pact : FnR P w K mg base 1 "is_pact" 2 S_is_pact) (F_is_rising : FnR P w K mg base 1 "is_rising" 1 S_is_rising) :
    FnOk P w K mg base (L2.CX P w) 3 f fd ["thing"] (spA K mg 1 S_is_book) := by
  refine fn_mk (den := den_is_book) F sc_is_book (fun cdv A outer s H E B hr tk => ?_) (bo_is_book N_is_book rfl)
  have nd := sc_is_book.nd
  exact (dss_cons (ds_if (dt_w (dw_or (dt_not (dt_truth (de_callB call_isi cl_isi rfl m_isinstance bt_isinstance (da_cons (de_var 0) (da_cons (de_ty rfl m_tuple bt_tuple) da_nil))))) (dw_or (dt_cmp (or_ne hr.units) ol_ne (de_callB call_len cl_len rfl m_len bt_len (da_cons (de_var 0) da_nil)) de_int) (dw_or1 (dt_not (dt_truth (de_callB call_isi cl_isi rfl m_isinstance bt_isinstance (da_cons (de_ix (de_var 0) de_int) (da_cons (de_ty rfl m_tuple bt_tuple) da_nil))))))))) (dss_one (ds_ret de_bl)) dss_nil) (dss_cons (ds_asg (t := (.tp [(.nm 1), (.nm 2)])) (de_var 0) (gt_tup rfl (gts_cons (gt_name (i := 1) nd rfl (Or.inl rfl)) (gts_cons (gt_name (i := 2) nd rfl (Or.inl rfl)) gts_nil)))) (dss_cons (ds_if (dt_w (dw_or (dt_not (dt_chain op_le op_le ol_B0 ol_B0 de_int (de_callB call_len cl_len rfl m_len bt_len (da_cons (de_var 1) da_nil)) de_int)) (dw_or1 (dt_not (dt_truth (de_callB (cr_all rfl) cl_all rfl m_all bt_all (da_cons (de_lc (own := [("land", 4)]) (t := (.nm 4)) rfl nd (di_any (de_var 1)) (blkOk_by (N := N_is_book) (sc := defScope s_is_book) (by decide +kernel)) (by decide) (fun _ _ _ _ _ => (gt_name (i := 4) nd rfl (Or.inl rfl))) (fun _ _ _ _ _ => dts_nil) (fun _ _ _ _ _ => (de_call (F_is_land.at hr) takesF (da_cons (de_var 4) da_nil)))) da_nil))))))) (dss_one (ds_ret de_bl)) dss_nil) (dss_cons (ds_set (i := 3) nd rfl (Or.inr rfl) (de_lc (own := [("land", 4)]) (t := (.nm 4)) rfl nd (di_any (de_var 1)) (blkOk_by (N := N_is_book) (sc := defScope s_is_book) (by decide +kernel)) (by decide) (fun _ _ _ _ _ => (gt_name (i := 4) nd rfl (Or.inl rfl))) (fun _ _ _ _ _ => dts_nil) (fun _ _ _ _ _ => (de_ix (de_var 4) de_int)))) (dss_cons (ds_if (dt_w (dw_or (dt_not (dt_truth (de_call (F_is_rising.at hr) tk (da_cons (de_var 3) da_nil)))) (dw_or (dt_not (dt_truth (de_callB call_isi cl_isi rfl m_isinstance bt_isinstance (da_cons (de_var 2) (da_cons (de_ty rfl m_tuple bt_tuple) da_nil))))) (dw_or1 (dt_not (dt_truth (de_callB (cr_all rfl) cl_all rfl m_all bt_all (da_cons (de_lc (own := [("pact", 5)]) (t := (.nm 5)) rfl nd (di_any (de_var 2)) (blkOk_by (N := N_is_book) (sc := defScope s_is_book) (by decide +kernel)) (by decide) (fun _ _ _ _ _ => (gt_name (i := 5) nd rfl (Or.inl rfl))) (fun _ _ _ _ _ => dts_nil) (fun _ _ _ _ _ => (de_call (F_is_pact.at hr) takesF (da_cons (de_var 5) (da_cons (de_var 3) da_nil))))) da_nil)))))))) (dss_one (ds_ret de_bl)) dss_nil) (dss_one (ds_ret (de_call (F_is_rising.at hr) tk (da_cons (de_var 2) da_nil)))))))))

abbrev s_Yard_become : Stmt := inClass (topS 29) 4
abbrev N_Yard_become : List Str := ["self", "deed", "things", "lying", "gone"]
theorem sc_Yard_become : FnScope N_Yard_become ["self", "deed", "things", "lying", "gone"] (defScope s_Yard_become) := ⟨rfl, rfl, rfl, by decide +kernel, rfl, by decide +kernel, by decide +kernel⟩
theorem ok_Yard_become {P : Program} {w : World} {K : PySem.W.Frag} {mg : Str → Option Value} {base : Heap} {f : Addr} {fd : FuncData} (F : Fun K "become" "Yard.become" s_Yard_become f fd) {G : Gx} (cl_Yard : Cls K (G.C "Yard")) (na_Yard_done : NoAttr K (G.C "Yard") "done") (na_Yard_state : NoAttr K (G.C "Yard") "state") (na_Yard_undone : NoAttr K (G.C "Yard") "undone") (MK_State : MkR P w K mg base 1 "State" (G.C "State") 4 (S_State___init__ G)) :
    FnOk P w K mg base (L2.CX P w) 3 f fd ["self", "deed", "things", "lying", "gone"] (spA K mg 5 (S_Yard_become G)) := by
  refine fn_mk (den := (den_Yard_become G)) F sc_Yard_become (fun cdv A outer s H E B hr tk => ?_) (bo_Yard_become G N_Yard_become rfl)
  have nd := sc_Yard_become.nd
  exact (dss_cons (ds_expr (de_bm PySem.F.plainAttrs_list PySem.F.slot_list_append PySem.F.type_list_append mt_append ml_append (de_fld cl_Yard na_Yard_done (de_var 0)) (da_cons (de_tup (da_cons (de_var 1) (da_cons (de_fld cl_Yard na_Yard_state (de_var 0)) da_nil))) da_nil))) (dss_cons (ds_fld cl_Yard na_Yard_undone (de_var 0) (de_lstH da_nil)) (dss_one (ds_fld cl_Yard na_Yard_state (de_var 0) (de_new (MK_State.at hr) tk (da_cons (de_var 2) (da_cons (de_var 3) (da_cons (de_var 4) da_nil))))))))

abbrev s_Yard_look_worth : Stmt := inClass (topS 29) 5
abbrev N_Yard_look_worth : List Str := ["self", "worth", "land"]
theorem sc_Yard_look_worth : FnScope N_Yard_look_worth ["self", "worth", "land"] (defScope s_Yard_look_worth) := ⟨rfl, rfl, rfl, by decide +kernel, rfl, by decide +kernel, by decide +kernel⟩
theorem ok_Yard_look_worth {P : Program} {w : World} {K : PySem.W.Frag} {mg : Str → Option Value} {base : Heap} {f : Addr} {fd : FuncData} (F : Fun K "look_worth" "Yard.look_worth" s_Yard_look_worth f fd) {G : Gx} (F_is_none_or_land : FnR P w K mg base 2 "is_none_or_land" 2 S_is_none_or_land) (F_is_number : FnR P w K mg base 1 "is_number" 3 S_is_number) (cl_Yard : Cls K (G.C "Yard")) (na_Yard_book : NoAttr K (G.C "Yard") "book") (x_NoLand : XcR K mg "NoLand") (x_NoWorth : XcR K mg "NoWorth") :
    FnOk P w K mg base (L2.CX P w) 3 f fd ["self", "worth", "land"] (spA K mg 3 (S_Yard_look_worth G)) := by
  refine fn_mk (den := (den_Yard_look_worth G)) F sc_Yard_look_worth (fun cdv A outer s H E B hr tk => ?_) (bo_Yard_look_worth G N_Yard_look_worth rfl)
  have nd := sc_Yard_look_worth.nd
  exact (dss_cons (ds_if (dt_not (dt_truth (de_call (F_is_number.at hr) tk (da_cons (de_var 1) (da_cons de_int (da_cons de_int da_nil)))))) (dss_one (ds_raise x_NoWorth tk)) dss_nil) (dss_one (ds_if (dt_not (dt_truth (de_call (F_is_none_or_land.at hr) tk (da_cons (de_fld cl_Yard na_Yard_book (de_var 0)) (da_cons (de_var 2) da_nil))))) (dss_one (ds_raise x_NoLand tk)) dss_nil)))

abbrev s_Yard___init__ : Stmt := inClass (topS 29) 0
abbrev N_Yard___init__ : List Str := ["self", "book"]
theorem sc_Yard___init__ : FnScope N_Yard___init__ ["self", "book"] (defScope s_Yard___init__) := ⟨rfl, rfl, rfl, by decide +kernel, rfl, by decide +kernel, by decide +kernel⟩
theorem ok_Yard___init__ {P : Program} {w : World} {K : PySem.W.Frag} {mg : Str → Option Value} {base : Heap} {f : Addr} {fd : FuncData} (F : Fun K "__init__" "Yard.__init__" s_Yard___init__ f fd) {G : Gx} (F_is_book : FnR P w K mg base 3 "is_book" 1 S_is_book) (cl_Yard : Cls K (G.C "Yard")) (na_Yard_book : NoAttr K (G.C "Yard") "book") (na_Yard_done : NoAttr K (G.C "Yard") "done") (na_Yard_state : NoAttr K (G.C "Yard") "state") (na_Yard_undone : NoAttr K (G.C "Yard") "undone") (MK_State : MkR P w K mg base 1 "State" (G.C "State") 4 (S_State___init__ G)) (x_BadBook : XcR K mg "BadBook") :
    FnOk P w K mg base (L2.CX P w) 4 f fd ["self", "book"] (spA K mg 2 (S_Yard___init__ G)) := by
  refine fn_mk (den := (den_Yard___init__ G)) F sc_Yard___init__ (fun cdv A outer s H E B hr tk => ?_) (bo_Yard___init__ G N_Yard___init__ rfl)
  have nd := sc_Yard___init__.nd
  exact (dss_cons (ds_if (dt_not (dt_truth (de_call (F_is_book.at hr) tk (da_cons (de_var 1) da_nil)))) (dss_one (ds_raise x_BadBook tk)) dss_nil) (dss_cons (ds_fld cl_Yard na_Yard_book (de_var 0) (de_var 1)) (dss_cons (ds_fld cl_Yard na_Yard_state (de_var 0) (de_new (MK_State.at hr) tk (da_cons (de_lst da_nil) (da_cons (de_lst da_nil) (da_cons (de_lst da_nil) da_nil))))) (dss_cons (ds_fld cl_Yard na_Yard_done (de_var 0) (de_lstH da_nil)) (dss_one (ds_fld cl_Yard na_Yard_undone (de_var 0) (de_lstH da_nil)))))))

abbrev s_Yard_take_in : Stmt := inClass (topS 29) 7
abbrev N_Yard_take_in : List Str := ["self", "worth", "land", "state", "n"]
theorem sc_Yard_take_in : FnScope N_Yard_take_in ["self", "worth", "land"] (defScope s_Yard_take_in) := ⟨rfl, rfl, rfl, by decide +kernel, rfl, by decide +kernel, by decide +kernel⟩
theorem ok_Yard_take_in {P : Program} {w : World} {K : PySem.W.Frag} {mg : Str → Option Value} {base : Heap} {f : Addr} {fd : FuncData} (F : Fun K "take_in" "Yard.take_in" s_Yard_take_in f fd) {G : Gx} (m_len : mg "len" = none) (cl_State : Cls K (G.C "State")) (cl_Yard : Cls K (G.C "Yard")) (na_State_gone : NoAttr K (G.C "State") "gone") (na_State_lying : NoAttr K (G.C "State") "lying") (na_State_things : NoAttr K (G.C "State") "things") (na_Yard_state : NoAttr K (G.C "Yard") "state") (M_Yard_become : MtR P w K mg base 3 (G.C "Yard") "become" 5 (S_Yard_become G)) (M_Yard_look_worth : MtR P w K mg base 3 (G.C "Yard") "look_worth" 3 (S_Yard_look_worth G)) :
    FnOk P w K mg base (L2.CX P w) 4 f fd ["self", "worth", "land"] (spA K mg 3 (S_Yard_take_in G)) := by
  refine fn_mk (den := (den_Yard_take_in G)) F sc_Yard_take_in (fun cdv A outer s H E B hr tk => ?_) (bo_Yard_take_in G N_Yard_take_in rfl)
  have nd := sc_Yard_take_in.nd
  exact (dss_cons (ds_expr (de_meth cl_Yard (M_Yard_look_worth.at hr) tk (de_var 0) (da_cons (de_var 1) (da_cons (de_var 2) da_nil)))) (dss_cons (ds_set (i := 3) nd rfl (Or.inl rfl) (de_fld cl_Yard na_Yard_state (de_var 0))) (dss_cons (ds_set (i := 4) nd rfl (Or.inl rfl) (de_callB call_len cl_len rfl m_len bt_len (da_cons (de_fld cl_State na_State_things (de_var 3)) da_nil))) (dss_cons (ds_expr (de_meth cl_Yard (M_Yard_become.at hr) tk (de_var 0) (da_cons (de_tup (da_cons de_str (da_cons (de_tup (da_cons (de_var 1) (da_cons (de_var 2) da_nil))) da_nil))) (da_cons (de_op or_add ol_add (de_fld cl_State na_State_things (de_var 3)) (de_lst (da_cons (de_tup (da_cons (de_var 1) (da_cons (de_var 2) da_nil))) da_nil))) (da_cons (de_op or_add ol_add (de_fld cl_State na_State_lying (de_var 3)) (de_lst (da_cons (de_var 4) da_nil))) (da_cons (de_fld cl_State na_State_gone (de_var 3)) da_nil)))))) (dss_one (ds_ret (de_var 4)))))))

abbrev s_Yard_make : Stmt := inClass (topS 29) 8
abbrev N_Yard_make : List Str := ["self", "land", "things", "state", "n", "lying", "one"]
theorem sc_Yard_make : FnScope N_Yard_make ["self", "land", "things"] (defScope s_Yard_make) := ⟨rfl, rfl, rfl, by decide +kernel, rfl, by decide +kernel, by decide +kernel⟩
theorem ok_Yard_make {P : Program} {w : World} {K : PySem.W.Frag} {mg : Str → Option Value} {base : Heap} {f : Addr} {fd : FuncData} (F : Fun K "make" "Yard.make" s_Yard_make f fd) {G : Gx} (m_all : mg "all" = none) (m_isinstance : mg "isinstance" = none) (m_len : mg "len" = none) (m_list : mg "list" = none) (m_set : mg "set" = none) (m_tuple : mg "tuple" = none) (F_is_number : FnR P w K mg base 1 "is_number" 3 S_is_number) (F_look_land : FnR P w K mg base 2 "look_land" 2 S_look_land) (cl_State : Cls K (G.C "State")) (cl_Yard : Cls K (G.C "Yard")) (na_State_gone : NoAttr K (G.C "State") "gone") (na_State_lying : NoAttr K (G.C "State") "lying") (na_State_things : NoAttr K (G.C "State") "things") (na_Yard_book : NoAttr K (G.C "Yard") "book") (na_Yard_state : NoAttr K (G.C "Yard") "state") (M_Yard_become : MtR P w K mg base 3 (G.C "Yard") "become" 5 (S_Yard_become G)) (x_NoThing : XcR K mg "NoThing") :
    FnOk P w K mg base (L2.CX P w) 4 f fd ["self", "land", "things"] (spA K mg 3 (S_Yard_make G)) := by
  refine fn_mk (den := (den_Yard_make G)) F sc_Yard_make (fun cdv A outer s H E B hr tk => ?_) (bo_Yard_make G N_Yard_make rfl)
  have nd := sc_Yard_make.nd
  exact (dss_cons (ds_expr (de_call (F_look_land.at hr) tk (da_cons (de_fld cl_Yard na_Yard_book (de_var 0)) (da_cons (de_var 1) da_nil)))) (dss_cons (ds_set (i := 3) nd rfl (Or.inr rfl) (de_fld cl_Yard na_Yard_state (de_var 0))) (dss_cons (ds_if (dt_w (dw_or (dt_not (dt_truth (de_callB call_isi cl_isi rfl m_isinstance bt_isinstance (da_cons (de_var 2) (da_cons (de_ty rfl m_tuple bt_tuple) da_nil))))) (dw_or1 (dt_not (dt_truth (de_var 2)))))) (dss_one (ds_raise x_NoThing tk)) dss_nil) (dss_cons (ds_if (dt_not (dt_truth (de_callB (cr_all rfl) cl_all rfl m_all bt_all (da_cons (de_lc (own := [("n", 4)]) (t := (.nm 4)) rfl nd (di_any (de_var 2)) (blkOk_by (N := N_Yard_make) (sc := defScope s_Yard_make) (by decide +kernel)) (by decide) (fun _ _ _ _ _ => (gt_name (i := 4) nd rfl (Or.inl rfl))) (fun _ _ _ _ _ => dts_nil) (fun _ _ _ _ _ => (de_and (de_call (F_is_number.at hr) takesF (da_cons (de_var 4) (da_cons de_int (da_cons (de_op op_sub ol_I0 (de_callB call_len cl_len rfl m_len bt_len (da_cons (de_fld cl_State na_State_things (de_var 3)) da_nil)) de_int) da_nil)))) (de_one (de_cmp op_in_seq ol_in (de_var 4) (de_fld cl_State na_State_lying (de_var 3))))))) da_nil)))) (dss_one (ds_raise x_NoThing tk)) dss_nil) (dss_cons (ds_if (dt_cmp (or_ne hr.units) ol_ne (de_lenSetT rfl m_len rfl m_set (de_var 2)) (de_callB call_len cl_len rfl m_len bt_len (da_cons (de_var 2) da_nil))) (dss_one (ds_raise x_NoThing tk)) dss_nil) (dss_cons (ds_set (i := 4) nd rfl (Or.inl rfl) (de_callB call_len cl_len rfl m_len bt_len (da_cons (de_fld cl_State na_State_things (de_var 3)) da_nil))) (dss_cons (ds_set (i := 5) nd rfl (Or.inl rfl) (de_op or_add ol_add (de_lc (own := [("one", 6)]) (t := (.nm 6)) rfl nd (di_any (de_fld cl_State na_State_lying (de_var 3))) (blkOk_by (N := N_Yard_make) (sc := defScope s_Yard_make) (by decide +kernel)) (by decide) (fun _ _ _ _ _ => (gt_name (i := 6) nd rfl (Or.inl rfl))) (fun _ _ _ _ _ => (dts_one (dt_cmp op_notIn_seq ol_notIn (de_var 6) (de_var 2)))) (fun _ _ _ _ _ => (de_var 6))) (de_lst (da_cons (de_var 4) da_nil)))) (dss_cons (ds_expr (de_meth cl_Yard (M_Yard_become.at hr) tk (de_var 0) (da_cons (de_tup (da_cons de_str (da_cons (de_tup (da_cons (de_var 1) (da_cons (de_var 2) da_nil))) da_nil))) (da_cons (de_op or_add ol_add (de_fld cl_State na_State_things (de_var 3)) (de_lst (da_cons (de_tup (da_cons (de_var 1) (da_cons (de_callTy call_list_of cl_list (by rfl) m_list bt_list (da_cons (de_var 2) da_nil)) da_nil))) da_nil))) (da_cons (de_var 5) (da_cons (de_fld cl_State na_State_gone (de_var 3)) da_nil)))))) (dss_one (ds_ret (de_var 4)))))))))))

abbrev s_Yard_find : Stmt := inClass (topS 29) 10
abbrev N_Yard_find : List Str := ["self", "thing", "worth", "land", "state", "things"]
theorem sc_Yard_find : FnScope N_Yard_find ["self", "thing", "worth", "land"] (defScope s_Yard_find) := ⟨rfl, rfl, rfl, by decide +kernel, rfl, by decide +kernel, by decide +kernel⟩
theorem ok_Yard_find {P : Program} {w : World} {K : PySem.W.Frag} {mg : Str → Option Value} {base : Heap} {f : Addr} {fd : FuncData} (F : Fun K "find" "Yard.find" s_Yard_find f fd) {G : Gx} (m_isinstance : mg "isinstance" = none) (m_list : mg "list" = none) (cl_State : Cls K (G.C "State")) (cl_Yard : Cls K (G.C "Yard")) (na_State_gone : NoAttr K (G.C "State") "gone") (na_State_lying : NoAttr K (G.C "State") "lying") (na_State_things : NoAttr K (G.C "State") "things") (na_Yard_state : NoAttr K (G.C "Yard") "state") (M_Yard_become : MtR P w K mg base 3 (G.C "Yard") "become" 5 (S_Yard_become G)) (M_Yard_look_thing : MtR P w K mg base 2 (G.C "Yard") "look_thing" 2 (S_Yard_look_thing G)) (M_Yard_look_worth : MtR P w K mg base 3 (G.C "Yard") "look_worth" 3 (S_Yard_look_worth G)) (x_NoThing : XcR K mg "NoThing") :
    FnOk P w K mg base (L2.CX P w) 4 f fd ["self", "thing", "worth", "land"] (spA K mg 4 (S_Yard_find G)) := by
  refine fn_mk (den := (den_Yard_find G)) F sc_Yard_find (fun cdv A outer s H E B hr tk => ?_) (bo_Yard_find G N_Yard_find rfl)
  have nd := sc_Yard_find.nd
  exact (dss_cons (ds_expr (de_meth cl_Yard (M_Yard_look_thing.at hr) tk (de_var 0) (da_cons (de_var 1) da_nil))) (dss_cons (ds_set (i := 4) nd rfl (Or.inl rfl) (de_fld cl_Yard na_Yard_state (de_var 0))) (dss_cons (ds_if (dt_truth (de_callB call_isi cl_isi rfl m_isinstance bt_isinstance (da_cons (de_ix (de_ix (de_fld cl_State na_State_things (de_var 4)) (de_var 1)) de_int) (da_cons (de_ty rfl m_list bt_list) da_nil)))) (dss_one (ds_raise x_NoThing tk)) dss_nil) (dss_cons (ds_expr (de_meth cl_Yard (M_Yard_look_worth.at hr) tk (de_var 0) (da_cons (de_var 2) (da_cons (de_var 3) da_nil)))) (dss_cons (ds_set (i := 5) nd rfl (Or.inl rfl) (de_op or_add ol_add (de_op or_add ol_add (de_slice (de_fld cl_State na_State_things (de_var 4)) do_none (do_some (de_var 1))) (de_lst (da_cons (de_tup (da_cons (de_var 2) (da_cons (de_var 3) da_nil))) da_nil))) (de_slice (de_fld cl_State na_State_things (de_var 4)) (do_some (de_op or_add ol_add (de_var 1) de_int)) do_none))) (dss_one (ds_expr (de_meth cl_Yard (M_Yard_become.at hr) tk (de_var 0) (da_cons (de_tup (da_cons de_str (da_cons (de_tup (da_cons (de_var 1) (da_cons (de_var 2) (da_cons (de_var 3) da_nil)))) da_nil))) (da_cons (de_var 5) (da_cons (de_fld cl_State na_State_lying (de_var 4)) (da_cons (de_fld cl_State na_State_gone (de_var 4)) da_nil))))))))))))

abbrev s_State_worth : Stmt := inClass (topS 28) 1
abbrev N_State_worth : List Str := ["self", "n", "first", "rest", "one"]
theorem sc_State_worth : FnScope N_State_worth ["self", "n"] (defScope s_State_worth) := ⟨rfl, rfl, rfl, by decide +kernel, rfl, by decide +kernel, by decide +kernel⟩
theorem ok_State_worth {P : Program} {w : World} {K : PySem.W.Frag} {mg : Str → Option Value} {base : Heap} {f : Addr} {fd : FuncData} (F : Fun K "worth" "State.worth" s_State_worth f fd) {G : Gx} {R S : SpF} {d : Nat} (bo : ∀ as h Q E, as.length = 2 → S as h Q E → den_State_worth G R (startA N_State_worth as) h (endsR Q) (RX E)) (M_R : MtR P w K mg base (0 + d) (G.C "State") "worth" 2 R) (m_isinstance : mg "isinstance" = none) (m_list : mg "list" = none) (m_sum : mg "sum" = none) (cl_State : Cls K (G.C "State")) (na_State_things : NoAttr K (G.C "State") "things") :
    FnOk P w K mg base (L2.CX P w) (0 + d + 1) f fd ["self", "n"] (spA K mg 2 S) := by
  refine fn_mk (den := den_State_worth G R) F sc_State_worth (fun cdv A outer s H E B hr tk => ?_) bo
  have nd := sc_State_worth.nd
  exact (dss_cons (ds_asg (t := (.tp [(.nm 2), (.nm 3)])) (de_ix (de_fld cl_State na_State_things (de_var 0)) (de_var 1)) (gt_tup rfl (gts_cons (gt_name (i := 2) nd rfl (Or.inl rfl)) (gts_cons (gt_name (i := 3) nd rfl (Or.inl rfl)) gts_nil)))) (dss_one (ds_ret (de_if (dt_truth (de_callB call_isi cl_isi rfl m_isinstance bt_isinstance (da_cons (de_var 3) (da_cons (de_ty rfl m_list bt_list) da_nil)))) (de_callB (cr_sum rfl) cl_sum rfl m_sum bt_sum (da_cons (de_lc (own := [("one", 4)]) (t := (.nm 4)) rfl nd (di_any (de_var 3)) (blkOk_by (N := N_State_worth) (sc := defScope s_State_worth) (by decide +kernel)) (by decide) (fun _ _ _ _ _ => (gt_name (i := 4) nd rfl (Or.inl rfl))) (fun _ _ _ _ _ => dts_nil) (fun _ _ _ _ _ => (de_meth cl_State (M_R.at hr (Nat.le_refl _)) takesF (de_var 0) (da_cons (de_var 4) da_nil)))) da_nil)) (de_var 2)))))

abbrev s_State_holds : Stmt := inClass (topS 28) 3
abbrev N_State_holds : List Str := ["self", "n", "thing", "rest", "one"]
theorem sc_State_holds : FnScope N_State_holds ["self", "n", "thing"] (defScope s_State_holds) := ⟨rfl, rfl, rfl, by decide +kernel, rfl, by decide +kernel, by decide +kernel⟩
theorem ok_State_holds {P : Program} {w : World} {K : PySem.W.Frag} {mg : Str → Option Value} {base : Heap} {f : Addr} {fd : FuncData} (F : Fun K "holds" "State.holds" s_State_holds f fd) {G : Gx} {R S : SpF} {d : Nat} (bo : ∀ as h Q E, as.length = 3 → S as h Q E → den_State_holds G R (startA N_State_holds as) h (endsR Q) (RX E)) (M_R : MtR P w K mg base (0 + d) (G.C "State") "holds" 3 R) (m_any : mg "any" = none) (m_isinstance : mg "isinstance" = none) (m_list : mg "list" = none) (cl_State : Cls K (G.C "State")) (na_State_things : NoAttr K (G.C "State") "things") :
    FnOk P w K mg base (L2.CX P w) (0 + d + 1) f fd ["self", "n", "thing"] (spA K mg 3 S) := by
  refine fn_mk (den := den_State_holds G R) F sc_State_holds (fun cdv A outer s H E B hr tk => ?_) bo
  have nd := sc_State_holds.nd
  exact (dss_cons (ds_set (i := 3) nd rfl (Or.inl rfl) (de_ix (de_ix (de_fld cl_State na_State_things (de_var 0)) (de_var 1)) de_int)) (dss_one (ds_ret (de_and (de_callB call_isi cl_isi rfl m_isinstance bt_isinstance (da_cons (de_var 3) (da_cons (de_ty rfl m_list bt_list) da_nil))) (de_one (de_callB (cr_any rfl) cl_any rfl m_any bt_any (da_cons (de_lc (own := [("one", 4)]) (t := (.nm 4)) rfl nd (di_any (de_var 3)) (blkOk_by (N := N_State_holds) (sc := defScope s_State_holds) (by decide +kernel)) (by decide) (fun _ _ _ _ _ => (gt_name (i := 4) nd rfl (Or.inl rfl))) (fun _ _ _ _ _ => dts_nil) (fun _ _ _ _ _ => (de_or (de_cmp (or_eq hr.units) ol_eq (de_var 4) (de_var 2)) (de_one (de_meth cl_State (M_R.at hr (Nat.le_refl _)) takesF (de_var 0) (da_cons (de_var 4) (da_cons (de_var 2) da_nil))))))) da_nil)))))))

abbrev s_State_tree : Stmt := inClass (topS 28) 4
abbrev N_State_tree : List Str := ["self", "n", "first", "rest", "one"]
theorem sc_State_tree : FnScope N_State_tree ["self", "n"] (defScope s_State_tree) := ⟨rfl, rfl, rfl, by decide +kernel, rfl, by decide +kernel, by decide +kernel⟩
theorem ok_State_tree {P : Program} {w : World} {K : PySem.W.Frag} {mg : Str → Option Value} {base : Heap} {f : Addr} {fd : FuncData} (F : Fun K "tree" "State.tree" s_State_tree f fd) {G : Gx} {R S : SpF} {d : Nat} (bo : ∀ as h Q E, as.length = 2 → S as h Q E → den_State_tree G R (startA N_State_tree as) h (endsR Q) (RX E)) (M_R : MtR P w K mg base (0 + d) (G.C "State") "tree" 2 R) (m_isinstance : mg "isinstance" = none) (m_list : mg "list" = none) (m_tuple : mg "tuple" = none) (cl_State : Cls K (G.C "State")) (na_State_things : NoAttr K (G.C "State") "things") :
    FnOk P w K mg base (L2.CX P w) (0 + d + 1) f fd ["self", "n"] (spA K mg 2 S) := by
  refine fn_mk (den := den_State_tree G R) F sc_State_tree (fun cdv A outer s H E B hr tk => ?_) bo
  have nd := sc_State_tree.nd
  exact (dss_cons (ds_asg (t := (.tp [(.nm 2), (.nm 3)])) (de_ix (de_fld cl_State na_State_things (de_var 0)) (de_var 1)) (gt_tup rfl (gts_cons (gt_name (i := 2) nd rfl (Or.inl rfl)) (gts_cons (gt_name (i := 3) nd rfl (Or.inl rfl)) gts_nil)))) (dss_one (ds_ret (de_if (dt_truth (de_callB call_isi cl_isi rfl m_isinstance bt_isinstance (da_cons (de_var 3) (da_cons (de_ty rfl m_list bt_list) da_nil)))) (de_tup (da_cons (de_var 2) (da_cons (de_callTy call_tuple_of cl_tuple rfl m_tuple bt_tuple (da_cons (de_lc (own := [("one", 4)]) (t := (.nm 4)) rfl nd (di_any (de_var 3)) (blkOk_by (N := N_State_tree) (sc := defScope s_State_tree) (by decide +kernel)) (by decide) (fun _ _ _ _ _ => (gt_name (i := 4) nd rfl (Or.inl rfl))) (fun _ _ _ _ _ => dts_nil) (fun _ _ _ _ _ => (de_meth cl_State (M_R.at hr (Nat.le_refl _)) takesF (de_var 0) (da_cons (de_var 4) da_nil)))) da_nil)) da_nil))) (de_var 1)))))

abbrev s__law_worth : Stmt := topS 39
abbrev N__law_worth : List Str := ["plain", "n", "first", "rest", "one"]
theorem sc__law_worth : FnScope N__law_worth ["plain", "n"] (defScope s__law_worth) := ⟨rfl, rfl, rfl, by decide +kernel, rfl, by decide +kernel, by decide +kernel⟩
theorem ok__law_worth {P : Program} {w : World} {K : PySem.W.Frag} {mg : Str → Option Value} {base : Heap} {f : Addr} {fd : FuncData} (F : Fun K "_law_worth" "_law_worth" s__law_worth f fd) {R S : SpF} {d : Nat} (bo : ∀ as h Q E, as.length = 2 → S as h Q E → den__law_worth R (startA N__law_worth as) h (endsR Q) (RX E)) (F_R : FnR P w K mg base (0 + d) "_law_worth" 2 R) (m_isinstance : mg "isinstance" = none) (m_sum : mg "sum" = none) (m_tuple : mg "tuple" = none) :
    FnOk P w K mg base (L2.CX P w) (0 + d + 1) f fd ["plain", "n"] (spA K mg 2 S) := by
  refine fn_mk (den := den__law_worth R) F sc__law_worth (fun cdv A outer s H E B hr tk => ?_) bo
  have nd := sc__law_worth.nd
  have hu := hu_of hr
  exact (dss_cons (ds_asg (t := (.tp [(.nm 2), (.nm 3)])) (de_ix (de_dget hu (de_var 0) de_str) (de_var 1)) (gt_tup rfl (gts_cons (gt_name (i := 2) nd rfl (Or.inl rfl)) (gts_cons (gt_name (i := 3) nd rfl (Or.inl rfl)) gts_nil)))) (dss_one (ds_ret (de_if (dt_not (dt_truth (de_callB call_isi cl_isi rfl m_isinstance bt_isinstance (da_cons (de_var 3) (da_cons (de_ty rfl m_tuple bt_tuple) da_nil))))) (de_var 2) (de_callB (cr_sum rfl) cl_sum rfl m_sum bt_sum (da_cons (de_lc (own := [("one", 4)]) (t := (.nm 4)) rfl nd (di_any (de_var 3)) (blkOk_by (N := N__law_worth) (sc := defScope s__law_worth) (by decide +kernel)) (by decide) (fun _ _ _ _ _ => (gt_name (i := 4) nd rfl (Or.inl rfl))) (fun _ _ _ _ _ => dts_nil) (fun _ _ _ _ _ => (de_call (F_R.at hr (Nat.le_refl _)) takesF (da_cons (de_var 0) (da_cons (de_var 4) da_nil))))) da_nil))))))

abbrev s__law_holds : Stmt := topS 45
abbrev N__law_holds : List Str := ["plain", "n", "thing_here", "rest", "one"]
theorem sc__law_holds : FnScope N__law_holds ["plain", "n", "thing_here"] (defScope s__law_holds) := ⟨rfl, rfl, rfl, by decide +kernel, rfl, by decide +kernel, by decide +kernel⟩
theorem ok__law_holds {P : Program} {w : World} {K : PySem.W.Frag} {mg : Str → Option Value} {base : Heap} {f : Addr} {fd : FuncData} (F : Fun K "_law_holds" "_law_holds" s__law_holds f fd) {R S : SpF} {d : Nat} (bo : ∀ as h Q E, as.length = 3 → S as h Q E → den__law_holds R (startA N__law_holds as) h (endsR Q) (RX E)) (F_R : FnR P w K mg base (0 + d) "_law_holds" 3 R) (m_isinstance : mg "isinstance" = none) (m_tuple : mg "tuple" = none) :
    FnOk P w K mg base (L2.CX P w) (0 + d + 1) f fd ["plain", "n", "thing_here"] (spA K mg 3 S) := by
  refine fn_mk (den := den__law_holds R) F sc__law_holds (fun cdv A outer s H E B hr tk => ?_) bo
  have nd := sc__law_holds.nd
  have hu := hu_of hr
  exact (dss_cons (ds_set (i := 3) nd rfl (Or.inl rfl) (de_ix (de_ix (de_dget hu (de_var 0) de_str) (de_var 1)) de_int)) (dss_cons (ds_if (dt_not (dt_truth (de_callB call_isi cl_isi rfl m_isinstance bt_isinstance (da_cons (de_var 3) (da_cons (de_ty rfl m_tuple bt_tuple) da_nil))))) (dss_one (ds_ret de_bl)) dss_nil) (dss_one (ds_ret (de_cmp (or_ne hr.units) ol_ne (de_lc (own := [("one", 4)]) (t := (.nm 4)) rfl nd (di_any (de_var 3)) (blkOk_by (N := N__law_holds) (sc := defScope s__law_holds) (by decide +kernel)) (by decide) (fun _ _ _ _ _ => (gt_name (i := 4) nd rfl (Or.inl rfl))) (fun _ _ _ _ _ => (dts_one (dt_w (dw_or (dt_cmp (or_eq hr.units) ol_eq (de_var 4) (de_var 2)) (dw_or1 (dt_truth (de_call (F_R.at hr (Nat.le_refl _)) takesF (da_cons (de_var 0) (da_cons (de_var 4) (da_cons (de_var 2) da_nil)))))))))) (fun _ _ _ _ _ => (de_var 4))) (de_lst da_nil))))))

abbrev s_Yard_tree : Stmt := inClass (topS 29) 12
abbrev N_Yard_tree : List Str := ["self", "thing"]
theorem sc_Yard_tree : FnScope N_Yard_tree ["self", "thing"] (defScope s_Yard_tree) := ⟨rfl, rfl, rfl, by decide +kernel, rfl, by decide +kernel, by decide +kernel⟩
theorem ok_Yard_tree {P : Program} {w : World} {K : PySem.W.Frag} {mg : Str → Option Value} {base : Heap} {f : Addr} {fd : FuncData} (F : Fun K "tree" "Yard.tree" s_Yard_tree f fd) {G : Gx} (cl_State : Cls K (G.C "State")) (cl_Yard : Cls K (G.C "Yard")) (na_Yard_state : NoAttr K (G.C "Yard") "state") (M_State_tree : MtR P w K mg base 40 (G.C "State") "tree" 2 (S_State_tree G)) (M_Yard_look_thing : MtR P w K mg base 2 (G.C "Yard") "look_thing" 2 (S_Yard_look_thing G)) :
    FnOk P w K mg base (L2.CX P w) 41 f fd ["self", "thing"] (spA K mg 2 (S_Yard_tree G)) := by
  refine fn_mk (den := (den_Yard_tree G)) F sc_Yard_tree (fun cdv A outer s H E B hr tk => ?_) (bo_Yard_tree G N_Yard_tree rfl)
  have nd := sc_Yard_tree.nd
  exact (dss_cons (ds_expr (de_meth cl_Yard (M_Yard_look_thing.at hr) tk (de_var 0) (da_cons (de_var 1) da_nil))) (dss_one (ds_ret (de_meth cl_State (M_State_tree.at hr) tk (de_fld cl_Yard na_Yard_state (de_var 0)) (da_cons (de_var 1) da_nil)))))

abbrev s_Yard_worth : Stmt := inClass (topS 29) 13
abbrev N_Yard_worth : List Str := ["self", "thing"]
theorem sc_Yard_worth : FnScope N_Yard_worth ["self", "thing"] (defScope s_Yard_worth) := ⟨rfl, rfl, rfl, by decide +kernel, rfl, by decide +kernel, by decide +kernel⟩
theorem ok_Yard_worth {P : Program} {w : World} {K : PySem.W.Frag} {mg : Str → Option Value} {base : Heap} {f : Addr} {fd : FuncData} (F : Fun K "worth" "Yard.worth" s_Yard_worth f fd) {G : Gx} (cl_State : Cls K (G.C "State")) (cl_Yard : Cls K (G.C "Yard")) (na_Yard_state : NoAttr K (G.C "Yard") "state") (M_State_worth : MtR P w K mg base 40 (G.C "State") "worth" 2 (S_State_worth G)) (M_Yard_look_thing : MtR P w K mg base 2 (G.C "Yard") "look_thing" 2 (S_Yard_look_thing G)) :
    FnOk P w K mg base (L2.CX P w) 41 f fd ["self", "thing"] (spA K mg 2 (S_Yard_worth G)) := by
  refine fn_mk (den := (den_Yard_worth G)) F sc_Yard_worth (fun cdv A outer s H E B hr tk => ?_) (bo_Yard_worth G N_Yard_worth rfl)
  have nd := sc_Yard_worth.nd
  exact (dss_cons (ds_expr (de_meth cl_Yard (M_Yard_look_thing.at hr) tk (de_var 0) (da_cons (de_var 1) da_nil))) (dss_one (ds_ret (de_meth cl_State (M_State_worth.at hr) tk (de_fld cl_Yard na_Yard_state (de_var 0)) (da_cons (de_var 1) da_nil)))))

abbrev s_Yard_holders : Stmt := inClass (topS 29) 18
abbrev N_Yard_holders : List Str := ["self", "thing", "n"]
theorem sc_Yard_holders : FnScope N_Yard_holders ["self", "thing"] (defScope s_Yard_holders) := ⟨rfl, rfl, rfl, by decide +kernel, rfl, by decide +kernel, by decide +kernel⟩
theorem ok_Yard_holders {P : Program} {w : World} {K : PySem.W.Frag} {mg : Str → Option Value} {base : Heap} {f : Addr} {fd : FuncData} (F : Fun K "holders" "Yard.holders" s_Yard_holders f fd) {G : Gx} (m_len : mg "len" = none) (m_list : mg "list" = none) (m_range : mg "range" = none) (m_tuple : mg "tuple" = none) (cl_State : Cls K (G.C "State")) (cl_Yard : Cls K (G.C "Yard")) (na_State_things : NoAttr K (G.C "State") "things") (na_Yard_state : NoAttr K (G.C "Yard") "state") (M_State_holds : MtR P w K mg base 40 (G.C "State") "holds" 3 (S_State_holds G)) (M_Yard_look_thing : MtR P w K mg base 2 (G.C "Yard") "look_thing" 2 (S_Yard_look_thing G)) :
    FnOk P w K mg base (L2.CX P w) 41 f fd ["self", "thing"] (spA K mg 2 (S_Yard_holders G)) := by
  refine fn_mk (den := (den_Yard_holders G)) F sc_Yard_holders (fun cdv A outer s H E B hr tk => ?_) (bo_Yard_holders G N_Yard_holders rfl)
  have nd := sc_Yard_holders.nd
  exact (dss_cons (ds_expr (de_meth cl_Yard (M_Yard_look_thing.at hr) tk (de_var 0) (da_cons (de_var 1) da_nil))) (dss_one (ds_ret (de_callTy call_tuple_of cl_tuple rfl m_tuple bt_tuple (da_cons (de_lc (own := [("n", 2)]) (t := (.nm 2)) rfl nd (di_any (de_listRange rfl m_list rfl m_range (de_callB call_len cl_len rfl m_len bt_len (da_cons (de_fld cl_State na_State_things (de_fld cl_Yard na_Yard_state (de_var 0))) da_nil)))) (blkOk_by (N := N_Yard_holders) (sc := defScope s_Yard_holders) (by decide +kernel)) (by decide) (fun _ _ _ _ _ => (gt_name (i := 2) nd rfl (Or.inl rfl))) (fun _ _ _ _ _ => (dts_one (dt_truth (de_meth cl_State (M_State_holds.at hr) takesF (de_fld cl_Yard na_Yard_state (de_var 0)) (da_cons (de_var 2) (da_cons (de_var 1) da_nil)))))) (fun _ _ _ _ _ => (de_var 2))) da_nil)))))

abbrev s_State_counted : Stmt := inClass (topS 28) 2
abbrev N_State_counted : List Str := ["self", "book", "n", "first", "rest", "taken", "counting", "one", "of"]
theorem sc_State_counted : FnScope N_State_counted ["self", "book", "n"] (defScope s_State_counted) := ⟨rfl, rfl, rfl, by decide +kernel, rfl, by decide +kernel, by decide +kernel⟩
theorem ok_State_counted {P : Program} {w : World} {K : PySem.W.Frag} {mg : Str → Option Value} {base : Heap} {f : Addr} {fd : FuncData} (F : Fun K "counted" "State.counted" s_State_counted f fd) {G : Gx} {R S : SpF} {d : Nat} (bo : ∀ as h Q E, as.length = 3 → S as h Q E → den_State_counted G R (startA N_State_counted as) h (endsR Q) (RX E)) (M_R : MtR P w K mg base (40 + d) (G.C "State") "counted" 3 R) (m_isinstance : mg "isinstance" = none) (m_list : mg "list" = none) (F_is_enough : FnR P w K mg base 2 "is_enough" 4 S_is_enough) (F_takes : FnR P w K mg base 1 "takes" 2 S_takes) (cl_State : Cls K (G.C "State")) (na_State_things : NoAttr K (G.C "State") "things") (M_State_worth : MtR P w K mg base 40 (G.C "State") "worth" 2 (S_State_worth G)) :
    FnOk P w K mg base (L2.CX P w) (40 + d + 1) f fd ["self", "book", "n"] (spA K mg 3 S) := by
  refine fn_mk (den := den_State_counted G R) F sc_State_counted (fun cdv A outer s H E B hr tk => ?_) bo
  have nd := sc_State_counted.nd
  exact (dss_cons (ds_asg (t := (.tp [(.nm 3), (.nm 4)])) (de_ix (de_fld cl_State na_State_things (de_var 0)) (de_var 2)) (gt_tup rfl (gts_cons (gt_name (i := 3) nd rfl (Or.inl rfl)) (gts_cons (gt_name (i := 4) nd rfl (Or.inl rfl)) gts_nil)))) (dss_cons (ds_if (dt_not (dt_truth (de_callB call_isi cl_isi rfl m_isinstance bt_isinstance (da_cons (de_var 4) (da_cons (de_ty rfl m_list bt_list) da_nil))))) (dss_one (ds_ret (de_var 4))) dss_nil) (dss_cons (ds_par2 (i := 5) (j := 6) rfl nd rfl rfl (by decide) rfl rfl (da_cons (de_call (F_takes.at hr (Nat.le_add_right_of_le (by decide))) tk (da_cons (de_var 1) (da_cons (de_var 3) da_nil))) (da_cons de_int da_nil))) (dss_cons (ds_for (t := (.nm 7)) (passes_of rfl) rfl (di_any (de_var 4)) (gt_name (i := 7) nd rfl (Or.inl rfl)) (dss_cons (ds_set (i := 8) nd rfl (Or.inl rfl) (de_meth cl_State (M_R.at hr (Nat.le_refl _)) tk (de_var 0) (da_cons (de_var 1) (da_cons (de_var 7) da_nil)))) (dss_one (ds_augI (i := 6) nd rfl (Or.inl rfl) (de_if (dt_w (dw_and (dt_cmp op_notN ol_notN (de_var 8) de_non) (dw_and1 (dt_cmp op_in_seq ol_in (de_var 8) (de_var 5))))) (de_meth cl_State (M_State_worth.at hr (Nat.le_add_right_of_le (by decide))) tk (de_var 0) (da_cons (de_var 7) da_nil)) de_int) iop_add ol_I0)))) (dss_one (ds_ret (de_if (dt_truth (de_call (F_is_enough.at hr (Nat.le_add_right_of_le (by decide))) tk (da_cons (de_var 1) (da_cons (de_var 3) (da_cons (de_var 6) (da_cons (de_meth cl_State (M_State_worth.at hr (Nat.le_add_right_of_le (by decide))) tk (de_var 0) (da_cons (de_var 2) da_nil)) da_nil)))))) (de_var 3) de_non)))))))

abbrev s__law_land : Stmt := topS 40
abbrev N__law_land : List Str := ["book_here", "plain", "n", "first", "rest", "counting", "one"]
theorem sc__law_land : FnScope N__law_land ["book_here", "plain", "n"] (defScope s__law_land) := ⟨rfl, rfl, rfl, by decide +kernel, rfl, by decide +kernel, by decide +kernel⟩
theorem ok__law_land {P : Program} {w : World} {K : PySem.W.Frag} {mg : Str → Option Value} {base : Heap} {f : Addr} {fd : FuncData} (F : Fun K "_law_land" "_law_land" s__law_land f fd) {R S : SpF} {d : Nat} (bo : ∀ as h Q E, as.length = 3 → S as h Q E → den__law_land R (startA N__law_land as) h (endsR Q) (RX E)) (F_R : FnR P w K mg base (40 + d) "_law_land" 3 R) (m_isinstance : mg "isinstance" = none) (m_tuple : mg "tuple" = none) (F__law_has_share : FnR P w K mg base 2 "_law_has_share" 4 S__law_has_share) (F__law_takes : FnR P w K mg base 1 "_law_takes" 2 S__law_takes) (F__law_worth : FnR P w K mg base 40 "_law_worth" 2 S__law_worth) :
    FnOk P w K mg base (L2.CX P w) (40 + d + 1) f fd ["book_here", "plain", "n"] (spA K mg 3 S) := by
  refine fn_mk (den := den__law_land R) F sc__law_land (fun cdv A outer s H E B hr tk => ?_) bo
  have nd := sc__law_land.nd
  have hu := hu_of hr
  exact (dss_cons (ds_asg (t := (.tp [(.nm 3), (.nm 4)])) (de_ix (de_dget hu (de_var 1) de_str) (de_var 2)) (gt_tup rfl (gts_cons (gt_name (i := 3) nd rfl (Or.inl rfl)) (gts_cons (gt_name (i := 4) nd rfl (Or.inl rfl)) gts_nil)))) (dss_cons (ds_if (dt_not (dt_truth (de_callB call_isi cl_isi rfl m_isinstance bt_isinstance (da_cons (de_var 4) (da_cons (de_ty rfl m_tuple bt_tuple) da_nil))))) (dss_one (ds_ret (de_var 4))) dss_nil) (dss_cons (ds_set (i := 5) nd rfl (Or.inl rfl) de_int) (dss_cons (ds_for (t := (.nm 6)) (passes_of rfl) rfl (di_any (de_var 4)) (gt_name (i := 6) nd rfl (Or.inl rfl)) (dss_one (ds_if (dt_cmp op_in_seq ol_in (de_call (F_R.at hr (Nat.le_refl _)) tk (da_cons (de_var 0) (da_cons (de_var 1) (da_cons (de_var 6) da_nil)))) (de_call (F__law_takes.at hr (Nat.le_add_right_of_le (by decide))) tk (da_cons (de_var 0) (da_cons (de_var 3) da_nil)))) (dss_one (ds_set (i := 5) nd rfl (Or.inl rfl) (de_op or_add ol_add (de_var 5) (de_call (F__law_worth.at hr (Nat.le_add_right_of_le (by decide))) tk (da_cons (de_var 1) (da_cons (de_var 6) da_nil)))))) dss_nil))) (dss_one (ds_ret (de_if (dt_truth (de_call (F__law_has_share.at hr (Nat.le_add_right_of_le (by decide))) tk (da_cons (de_var 0) (da_cons (de_var 3) (da_cons (de_var 5) (da_cons (de_call (F__law_worth.at hr (Nat.le_add_right_of_le (by decide))) tk (da_cons (de_var 1) (da_cons (de_var 2) da_nil))) da_nil)))))) (de_var 3) de_non)))))))

abbrev s_Yard_send : Stmt := inClass (topS 29) 9
abbrev N_Yard_send : List Str := ["self", "thing", "land", "state", "now", "lying", "one"]
theorem sc_Yard_send : FnScope N_Yard_send ["self", "thing", "land"] (defScope s_Yard_send) := ⟨rfl, rfl, rfl, by decide +kernel, rfl, by decide +kernel, by decide +kernel⟩
theorem ok_Yard_send {P : Program} {w : World} {K : PySem.W.Frag} {mg : Str → Option Value} {base : Heap} {f : Addr} {fd : FuncData} (F : Fun K "send" "Yard.send" s_Yard_send f fd) {G : Gx} (m_len : mg "len" = none) (F_is_number : FnR P w K mg base 1 "is_number" 3 S_is_number) (F_look_land : FnR P w K mg base 2 "look_land" 2 S_look_land) (cl_State : Cls K (G.C "State")) (cl_Yard : Cls K (G.C "Yard")) (na_State_gone : NoAttr K (G.C "State") "gone") (na_State_lying : NoAttr K (G.C "State") "lying") (na_State_things : NoAttr K (G.C "State") "things") (na_Yard_book : NoAttr K (G.C "Yard") "book") (na_Yard_state : NoAttr K (G.C "Yard") "state") (M_State_counted : MtR P w K mg base 80 (G.C "State") "counted" 3 (S_State_counted G)) (M_Yard_become : MtR P w K mg base 3 (G.C "Yard") "become" 5 (S_Yard_become G)) (x_NoThing : XcR K mg "NoThing") (xv_NotOf : XcV P w K mg base "NotOf") :
    FnOk P w K mg base (L2.CX P w) 81 f fd ["self", "thing", "land"] (spA K mg 3 (S_Yard_send G)) := by
  refine fn_mk (den := (den_Yard_send G)) F sc_Yard_send (fun cdv A outer s H E B hr tk => ?_) (bo_Yard_send G N_Yard_send rfl)
  have nd := sc_Yard_send.nd
  exact (dss_cons (ds_set (i := 3) nd rfl (Or.inl rfl) (de_fld cl_Yard na_Yard_state (de_var 0))) (dss_cons (ds_if (dt_w (dw_or (dt_not (dt_truth (de_call (F_is_number.at hr) tk (da_cons (de_var 1) (da_cons de_int (da_cons (de_op op_sub ol_I0 (de_callB call_len cl_len rfl m_len bt_len (da_cons (de_fld cl_State na_State_things (de_var 3)) da_nil)) de_int) da_nil)))))) (dw_or1 (dt_cmp op_notIn_seq ol_notIn (de_var 1) (de_fld cl_State na_State_lying (de_var 3)))))) (dss_one (ds_raise x_NoThing tk)) dss_nil) (dss_cons (ds_expr (de_call (F_look_land.at hr) tk (da_cons (de_fld cl_Yard na_Yard_book (de_var 0)) (da_cons (de_var 2) da_nil)))) (dss_cons (ds_set (i := 4) nd rfl (Or.inl rfl) (de_meth cl_State (M_State_counted.at hr) tk (de_var 3) (da_cons (de_fld cl_Yard na_Yard_book (de_var 0)) (da_cons (de_var 1) da_nil)))) (dss_cons (ds_if (dt_cmp (or_ne hr.units) ol_ne (de_var 4) (de_var 2)) (dss_one (ds_raiseV (k := 0) xv_NotOf tk (hr.mono (by decide)) (de_var 4))) dss_nil) (dss_cons (ds_setLc (i := 5) (own := [("one", 6)]) (t := (.nm 6)) false rfl rfl nd rfl rfl (sw_true rfl rfl rfl (by decide +kernel)) (di_any (de_fld cl_State na_State_lying (de_var 3))) (blkOk_by (N := N_Yard_send) (sc := defScope s_Yard_send) (by decide +kernel)) (by decide) (fun _ _ _ _ _ => (gt_name (i := 6) nd rfl (Or.inl rfl))) (fun _ _ _ _ _ => (dts_one (dt_cmp (or_ne hr.units) ol_ne (de_var 6) (de_var 1)))) (fun _ _ _ _ _ => (de_var 6))) (dss_one (ds_expr (de_meth cl_Yard (M_Yard_become.at hr) tk (de_var 0) (da_cons (de_tup (da_cons de_str (da_cons (de_tup (da_cons (de_var 1) (da_cons (de_var 2) da_nil))) da_nil))) (da_cons (de_fld cl_State na_State_things (de_var 3)) (da_cons (de_var 5) (da_cons (de_op or_add ol_add (de_fld cl_State na_State_gone (de_var 3)) (de_lst (da_cons (de_tup (da_cons (de_var 1) (da_cons (de_var 2) da_nil))) da_nil))) da_nil)))))))))))))

abbrev s_Yard_counts : Stmt := inClass (topS 29) 14
abbrev N_Yard_counts : List Str := ["self", "thing"]
theorem sc_Yard_counts : FnScope N_Yard_counts ["self", "thing"] (defScope s_Yard_counts) := ⟨rfl, rfl, rfl, by decide +kernel, rfl, by decide +kernel, by decide +kernel⟩
theorem ok_Yard_counts {P : Program} {w : World} {K : PySem.W.Frag} {mg : Str → Option Value} {base : Heap} {f : Addr} {fd : FuncData} (F : Fun K "counts" "Yard.counts" s_Yard_counts f fd) {G : Gx} (cl_State : Cls K (G.C "State")) (cl_Yard : Cls K (G.C "Yard")) (na_Yard_book : NoAttr K (G.C "Yard") "book") (na_Yard_state : NoAttr K (G.C "Yard") "state") (M_State_counted : MtR P w K mg base 80 (G.C "State") "counted" 3 (S_State_counted G)) (M_Yard_look_thing : MtR P w K mg base 2 (G.C "Yard") "look_thing" 2 (S_Yard_look_thing G)) :
    FnOk P w K mg base (L2.CX P w) 81 f fd ["self", "thing"] (spA K mg 2 (S_Yard_counts G)) := by
  refine fn_mk (den := (den_Yard_counts G)) F sc_Yard_counts (fun cdv A outer s H E B hr tk => ?_) (bo_Yard_counts G N_Yard_counts rfl)
  have nd := sc_Yard_counts.nd
  exact (dss_cons (ds_expr (de_meth cl_Yard (M_Yard_look_thing.at hr) tk (de_var 0) (da_cons (de_var 1) da_nil))) (dss_one (ds_ret (de_meth cl_State (M_State_counted.at hr) tk (de_fld cl_Yard na_Yard_state (de_var 0)) (da_cons (de_fld cl_Yard na_Yard_book (de_var 0)) (da_cons (de_var 1) da_nil))))))

abbrev s_Yard_false_ones : Stmt := inClass (topS 29) 16
abbrev N_Yard_false_ones : List Str := ["self", "thing", "land"]
theorem sc_Yard_false_ones : FnScope N_Yard_false_ones ["self"] (defScope s_Yard_false_ones) := ⟨rfl, rfl, rfl, by decide +kernel, rfl, by decide +kernel, by decide +kernel⟩
theorem ok_Yard_false_ones {P : Program} {w : World} {K : PySem.W.Frag} {mg : Str → Option Value} {base : Heap} {f : Addr} {fd : FuncData} (F : Fun K "false_ones" "Yard.false_ones" s_Yard_false_ones f fd) {G : Gx} (m_sorted : mg "sorted" = none) (m_tuple : mg "tuple" = none) (cl_State : Cls K (G.C "State")) (cl_Yard : Cls K (G.C "Yard")) (na_State_gone : NoAttr K (G.C "State") "gone") (na_Yard_book : NoAttr K (G.C "Yard") "book") (na_Yard_state : NoAttr K (G.C "Yard") "state") (M_State_counted : MtR P w K mg base 80 (G.C "State") "counted" 3 (S_State_counted G)) :
    FnOk P w K mg base (L2.CX P w) 81 f fd ["self"] (spA K mg 1 (S_Yard_false_ones G)) := by
  refine fn_mk (den := (den_Yard_false_ones G)) F sc_Yard_false_ones (fun cdv A outer s H E B hr tk => ?_) (bo_Yard_false_ones G N_Yard_false_ones rfl)
  have nd := sc_Yard_false_ones.nd
  exact (dss_one (ds_ret (de_callTy call_tuple_of cl_tuple rfl m_tuple bt_tuple (da_cons (de_callB cr_sortedAll cl_sorted rfl m_sorted bt_sorted (da_cons (de_lc (own := [("thing", 1), ("land", 2)]) (t := (.tp [(.nm 1), (.nm 2)])) rfl nd (di_any (de_fld cl_State na_State_gone (de_fld cl_Yard na_Yard_state (de_var 0)))) (blkOk_by (N := N_Yard_false_ones) (sc := defScope s_Yard_false_ones) (by decide +kernel)) (by decide) (fun _ _ _ _ _ => (gt_tup rfl (gts_cons (gt_name (i := 1) nd rfl (Or.inl rfl)) (gts_cons (gt_name (i := 2) nd rfl (Or.inl rfl)) gts_nil)))) (fun _ _ _ _ _ => (dts_one (dt_cmp (or_ne hr.units) ol_ne (de_meth cl_State (M_State_counted.at hr) takesF (de_fld cl_Yard na_Yard_state (de_var 0)) (da_cons (de_fld cl_Yard na_Yard_book (de_var 0)) (da_cons (de_var 1) da_nil))) (de_var 2)))) (fun _ _ _ _ _ => (de_var 1))) da_nil)) da_nil))))

abbrev s_Yard_worths : Stmt := inClass (topS 29) 17
abbrev N_Yard_worths : List Str := ["self", "found", "n", "land", "name"]
theorem sc_Yard_worths : FnScope N_Yard_worths ["self"] (defScope s_Yard_worths) := ⟨rfl, rfl, rfl, by decide +kernel, rfl, by decide +kernel, by decide +kernel⟩
theorem ok_Yard_worths {P : Program} {w : World} {K : PySem.W.Frag} {mg : Str → Option Value} {base : Heap} {f : Addr} {fd : FuncData} (F : Fun K "worths" "Yard.worths" s_Yard_worths f fd) {G : Gx} (m_dict : mg "dict" = none) (m_sorted : mg "sorted" = none) (m_tuple : mg "tuple" = none) (F_names_of : FnR P w K mg base 1 "names_of" 1 S_names_of) (cl_State : Cls K (G.C "State")) (cl_Yard : Cls K (G.C "Yard")) (na_State_lying : NoAttr K (G.C "State") "lying") (na_Yard_book : NoAttr K (G.C "Yard") "book") (na_Yard_state : NoAttr K (G.C "Yard") "state") (M_State_counted : MtR P w K mg base 80 (G.C "State") "counted" 3 (S_State_counted G)) (M_State_worth : MtR P w K mg base 40 (G.C "State") "worth" 2 (S_State_worth G)) :
    FnOk P w K mg base (L2.CX P w) 81 f fd ["self"] (spA K mg 1 (S_Yard_worths G)) := by
  refine fn_mk (den := (den_Yard_worths G)) F sc_Yard_worths (fun cdv A outer s H E B hr tk => ?_) (bo_Yard_worths G N_Yard_worths rfl)
  have nd := sc_Yard_worths.nd
  have hu := hu_of hr
  exact (dss_cons (ds_set (i := 1) nd rfl (Or.inl rfl) (de_callTy (call_dictP rfl) cl_dictP rfl m_dict bt_dict (da_cons (de_lc (own := [("name", 4)]) (t := (.nm 4)) rfl nd (di_any (de_call (F_names_of.at hr) tk (da_cons (de_fld cl_Yard na_Yard_book (de_var 0)) da_nil))) (blkOk_by (N := N_Yard_worths) (sc := defScope s_Yard_worths) (by decide +kernel)) (by decide) (fun _ _ _ _ _ => (gt_name (i := 4) nd rfl (Or.inl rfl))) (fun _ _ _ _ _ => dts_nil) (fun _ _ _ _ _ => (de_tup (da_cons (de_var 4) (da_cons de_int da_nil))))) da_nil))) (dss_cons (ds_for (t := (.nm 2)) (passes_of rfl) rfl (di_any (de_fld cl_State na_State_lying (de_fld cl_Yard na_Yard_state (de_var 0)))) (gt_name (i := 2) nd rfl (Or.inl rfl)) (dss_cons (ds_set (i := 3) nd rfl (Or.inl rfl) (de_meth cl_State (M_State_counted.at hr) tk (de_fld cl_Yard na_Yard_state (de_var 0)) (da_cons (de_fld cl_Yard na_Yard_book (de_var 0)) (da_cons (de_var 2) da_nil)))) (dss_one (ds_if (dt_cmp op_notN ol_notN (de_var 3) de_non) (dss_one (ds_daugA hu (de_var 1) (de_var 3) (de_meth cl_State (M_State_worth.at hr) tk (de_fld cl_Yard na_Yard_state (de_var 0)) (da_cons (de_var 2) da_nil)) iop_add ol_I0)) dss_nil)))) (dss_one (ds_ret (de_callTy call_tuple_of cl_tuple rfl m_tuple bt_tuple (da_cons (de_sortItK rfl hr.units m_sorted (de_var 1)) da_nil))))))

abbrev s__law_refusal : Stmt := topS 42
abbrev N__law_refusal : List Str := ["book_here", "plain", "word", "some", "land_here", "names", "many", "worth", "bad", "now", "n"]
theorem sc__law_refusal : FnScope N__law_refusal ["book_here", "plain", "word", "some"] (defScope s__law_refusal) := ⟨rfl, rfl, rfl, by decide +kernel, rfl, by decide +kernel, by decide +kernel⟩
theorem ok__law_refusal {P : Program} {w : World} {K : PySem.W.Frag} {mg : Str → Option Value} {base : Heap} {f : Addr} {fd : FuncData} (F : Fun K "_law_refusal" "_law_refusal" s__law_refusal f fd) (m_isinstance : mg "isinstance" = none) (m_len : mg "len" = none) (m_set : mg "set" = none) (m_tuple : mg "tuple" = none) (F__law_land : FnR P w K mg base 80 "_law_land" 3 S__law_land) :
    FnOk P w K mg base (L2.CX P w) 81 f fd ["book_here", "plain", "word", "some"] (spA K mg 4 S__law_refusal) := by
  refine fn_mk (den := den__law_refusal) F sc__law_refusal (fun cdv A outer s H E B hr tk => ?_) (bo__law_refusal N__law_refusal rfl)
  have nd := sc__law_refusal.nd
  have hu := hu_of hr
  exact (dss_cons (ds_par2 (i := 5) (j := 6) rfl nd rfl rfl (by decide) rfl rfl (da_cons (de_lc (own := [("land_here", 4)]) (t := (.nm 4)) rfl nd (di_any (de_ix (de_var 0) de_int)) (blkOk_by (N := N__law_refusal) (sc := defScope s__law_refusal) (by decide +kernel)) (by decide) (fun _ _ _ _ _ => (gt_name (i := 4) nd rfl (Or.inl rfl))) (fun _ _ _ _ _ => dts_nil) (fun _ _ _ _ _ => (de_ix (de_var 4) de_int))) (da_cons (de_callB call_len cl_len rfl m_len bt_len (da_cons (de_dget hu (de_var 1) de_str) da_nil)) da_nil))) (dss_cons (ds_if (dt_cmp op_in_seq ol_in (de_var 2) (de_tup (da_cons de_str (da_cons de_str da_nil)))) (dss_cons (ds_asg (t := (.tp [(.nm 7), (.nm 4)])) (de_slice (de_var 3) (do_some (de_un un_neg ul_neg de_int)) do_none) (gt_tup rfl (gts_cons (gt_name (i := 7) nd rfl (Or.inl rfl)) (gts_cons (gt_name (i := 4) nd rfl (Or.inl rfl)) gts_nil)))) (dss_cons (ds_if (dt_w (dw_and (dt_cmp (or_eq hr.units) ol_eq (de_var 2) de_str) (dw_and1 (dt_w (dw_or (dt_cmp op_ge ol_B0 (de_ix (de_var 3) de_int) (de_var 6)) (dw_or1 (dt_truth (de_callB call_isi cl_isi rfl m_isinstance bt_isinstance (da_cons (de_ix (de_ix (de_dget hu (de_var 1) de_str) (de_ix (de_var 3) de_int)) de_int) (da_cons (de_ty rfl m_tuple bt_tuple) da_nil)))))))))) (dss_one (ds_ret (de_tup (da_cons de_str da_nil)))) dss_nil) (dss_one (ds_ret (de_if (dt_not (dt_chain op_le op_le ol_B0 ol_B0 de_int (de_var 7) de_int)) (de_tup (da_cons de_str da_nil)) (de_if (dt_cmp op_in_seq ol_in (de_var 4) (de_op or_add ol_add (de_var 5) (de_lst (da_cons de_non da_nil)))) de_non (de_tup (da_cons de_str da_nil)))))))) dss_nil) (dss_cons (ds_if (dt_cmp (or_eq hr.units) ol_eq (de_var 2) de_str) (dss_cons (ds_if (dt_cmp op_notIn_seq ol_notIn (de_ix (de_var 3) de_int) (de_var 5)) (dss_one (ds_ret (de_tup (da_cons de_str da_nil)))) dss_nil) (dss_cons (ds_setLc (i := 8) (own := [("n", 10)]) (t := (.nm 10)) false rfl rfl nd rfl rfl (sw_true rfl rfl rfl (by decide +kernel)) (di_any (de_ix (de_var 3) de_int)) (blkOk_by (N := N__law_refusal) (sc := defScope s__law_refusal) (by decide +kernel)) (by decide) (fun _ _ _ _ _ => (gt_name (i := 10) nd rfl (Or.inl rfl))) (fun _ _ _ _ _ => (dts_one (dt_cmp op_notIn_seq ol_notIn (de_var 10) (de_dget hu (de_var 1) de_str)))) (fun _ _ _ _ _ => (de_var 10))) (dss_one (ds_ret (de_if (dt_w (dw_or (dt_cmp (or_ne hr.units) ol_ne (de_var 8) (de_lst da_nil)) (dw_or (dt_cmp (or_ne hr.units) ol_ne (de_lenSetT rfl m_len rfl m_set (de_ix (de_var 3) de_int)) (de_callB call_len cl_len rfl m_len bt_len (da_cons (de_ix (de_var 3) de_int) da_nil))) (dw_or1 (dt_cmp (or_eq hr.units) ol_eq (de_ix (de_var 3) de_int) (de_tup da_nil)))))) (de_tup (da_cons de_str da_nil)) de_non))))) dss_nil) (dss_cons (ds_if (dt_cmp op_notIn_seq ol_notIn (de_ix (de_var 3) de_int) (de_dget hu (de_var 1) de_str)) (dss_one (ds_ret (de_tup (da_cons de_str da_nil)))) dss_nil) (dss_cons (ds_if (dt_cmp op_notIn_seq ol_notIn (de_ix (de_var 3) de_int) (de_var 5)) (dss_one (ds_ret (de_tup (da_cons de_str da_nil)))) dss_nil) (dss_cons (ds_set (i := 9) nd rfl (Or.inl rfl) (de_call (F__law_land.at hr) tk (da_cons (de_var 0) (da_cons (de_var 1) (da_cons (de_ix (de_var 3) de_int) da_nil))))) (dss_one (ds_ret (de_if (dt_cmp (or_eq hr.units) ol_eq (de_var 9) (de_ix (de_var 3) de_int)) de_non (de_tup (da_cons de_str (da_cons (de_var 9) da_nil))))))))))))

abbrev s_Yard___str__ : Stmt := inClass (topS 29) 2
abbrev N_Yard___str__ : List Str := ["self"]
theorem sc_Yard___str__ : FnScope N_Yard___str__ ["self"] (defScope s_Yard___str__) := ⟨rfl, rfl, rfl, by decide +kernel, rfl, by decide +kernel, by decide +kernel⟩
theorem ok_Yard___str__ {P : Program} {w : World} {K : PySem.W.Frag} {mg : Str → Option Value} {base : Heap} {f : Addr} {fd : FuncData} (F : Fun K "__str__" "Yard.__str__" s_Yard___str__ f fd) {G : Gx} (m_len : mg "len" = none) (cl_State : Cls K (G.C "State")) (cl_Yard : Cls K (G.C "Yard")) (na_State_gone : NoAttr K (G.C "State") "gone") (na_State_lying : NoAttr K (G.C "State") "lying") (na_Yard_state : NoAttr K (G.C "Yard") "state") (M_Yard_false_ones : MtR P w K mg base 81 (G.C "Yard") "false_ones" 1 (S_Yard_false_ones G)) :
    FnOk P w K mg base (L2.CX P w) 82 f fd ["self"] (spA K mg 1 (S_Yard___str__ G)) := by
  refine fn_mk (den := (den_Yard___str__ G)) F sc_Yard___str__ (fun cdv A outer s H E B hr tk => ?_) (bo_Yard___str__ G N_Yard___str__ rfl)
  have nd := sc_Yard___str__.nd
  exact (dss_one (ds_ret (de_joined (DJ.cons (de_fmt (de_callB call_len cl_len rfl m_len bt_len (da_cons (de_fld cl_State na_State_lying (de_fld cl_Yard na_Yard_state (de_var 0))) da_nil))) (DJ.cons de_str (DJ.cons (de_fmt (de_callB call_len cl_len rfl m_len bt_len (da_cons (de_fld cl_State na_State_gone (de_fld cl_Yard na_Yard_state (de_var 0))) da_nil))) (DJ.cons de_str (DJ.cons (de_fmt (de_callB call_len cl_len rfl m_len bt_len (da_cons (de_meth0 cl_Yard (M_Yard_false_ones.at hr) tk (de_var 0)) da_nil))) (DJ.cons de_str DJ.nil)))))))))

abbrev s__law_call : Stmt := topS 44
abbrev N__law_call : List Str := ["yard", "word", "some"]
theorem sc__law_call : FnScope N__law_call ["yard", "word", "some"] (defScope s__law_call) := ⟨rfl, rfl, rfl, by decide +kernel, rfl, by decide +kernel, by decide +kernel⟩
theorem ok__law_call {P : Program} {w : World} {K : PySem.W.Frag} {mg : Str → Option Value} {base : Heap} {f : Addr} {fd : FuncData} (F : Fun K "_law_call" "_law_call" s__law_call f fd) {G : Gx} (cl_Yard : Cls K (G.C "Yard")) (M_Yard_find : MtR P w K mg base 4 (G.C "Yard") "find" 4 (S_Yard_find G)) (M_Yard_make : MtR P w K mg base 4 (G.C "Yard") "make" 3 (S_Yard_make G)) (M_Yard_send : MtR P w K mg base 81 (G.C "Yard") "send" 3 (S_Yard_send G)) (M_Yard_take_in : MtR P w K mg base 4 (G.C "Yard") "take_in" 3 (S_Yard_take_in G)) :
    FnOk P w K mg base (L2.CX P w) 82 f fd ["yard", "word", "some"] (spA K mg 3 (S__law_call G)) := by
  refine fn_mk (den := (den__law_call G)) F sc__law_call (fun cdv A outer s H E B hr tk => ?_) (bo__law_call G N__law_call rfl)
  have nd := sc__law_call.nd
  exact (dss_cons (ds_if (dt_cmp (or_eq hr.units) ol_eq (de_var 1) de_str) (dss_one (ds_ret (de_meth cl_Yard (M_Yard_take_in.at hr) tk (de_var 0) (da_cons (de_ix (de_var 2) de_int) (da_cons (de_ix (de_var 2) de_int) da_nil))))) dss_nil) (dss_cons (ds_if (dt_cmp (or_eq hr.units) ol_eq (de_var 1) de_str) (dss_one (ds_ret (de_meth cl_Yard (M_Yard_make.at hr) tk (de_var 0) (da_cons (de_ix (de_var 2) de_int) (da_cons (de_ix (de_var 2) de_int) da_nil))))) dss_nil) (dss_cons (ds_if (dt_cmp (or_eq hr.units) ol_eq (de_var 1) de_str) (dss_one (ds_ret (de_meth cl_Yard (M_Yard_send.at hr) tk (de_var 0) (da_cons (de_ix (de_var 2) de_int) (da_cons (de_ix (de_var 2) de_int) da_nil))))) dss_nil) (dss_one (ds_ret (de_meth cl_Yard (M_Yard_find.at hr) tk (de_var 0) (da_cons (de_ix (de_var 2) de_int) (da_cons (de_ix (de_var 2) de_int) (da_cons (de_ix (de_var 2) de_int) da_nil)))))))))

abbrev s__law_stands : Stmt := topS 46
abbrev N__law_stands : List Str := ["book_here", "yard", "plain", "deeds", "many", "names", "n", "lands", "wrong", "line", "worths", "name", "land_here", "one"]
theorem sc__law_stands : FnScope N__law_stands ["book_here", "yard", "plain", "deeds"] (defScope s__law_stands) := ⟨rfl, rfl, rfl, by decide +kernel, rfl, by decide +kernel, by decide +kernel⟩
theorem ok__law_stands {P : Program} {w : World} {K : PySem.W.Frag} {mg : Str → Option Value} {base : Heap} {f : Addr} {fd : FuncData} (F : Fun K "_law_stands" "_law_stands" s__law_stands f fd) {G : Gx} (m_len : mg "len" = none) (m_range : mg "range" = none) (m_sorted : mg "sorted" = none) (m_str : mg "str" = none) (m_sum : mg "sum" = none) (m_tuple : mg "tuple" = none) (F__law_holds : FnR P w K mg base 40 "_law_holds" 3 S__law_holds) (F__law_land : FnR P w K mg base 80 "_law_land" 3 S__law_land) (F__law_worth : FnR P w K mg base 40 "_law_worth" 2 S__law_worth) (cl_Yard : Cls K (G.C "Yard")) (M_Yard___len__ : MtR P w K mg base 1 (G.C "Yard") "__len__" 1 (S_Yard___len__ G)) (M_Yard___str__ : MtR P w K mg base 82 (G.C "Yard") "__str__" 1 (S_Yard___str__ G)) (M_Yard_deeds : MtR P w K mg base 1 (G.C "Yard") "deeds" 1 (S_Yard_deeds G)) (M_Yard_false_ones : MtR P w K mg base 81 (G.C "Yard") "false_ones" 1 (S_Yard_false_ones G)) (M_Yard_here : MtR P w K mg base 1 (G.C "Yard") "here" 1 (S_Yard_here G)) (M_Yard_sent : MtR P w K mg base 1 (G.C "Yard") "sent" 1 (S_Yard_sent G)) (M_Yard_worths : MtR P w K mg base 81 (G.C "Yard") "worths" 1 (S_Yard_worths G)) (MW_Yard_counts_thing : MtKR P w K mg base 81 (G.C "Yard") "counts" ["thing"] (S_Yard_counts G)) (MW_Yard_holders_thing : MtKR P w K mg base 41 (G.C "Yard") "holders" ["thing"] (S_Yard_holders G)) (MW_Yard_worth_thing : MtKR P w K mg base 41 (G.C "Yard") "worth" ["thing"] (S_Yard_worth G)) :
    FnOk P w K mg base (L2.CX P w) 85 f fd ["book_here", "yard", "plain", "deeds"] (spA K mg 4 (S__law_stands G)) := by
  refine fn_mk (den := (den__law_stands G)) F sc__law_stands (fun cdv A outer s H E B hr tk => ?_) (bo__law_stands G N__law_stands rfl)
  have nd := sc__law_stands.nd
  have hu := hu_of hr
  exact (dss_cons (ds_par2 (i := 4) (j := 5) rfl nd rfl rfl (by decide) rfl rfl (da_cons (de_callB call_len cl_len rfl m_len bt_len (da_cons (de_dget hu (de_var 2) de_str) da_nil)) (da_cons (de_lc (own := [("land_here", 12)]) (t := (.nm 12)) rfl nd (di_any (de_ix (de_var 0) de_int)) (blkOk_by (N := N__law_stands) (sc := defScope s__law_stands) (by decide +kernel)) (by decide) (fun _ _ _ _ _ => (gt_name (i := 12) nd rfl (Or.inl rfl))) (fun _ _ _ _ _ => dts_nil) (fun _ _ _ _ _ => (de_ix (de_var 12) de_int))) da_nil))) (dss_cons (ds_set (i := 7) nd rfl (Or.inr rfl) (de_lc (own := [("n", 6)]) (t := (.nm 6)) rfl nd (di_range1 rfl m_range (da_cons (de_var 4) da_nil)) (blkOk_by (N := N__law_stands) (sc := defScope s__law_stands) (by decide +kernel)) (by decide) (fun _ _ _ _ _ => (gt_name (i := 6) nd rfl (Or.inl rfl))) (fun _ _ _ _ _ => dts_nil) (fun _ _ _ _ _ => (de_call (F__law_land.at hr) takesF (da_cons (de_var 0) (da_cons (de_var 2) (da_cons (de_var 6) da_nil))))))) (dss_cons (ds_set (i := 8) nd rfl (Or.inl rfl) (de_callTy call_tuple_of cl_tuple rfl m_tuple bt_tuple (da_cons (de_callB cr_sortedAll cl_sorted rfl m_sorted bt_sorted (da_cons (de_lc (own := [("n", 6), ("land_here", 12)]) (t := (.tp [(.nm 6), (.nm 12)])) rfl nd (di_any (de_dget hu (de_var 2) de_str)) (blkOk_by (N := N__law_stands) (sc := defScope s__law_stands) (by decide +kernel)) (by decide) (fun _ _ _ _ _ => (gt_tup rfl (gts_cons (gt_name (i := 6) nd rfl (Or.inl rfl)) (gts_cons (gt_name (i := 12) nd rfl (Or.inl rfl)) gts_nil)))) (fun _ _ _ _ _ => (dts_one (dt_cmp (or_ne hr.units) ol_ne (de_ix (de_var 7) (de_var 6)) (de_var 12)))) (fun _ _ _ _ _ => (de_var 6))) da_nil)) da_nil))) (dss_cons (ds_if (dt_w (dw_or (dt_cmp (or_ne hr.units) ol_ne (de_meth0 cl_Yard (M_Yard_here.at hr) tk (de_var 1)) (de_callTy call_tuple_of cl_tuple rfl m_tuple bt_tuple (da_cons (de_dget hu (de_var 2) de_str) da_nil))) (dw_or (dt_cmp (or_ne hr.units) ol_ne (de_meth0 cl_Yard (M_Yard_sent.at hr) tk (de_var 1)) (de_callTy call_tuple_of cl_tuple rfl m_tuple bt_tuple (da_cons (de_dget hu (de_var 2) de_str) da_nil))) (dw_or1 (dt_cmp (or_ne hr.units) ol_ne (de_meth0 cl_Yard (M_Yard_false_ones.at hr) tk (de_var 1)) (de_var 8)))))) (dss_one (ds_ret de_bl)) dss_nil) (dss_cons (ds_set (i := 9) nd rfl (Or.inl rfl) (de_op or_add ol_add (de_op or_add ol_add (de_op or_add ol_add (de_callTy call_str_int cl_strI rfl m_str bt_str (da_cons (de_callB call_len cl_len rfl m_len bt_len (da_cons (de_dget hu (de_var 2) de_str) da_nil)) da_nil)) de_str) (de_callTy call_str_int cl_strI rfl m_str bt_str (da_cons (de_callB call_len cl_len rfl m_len bt_len (da_cons (de_dget hu (de_var 2) de_str) da_nil)) da_nil))) de_str)) (dss_cons (ds_set (i := 9) nd rfl (Or.inl rfl) (de_op or_add ol_add (de_op or_add ol_add (de_var 9) (de_callTy call_str_int cl_strI rfl m_str bt_str (da_cons (de_callB call_len cl_len rfl m_len bt_len (da_cons (de_var 8) da_nil)) da_nil))) de_str)) (dss_cons (ds_if (dt_w (dw_or (dt_cmp (or_ne hr.units) ol_ne (de_callTy (call_strO (M_Yard___str__.str hr)) cl_strO rfl m_str bt_str (da_cons (de_var 1) da_nil)) (de_var 9)) (dw_or (dt_cmp (or_ne hr.units) ol_ne (de_callB (call_lenO (M_Yard___len__.len hr)) cl_lenO rfl m_len bt_len (da_cons (de_var 1) da_nil)) (de_callB call_len cl_len rfl m_len bt_len (da_cons (de_dget hu (de_var 2) de_str) da_nil))) (dw_or1 (dt_cmp (or_ne hr.units) ol_ne (de_meth0 cl_Yard (M_Yard_deeds.at hr) tk (de_var 1)) (de_callTy call_tuple_of cl_tuple rfl m_tuple bt_tuple (da_cons (de_var 3) da_nil))))))) (dss_one (ds_ret de_bl)) dss_nil) (dss_cons (ds_set (i := 10) nd rfl (Or.inl rfl) (de_lstH da_nil)) (dss_cons (ds_for (t := (.nm 11)) (passes_of rfl) rfl (di_any (de_var 5)) (gt_name (i := 11) nd rfl (Or.inr rfl)) (dss_one (ds_expr (de_bm PySem.F.plainAttrs_list PySem.F.slot_list_append PySem.F.type_list_append mt_append ml_append (de_var 10) (da_cons (de_tup (da_cons (de_var 11) (da_cons (de_callB (cr_sum rfl) cl_sum rfl m_sum bt_sum (da_cons (de_lc (own := [("n", 6)]) (t := (.nm 6)) rfl nd (di_any (de_dget hu (de_var 2) de_str)) (blkOk_by (N := N__law_stands) (sc := defScope s__law_stands) (by decide +kernel)) (by decide) (fun _ _ _ _ _ => (gt_name (i := 6) nd rfl (Or.inl rfl))) (fun _ _ _ _ _ => (dts_one (dt_cmp (or_eq hr.units) ol_eq (de_ix (de_var 7) (de_var 6)) (de_var 11)))) (fun _ _ _ _ _ => (de_call (F__law_worth.at hr) takesF (da_cons (de_var 2) (da_cons (de_var 6) da_nil))))) da_nil)) da_nil))) da_nil))))) (dss_cons (ds_if (dt_cmp (or_ne hr.units) ol_ne (de_meth0 cl_Yard (M_Yard_worths.at hr) tk (de_var 1)) (de_callTy call_tuple_of cl_tuple rfl m_tuple bt_tuple (da_cons (de_var 10) da_nil))) (dss_one (ds_ret de_bl)) dss_nil) (dss_cons (ds_for (t := (.nm 6)) (passes_of rfl) rfl (di_range1 rfl m_range (da_cons (de_var 4) da_nil)) (gt_name (i := 6) nd rfl (Or.inr rfl)) (dss_cons (ds_if (dt_w (dw_or (dt_cmp (or_ne hr.units) ol_ne (de_methK0 cl_Yard (MW_Yard_counts_thing.at hr) tk (de_var 1) (dk_cons (de_var 6) dk_nil)) (de_ix (de_var 7) (de_var 6))) (dw_or1 (dt_cmp (or_ne hr.units) ol_ne (de_methK0 cl_Yard (MW_Yard_worth_thing.at hr) tk (de_var 1) (dk_cons (de_var 6) dk_nil)) (de_call (F__law_worth.at hr) tk (da_cons (de_var 2) (da_cons (de_var 6) da_nil))))))) (dss_one (ds_ret de_bl)) dss_nil) (dss_one (ds_if (dt_cmp (or_ne hr.units) ol_ne (de_methK0 cl_Yard (MW_Yard_holders_thing.at hr) tk (de_var 1) (dk_cons (de_var 6) dk_nil)) (de_callTy call_tuple_of cl_tuple rfl m_tuple bt_tuple (da_cons (de_lc (own := [("one", 13)]) (t := (.nm 13)) rfl nd (di_range1 rfl m_range (da_cons (de_var 4) da_nil)) (blkOk_by (N := N__law_stands) (sc := defScope s__law_stands) (by decide +kernel)) (by decide) (fun _ _ _ _ _ => (gt_name (i := 13) nd rfl (Or.inl rfl))) (fun _ _ _ _ _ => (dts_one (dt_truth (de_call (F__law_holds.at hr) takesF (da_cons (de_var 2) (da_cons (de_var 13) (da_cons (de_var 6) da_nil))))))) (fun _ _ _ _ _ => (de_var 13))) da_nil))) (dss_one (ds_ret de_bl)) dss_nil)))) (dss_one (ds_ret de_bl)))))))))))))

theorem sc_law : FnScope N_law ["script"] (defScope s_law) := ⟨rfl, rfl, rfl, by decide +kernel, rfl, by decide +kernel, by decide +kernel⟩
theorem ok_law {P : Program} {w : World} {K : PySem.W.Frag} {mg : Str → Option Value} {base : Heap} {f : Addr} {fd : FuncData} (F : Fun K "law" "law" s_law f fd) {G : Gx} (m_range : mg "range" = none) (F__law_a_book : FnR P w K mg base 2 "_law_a_book" 2 S__law_a_book) (F__law_a_deed : FnR P w K mg base 2 "_law_a_deed" 4 S__law_a_deed) (F__law_begun : FnR P w K mg base 1 "_law_begun" 0 S__law_begun) (F__law_call : FnR P w K mg base 82 "_law_call" 3 (S__law_call G)) (F__law_done : FnR P w K mg base 1 "_law_done" 3 S__law_done) (F__law_refusal : FnR P w K mg base 81 "_law_refusal" 4 S__law_refusal) (F__law_stands : FnR P w K mg base 85 "_law_stands" 4 (S__law_stands G)) (cl_Yard : Cls K (G.C "Yard")) (M_Yard_make : MtR P w K mg base 4 (G.C "Yard") "make" 3 (S_Yard_make G)) (M_Yard_tree : MtR P w K mg base 41 (G.C "Yard") "tree" 2 (S_Yard_tree G)) (M_Yard_worth : MtR P w K mg base 41 (G.C "Yard") "worth" 2 (S_Yard_worth G)) (MK_Yard : MkR P w K mg base 4 "Yard" (G.C "Yard") 2 (S_Yard___init__ G)) (MN_Yard_book : MkKR P w K mg base 4 "Yard" (G.C "Yard") ["book"] (S_Yard___init__ G)) {c : Addr} (hcode : ∀ cdv, fd.code = cdv → cdv = .ref c) (TB : LamX.TabB base mg c (G.T "law")) {fh : Addr} {fdh : FuncData} {cs : Str → Addr} (Fh : Fun K "_law_heard" "_law_heard" s__law_heard fh fdh) (mh : mg "_law_heard" = some (.ref fh)) (HC : HClsN K mg cs ["BadBook", "NoLand", "NoThing", "NoWorth"]) (h_isinstance : mg "isinstance" = none) (h_len : mg "len" = none) (h_ValueError : mg "ValueError" = none) :
    FnOk P w K mg base (L2.CX P w) 88 f fd ["script"] (spA K mg 1 (S_lawN ["law"] G)) := by
  refine fn_mkC (den := (den_law G)) F sc_law (fun cdv A outer s H E B hc hr tk => ?_) (bo_law G N_law rfl)
  have nd := sc_law.nd
  have HH := hd_law (P := P) (w := w) (outer := outer) (H := H) (E := E) Fh mh HC h_isinstance h_len h_ValueError TB (hcode cdv hc) hr
  exact (dss_cons (ds_set (i := 1) nd rfl (Or.inl rfl) (de_call0 (F__law_begun.at hr) tk)) (dss_cons (ds_set (i := 8) nd rfl (Or.inr rfl) (de_call (F__law_a_book.at hr) tk (da_cons (de_var 0) (da_cons (de_var 1) da_nil)))) (dss_cons (ds_asg (t := (.tp [(.nm 11), (.nm 2), (.nm 3)])) (de_tup (da_cons (de_newK0 (MN_Yard_book.at hr) tk (dk_cons (de_var 8) dk_nil)) (da_cons (de_disp (ps := [((dC (.str "things")), (dLst aNil)), ((dC (.str "here")), (dLst aNil)), ((dC (.str "sent")), (dLst aNil))]) (pps_cons de_str (de_lst da_nil) (pps_cons de_str (de_lst da_nil) (pps_cons de_str (de_lst da_nil) pps_nil)))) (da_cons (de_lstH da_nil) da_nil)))) (gt_tup rfl (gts_cons (gt_name (i := 11) nd rfl (Or.inr rfl)) (gts_cons (gt_name (i := 2) nd rfl (Or.inl rfl)) (gts_cons (gt_name (i := 3) nd rfl (Or.inl rfl)) gts_nil))))) (dss_cons (ds_for (t := (.nm 4)) (passes_of rfl) rfl (di_range1 rfl m_range (da_cons de_int da_nil)) (gt_name (i := 4) nd rfl (Or.inl rfl)) (dss_cons (ds_asg (t := (.tp [(.nm 10), (.nm 9)])) (de_call (F__law_a_deed.at hr) tk (da_cons (de_var 0) (da_cons (de_var 1) (da_cons (de_var 8) (da_cons (de_var 2) da_nil))))) (gt_tup rfl (gts_cons (gt_name (i := 10) nd rfl (Or.inr rfl)) (gts_cons (gt_name (i := 9) nd rfl (Or.inr rfl)) gts_nil)))) (dss_cons (ds_set (i := 5) nd rfl (Or.inl rfl) (de_call (F__law_refusal.at hr) tk (da_cons (de_var 8) (da_cons (de_var 2) (da_cons (de_var 10) (da_cons (de_var 9) da_nil)))))) (dss_cons (ds_set (i := 6) nd rfl (Or.inl rfl) (de_heardN (k := 85) HH (LamX.lamS_by (sc := defScope s_law) (by decide +kernel)) (fun A outer s H E f c B hr tk => (de_call (F__law_call.at hr) tk (da_cons (de_var 11) (da_cons (de_var 10) (da_cons (de_var 9) da_nil))))))) (dss_cons (ds_if (dt_cmp op_isN ol_isN (de_var 5) de_non) (dss_cons (ds_set (i := 5) nd rfl (Or.inl rfl) (de_tup (da_cons de_str (da_cons (de_call (F__law_done.at hr) tk (da_cons (de_var 2) (da_cons (de_var 10) (da_cons (de_var 9) da_nil)))) da_nil)))) (dss_one (ds_expr (de_bm PySem.F.plainAttrs_list PySem.F.slot_list_append PySem.F.type_list_append mt_append ml_append (de_var 3) (da_cons (de_tup (da_cons (de_var 10) (da_cons (de_var 9) da_nil))) da_nil))))) dss_nil) (dss_cons (ds_if (dt_cmp (or_ne hr.units) ol_ne (de_var 6) (de_var 5)) (dss_one (ds_ret de_bl)) dss_nil) (dss_one (ds_if (dt_w (dw_and (dt_cmp (or_eq hr.units) ol_eq (de_op op_mod ol_I (de_var 4) de_int) de_int) (dw_and1 (dt_not (dt_truth (de_call (F__law_stands.at hr) tk (da_cons (de_var 8) (da_cons (de_var 11) (da_cons (de_var 2) (da_cons (de_var 3) da_nil)))))))))) (dss_one (ds_ret de_bl)) dss_nil)))))))) (dss_cons (ds_set (i := 7) nd rfl (Or.inl rfl) (de_lstH (da_cons (de_heardN (k := 85) HH (LamX.lamS_by (sc := defScope s_law) (by decide +kernel)) (fun A outer s H E f c B hr tk => (de_new (MK_Yard.at hr) tk (da_cons de_non da_nil)))) da_nil))) (dss_cons (ds_expr (de_bm PySem.F.plainAttrs_list PySem.F.slot_list_append PySem.F.type_list_append mt_append ml_append (de_var 7) (da_cons (de_heardN (k := 85) HH (LamX.lamS_by (sc := defScope s_law) (by decide +kernel)) (fun A outer s H E f c B hr tk => (de_meth cl_Yard (M_Yard_worth.at hr) tk (de_var 11) (da_cons de_int da_nil)))) da_nil))) (dss_cons (ds_expr (de_bm PySem.F.plainAttrs_list PySem.F.slot_list_append PySem.F.type_list_append mt_append ml_append (de_var 7) (da_cons (de_heardN (k := 85) HH (LamX.lamS_by (sc := defScope s_law) (by decide +kernel)) (fun A outer s H E f c B hr tk => (de_meth cl_Yard (M_Yard_tree.at hr) tk (de_var 11) (da_cons (de_un un_neg ul_neg de_int) da_nil)))) da_nil))) (dss_cons (ds_expr (de_bm PySem.F.plainAttrs_list PySem.F.slot_list_append PySem.F.type_list_append mt_append ml_append (de_var 7) (da_cons (de_heardN (k := 85) HH (LamX.lamS_by (sc := defScope s_law) (by decide +kernel)) (fun A outer s H E f c B hr tk => (de_meth cl_Yard (M_Yard_make.at hr) tk (de_var 11) (da_cons (de_ix (de_ix (de_ix (de_var 8) de_int) de_int) de_int) (da_cons (de_tup da_nil) da_nil))))) da_nil))) (dss_one (ds_ret (de_cmp (or_eq hr.units) ol_eq (de_var 7) (de_lst (da_cons (de_tup (da_cons de_str da_nil)) (da_cons (de_tup (da_cons de_str da_nil)) (da_cons (de_tup (da_cons de_str da_nil)) (da_cons (de_tup (da_cons de_str da_nil)) da_nil))))))))))))))))

abbrev hFa : List He.Fa := [.glo "is_number", .glo "is_name", .glo "is_rising", .glo "is_pact", .glo "names_of", .glo "row_of", .glo "takes", .glo "_law_draw", .glo "_law_begun", .glo "_law_row", .glo "_law_takes", .glo "_law_done", .glo "is_land", .glo "look_land", .glo "is_enough", .glo "is_none_or_land", .glo "_law_a_book", .glo "_law_has_share", .glo "_law_a_deed", .glo "is_book", .glo "_law_worth", .glo "_law_holds", .glo "_law_land", .glo "_law_refusal", .glo "_law_call", .glo "_law_stands", .glo "law", .glo "_law_heard", .free "ValueError", .free "all", .free "any", .free "bool", .free "dict", .free "int", .free "isinstance", .free "len", .free "list", .free "range", .free "set", .free "sorted", .free "str", .free "sum", .free "tuple", .free "zip", .str "LETTERS" "abcdefghijklmnopqrstuvwxyz", .cls "State", .cls "Yard", .noat "State" "gone", .noat "State" "lying", .noat "State" "things", .noat "Yard" "book", .noat "Yard" "done", .noat "Yard" "state", .noat "Yard" "undone", .meth "Yard" "__len__", .meth "Yard" "here", .meth "Yard" "sent", .meth "Yard" "deeds", .meth "Yard" "look_thing", .meth "Yard" "become", .meth "Yard" "look_worth", .meth "Yard" "take_in", .meth "Yard" "make", .meth "Yard" "find", .meth "State" "worth", .meth "State" "holds", .meth "State" "tree", .meth "Yard" "tree", .meth "Yard" "worth", .meth "Yard" "holders", .meth "State" "counted", .meth "Yard" "send", .meth "Yard" "counts", .meth "Yard" "false_ones", .meth "Yard" "worths", .meth "Yard" "__str__", .mkr "State", .mkr "Yard", .glo "State", .glo "Yard"]
abbrev dd_is_number : He.DefD := ⟨("is_number", none), "is_number", "is_number", defArgs s_is_number, defBody s_is_number, defScope s_is_number, [], []⟩
abbrev dd_is_name : He.DefD := ⟨("is_name", none), "is_name", "is_name", defArgs s_is_name, defBody s_is_name, defScope s_is_name, [], []⟩
abbrev dd_is_rising : He.DefD := ⟨("is_rising", none), "is_rising", "is_rising", defArgs s_is_rising, defBody s_is_rising, defScope s_is_rising, [], []⟩
abbrev dd_is_pact : He.DefD := ⟨("is_pact", none), "is_pact", "is_pact", defArgs s_is_pact, defBody s_is_pact, defScope s_is_pact, [], []⟩
abbrev dd_names_of : He.DefD := ⟨("names_of", none), "names_of", "names_of", defArgs s_names_of, defBody s_names_of, defScope s_names_of, [], []⟩
abbrev dd_row_of : He.DefD := ⟨("row_of", none), "row_of", "row_of", defArgs s_row_of, defBody s_row_of, defScope s_row_of, [], []⟩
abbrev dd_takes : He.DefD := ⟨("takes", none), "takes", "takes", defArgs s_takes, defBody s_takes, defScope s_takes, [], []⟩
abbrev dd_State___init__ : He.DefD := ⟨("State", some "__init__"), "__init__", "State.__init__", defArgs s_State___init__, defBody s_State___init__, defScope s_State___init__, [], []⟩
abbrev dd_Yard___len__ : He.DefD := ⟨("Yard", some "__len__"), "__len__", "Yard.__len__", defArgs s_Yard___len__, defBody s_Yard___len__, defScope s_Yard___len__, [], []⟩
abbrev dd_Yard_here : He.DefD := ⟨("Yard", some "here"), "here", "Yard.here", defArgs s_Yard_here, defBody s_Yard_here, defScope s_Yard_here, [], []⟩
abbrev dd_Yard_sent : He.DefD := ⟨("Yard", some "sent"), "sent", "Yard.sent", defArgs s_Yard_sent, defBody s_Yard_sent, defScope s_Yard_sent, [], []⟩
abbrev dd_Yard_deeds : He.DefD := ⟨("Yard", some "deeds"), "deeds", "Yard.deeds", defArgs s_Yard_deeds, defBody s_Yard_deeds, defScope s_Yard_deeds, [], []⟩
abbrev dd__law_draw : He.DefD := ⟨("_law_draw", none), "_law_draw", "_law_draw", defArgs s__law_draw, defBody s__law_draw, defScope s__law_draw, [], []⟩
abbrev dd__law_begun : He.DefD := ⟨("_law_begun", none), "_law_begun", "_law_begun", defArgs s__law_begun, defBody s__law_begun, defScope s__law_begun, [], []⟩
abbrev dd__law_row : He.DefD := ⟨("_law_row", none), "_law_row", "_law_row", defArgs s__law_row, defBody s__law_row, defScope s__law_row, [], []⟩
abbrev dd__law_takes : He.DefD := ⟨("_law_takes", none), "_law_takes", "_law_takes", defArgs s__law_takes, defBody s__law_takes, defScope s__law_takes, [], []⟩
abbrev dd__law_done : He.DefD := ⟨("_law_done", none), "_law_done", "_law_done", defArgs s__law_done, defBody s__law_done, defScope s__law_done, [], []⟩
abbrev dd_is_land : He.DefD := ⟨("is_land", none), "is_land", "is_land", defArgs s_is_land, defBody s_is_land, defScope s_is_land, [], []⟩
abbrev dd_look_land : He.DefD := ⟨("look_land", none), "look_land", "look_land", defArgs s_look_land, defBody s_look_land, defScope s_look_land, [], []⟩
abbrev dd_is_enough : He.DefD := ⟨("is_enough", none), "is_enough", "is_enough", defArgs s_is_enough, defBody s_is_enough, defScope s_is_enough, [], []⟩
abbrev dd_is_none_or_land : He.DefD := ⟨("is_none_or_land", none), "is_none_or_land", "is_none_or_land", defArgs s_is_none_or_land, defBody s_is_none_or_land, defScope s_is_none_or_land, [], []⟩
abbrev dd_Yard_look_thing : He.DefD := ⟨("Yard", some "look_thing"), "look_thing", "Yard.look_thing", defArgs s_Yard_look_thing, defBody s_Yard_look_thing, defScope s_Yard_look_thing, [], []⟩
abbrev dd__law_a_book : He.DefD := ⟨("_law_a_book", none), "_law_a_book", "_law_a_book", defArgs s__law_a_book, defBody s__law_a_book, defScope s__law_a_book, [], []⟩
abbrev dd__law_has_share : He.DefD := ⟨("_law_has_share", none), "_law_has_share", "_law_has_share", defArgs s__law_has_share, defBody s__law_has_share, defScope s__law_has_share, [], []⟩
abbrev dd__law_a_deed : He.DefD := ⟨("_law_a_deed", none), "_law_a_deed", "_law_a_deed", defArgs s__law_a_deed, defBody s__law_a_deed, defScope s__law_a_deed, [], []⟩
abbrev dd_is_book : He.DefD := ⟨("is_book", none), "is_book", "is_book", defArgs s_is_book, defBody s_is_book, defScope s_is_book, [], []⟩
abbrev dd_Yard_become : He.DefD := ⟨("Yard", some "become"), "become", "Yard.become", defArgs s_Yard_become, defBody s_Yard_become, defScope s_Yard_become, [], []⟩
abbrev dd_Yard_look_worth : He.DefD := ⟨("Yard", some "look_worth"), "look_worth", "Yard.look_worth", defArgs s_Yard_look_worth, defBody s_Yard_look_worth, defScope s_Yard_look_worth, [], []⟩
abbrev dd_Yard___init__ : He.DefD := ⟨("Yard", some "__init__"), "__init__", "Yard.__init__", defArgs s_Yard___init__, defBody s_Yard___init__, defScope s_Yard___init__, [], []⟩
abbrev dd_Yard_take_in : He.DefD := ⟨("Yard", some "take_in"), "take_in", "Yard.take_in", defArgs s_Yard_take_in, defBody s_Yard_take_in, defScope s_Yard_take_in, [], []⟩
abbrev dd_Yard_make : He.DefD := ⟨("Yard", some "make"), "make", "Yard.make", defArgs s_Yard_make, defBody s_Yard_make, defScope s_Yard_make, [], []⟩
abbrev dd_Yard_find : He.DefD := ⟨("Yard", some "find"), "find", "Yard.find", defArgs s_Yard_find, defBody s_Yard_find, defScope s_Yard_find, [], []⟩
abbrev dd_State_worth : He.DefD := ⟨("State", some "worth"), "worth", "State.worth", defArgs s_State_worth, defBody s_State_worth, defScope s_State_worth, [], []⟩
abbrev dd_State_holds : He.DefD := ⟨("State", some "holds"), "holds", "State.holds", defArgs s_State_holds, defBody s_State_holds, defScope s_State_holds, [], []⟩
abbrev dd_State_tree : He.DefD := ⟨("State", some "tree"), "tree", "State.tree", defArgs s_State_tree, defBody s_State_tree, defScope s_State_tree, [], []⟩
abbrev dd__law_worth : He.DefD := ⟨("_law_worth", none), "_law_worth", "_law_worth", defArgs s__law_worth, defBody s__law_worth, defScope s__law_worth, [], []⟩
abbrev dd__law_holds : He.DefD := ⟨("_law_holds", none), "_law_holds", "_law_holds", defArgs s__law_holds, defBody s__law_holds, defScope s__law_holds, [], []⟩
abbrev dd_Yard_tree : He.DefD := ⟨("Yard", some "tree"), "tree", "Yard.tree", defArgs s_Yard_tree, defBody s_Yard_tree, defScope s_Yard_tree, [], []⟩
abbrev dd_Yard_worth : He.DefD := ⟨("Yard", some "worth"), "worth", "Yard.worth", defArgs s_Yard_worth, defBody s_Yard_worth, defScope s_Yard_worth, [], []⟩
abbrev dd_Yard_holders : He.DefD := ⟨("Yard", some "holders"), "holders", "Yard.holders", defArgs s_Yard_holders, defBody s_Yard_holders, defScope s_Yard_holders, [], []⟩
abbrev dd_State_counted : He.DefD := ⟨("State", some "counted"), "counted", "State.counted", defArgs s_State_counted, defBody s_State_counted, defScope s_State_counted, [], []⟩
abbrev dd__law_land : He.DefD := ⟨("_law_land", none), "_law_land", "_law_land", defArgs s__law_land, defBody s__law_land, defScope s__law_land, [], []⟩
abbrev dd_Yard_send : He.DefD := ⟨("Yard", some "send"), "send", "Yard.send", defArgs s_Yard_send, defBody s_Yard_send, defScope s_Yard_send, [], []⟩
abbrev dd_Yard_counts : He.DefD := ⟨("Yard", some "counts"), "counts", "Yard.counts", defArgs s_Yard_counts, defBody s_Yard_counts, defScope s_Yard_counts, [], []⟩
abbrev dd_Yard_false_ones : He.DefD := ⟨("Yard", some "false_ones"), "false_ones", "Yard.false_ones", defArgs s_Yard_false_ones, defBody s_Yard_false_ones, defScope s_Yard_false_ones, [], []⟩
abbrev dd_Yard_worths : He.DefD := ⟨("Yard", some "worths"), "worths", "Yard.worths", defArgs s_Yard_worths, defBody s_Yard_worths, defScope s_Yard_worths, [], []⟩
abbrev dd__law_refusal : He.DefD := ⟨("_law_refusal", none), "_law_refusal", "_law_refusal", defArgs s__law_refusal, defBody s__law_refusal, defScope s__law_refusal, [], []⟩
abbrev dd_Yard___str__ : He.DefD := ⟨("Yard", some "__str__"), "__str__", "Yard.__str__", defArgs s_Yard___str__, defBody s_Yard___str__, defScope s_Yard___str__, [], []⟩
abbrev dd__law_call : He.DefD := ⟨("_law_call", none), "_law_call", "_law_call", defArgs s__law_call, defBody s__law_call, defScope s__law_call, [], []⟩
abbrev dd__law_stands : He.DefD := ⟨("_law_stands", none), "_law_stands", "_law_stands", defArgs s__law_stands, defBody s__law_stands, defScope s__law_stands, [], []⟩
abbrev dd_law : He.DefD := ⟨("law", none), "law", "law", defArgs s_law, defBody s_law, defScope s_law, [], []⟩
abbrev dd__law_heard : He.DefD := ⟨("_law_heard", none), "_law_heard", "_law_heard", defArgs s__law_heard, defBody s__law_heard, defScope s__law_heard, [], []⟩
abbrev dd_NotOf___init__ : He.DefD := ⟨("NotOf", some "__init__"), "__init__", "NotOf.__init__", defArgs s_NotOf___init__, defBody s_NotOf___init__, defScope s_NotOf___init__, [], []⟩
abbrev hFn : List He.DefD := [dd_is_number, dd_is_name, dd_is_rising, dd_is_pact, dd_names_of, dd_row_of, dd_takes, dd_State___init__, dd_Yard___len__, dd_Yard_here, dd_Yard_sent, dd_Yard_deeds, dd__law_draw, dd__law_begun, dd__law_row, dd__law_takes, dd__law_done, dd_is_land, dd_look_land, dd_is_enough, dd_is_none_or_land, dd_Yard_look_thing, dd__law_a_book, dd__law_has_share, dd__law_a_deed, dd_is_book, dd_Yard_become, dd_Yard_look_worth, dd_Yard___init__, dd_Yard_take_in, dd_Yard_make, dd_Yard_find, dd_State_worth, dd_State_holds, dd_State_tree, dd__law_worth, dd__law_holds, dd_Yard_tree, dd_Yard_worth, dd_Yard_holders, dd_State_counted, dd__law_land, dd_Yard_send, dd_Yard_counts, dd_Yard_false_ones, dd_Yard_worths, dd__law_refusal, dd_Yard___str__, dd__law_call, dd__law_stands, dd_law, dd__law_heard, dd_NotOf___init__]
abbrev hTf : List He.Defn := [("law", none)]
abbrev gDn (n : Str) : He.Defn := (n, none)
abbrev gNs : List Str := ["law"]
abbrev gx (w : World) (K : PySem.W.Frag) : Gx := ⟨gNs, fun n => (He.cT K (gDn n)).2, He.ga K, w⟩
theorem gx_ts (w : World) (K : PySem.W.Frag) : (gx w K).Ts.map (·.1) = hTf.map fun p => (He.cT K p).2 := rfl
theorem all_mk {l : PySem.W.OpenLaw} {w : World} {K : PySem.W.Frag} {h : Heap} {mg : Str → Option Value} {f : Addr} (X : K.In h) (G : h.Ns mainGlobals mg) (hfa : mg "law" = some (.ref f)) (c : He.SaysX hFa hFn [] hTf (exTN ["BadBook", "NoLand", "NoThing", "NoWorth"] hTf) w h K) :
    ∃ fd : FuncData, (∀ (s : Shared) (u : Value), BindsTo s fd ⟨[u], []⟩ [("script", u)]) ∧ ∀ base : Heap, K.In base → base.Ns mainGlobals mg → (∀ p ∈ hTf, LamX.TabB base mg (He.cT K p).1 (He.cT K p).2) → FnOk l.prog w K mg base (L2.CX l.prog w) 88 f fd ["script"] (spLawT K (hTf.map fun p => (He.cT K p).2)) := by
  have cd : He.SaysD hFa hFn K := congrArg Prod.fst c.t
  obtain ⟨NF, c2⟩ := exTN_ok c.more
  obtain ⟨cm, cnd⟩ := exT_ok c2
  obtain ⟨HC, xc⟩ := exB_ok (rs := ["BadBook", "NoLand", "NoThing", "NoWorth"]) X G cm (by decide +kernel)
  have g_is_number : mg "is_number" = some (.ref (He.fAd K ("is_number", none))) := He.glo_ok X G (cd.fact 0 (f := .glo "is_number") rfl)
  have g_is_name : mg "is_name" = some (.ref (He.fAd K ("is_name", none))) := He.glo_ok X G (cd.fact 1 (f := .glo "is_name") rfl)
  have g_is_rising : mg "is_rising" = some (.ref (He.fAd K ("is_rising", none))) := He.glo_ok X G (cd.fact 2 (f := .glo "is_rising") rfl)
  have g_is_pact : mg "is_pact" = some (.ref (He.fAd K ("is_pact", none))) := He.glo_ok X G (cd.fact 3 (f := .glo "is_pact") rfl)
  have g_names_of : mg "names_of" = some (.ref (He.fAd K ("names_of", none))) := He.glo_ok X G (cd.fact 4 (f := .glo "names_of") rfl)
  have g_row_of : mg "row_of" = some (.ref (He.fAd K ("row_of", none))) := He.glo_ok X G (cd.fact 5 (f := .glo "row_of") rfl)
  have g_takes : mg "takes" = some (.ref (He.fAd K ("takes", none))) := He.glo_ok X G (cd.fact 6 (f := .glo "takes") rfl)
  have g__law_draw : mg "_law_draw" = some (.ref (He.fAd K ("_law_draw", none))) := He.glo_ok X G (cd.fact 7 (f := .glo "_law_draw") rfl)
  have g__law_begun : mg "_law_begun" = some (.ref (He.fAd K ("_law_begun", none))) := He.glo_ok X G (cd.fact 8 (f := .glo "_law_begun") rfl)
  have g__law_row : mg "_law_row" = some (.ref (He.fAd K ("_law_row", none))) := He.glo_ok X G (cd.fact 9 (f := .glo "_law_row") rfl)
  have g__law_takes : mg "_law_takes" = some (.ref (He.fAd K ("_law_takes", none))) := He.glo_ok X G (cd.fact 10 (f := .glo "_law_takes") rfl)
  have g__law_done : mg "_law_done" = some (.ref (He.fAd K ("_law_done", none))) := He.glo_ok X G (cd.fact 11 (f := .glo "_law_done") rfl)
  have g_is_land : mg "is_land" = some (.ref (He.fAd K ("is_land", none))) := He.glo_ok X G (cd.fact 12 (f := .glo "is_land") rfl)
  have g_look_land : mg "look_land" = some (.ref (He.fAd K ("look_land", none))) := He.glo_ok X G (cd.fact 13 (f := .glo "look_land") rfl)
  have g_is_enough : mg "is_enough" = some (.ref (He.fAd K ("is_enough", none))) := He.glo_ok X G (cd.fact 14 (f := .glo "is_enough") rfl)
  have g_is_none_or_land : mg "is_none_or_land" = some (.ref (He.fAd K ("is_none_or_land", none))) := He.glo_ok X G (cd.fact 15 (f := .glo "is_none_or_land") rfl)
  have g__law_a_book : mg "_law_a_book" = some (.ref (He.fAd K ("_law_a_book", none))) := He.glo_ok X G (cd.fact 16 (f := .glo "_law_a_book") rfl)
  have g__law_has_share : mg "_law_has_share" = some (.ref (He.fAd K ("_law_has_share", none))) := He.glo_ok X G (cd.fact 17 (f := .glo "_law_has_share") rfl)
  have g__law_a_deed : mg "_law_a_deed" = some (.ref (He.fAd K ("_law_a_deed", none))) := He.glo_ok X G (cd.fact 18 (f := .glo "_law_a_deed") rfl)
  have g_is_book : mg "is_book" = some (.ref (He.fAd K ("is_book", none))) := He.glo_ok X G (cd.fact 19 (f := .glo "is_book") rfl)
  have g__law_worth : mg "_law_worth" = some (.ref (He.fAd K ("_law_worth", none))) := He.glo_ok X G (cd.fact 20 (f := .glo "_law_worth") rfl)
  have g__law_holds : mg "_law_holds" = some (.ref (He.fAd K ("_law_holds", none))) := He.glo_ok X G (cd.fact 21 (f := .glo "_law_holds") rfl)
  have g__law_land : mg "_law_land" = some (.ref (He.fAd K ("_law_land", none))) := He.glo_ok X G (cd.fact 22 (f := .glo "_law_land") rfl)
  have g__law_refusal : mg "_law_refusal" = some (.ref (He.fAd K ("_law_refusal", none))) := He.glo_ok X G (cd.fact 23 (f := .glo "_law_refusal") rfl)
  have g__law_call : mg "_law_call" = some (.ref (He.fAd K ("_law_call", none))) := He.glo_ok X G (cd.fact 24 (f := .glo "_law_call") rfl)
  have g__law_stands : mg "_law_stands" = some (.ref (He.fAd K ("_law_stands", none))) := He.glo_ok X G (cd.fact 25 (f := .glo "_law_stands") rfl)
  have g_law : mg "law" = some (.ref (He.fAd K ("law", none))) := He.glo_ok X G (cd.fact 26 (f := .glo "law") rfl)
  have g__law_heard : mg "_law_heard" = some (.ref (He.fAd K ("_law_heard", none))) := He.glo_ok X G (cd.fact 27 (f := .glo "_law_heard") rfl)
  have m_ValueError := He.free_ok X G (cd.fact 28 (f := .free "ValueError") rfl)
  have m_all := He.free_ok X G (cd.fact 29 (f := .free "all") rfl)
  have m_any := He.free_ok X G (cd.fact 30 (f := .free "any") rfl)
  have m_bool := He.free_ok X G (cd.fact 31 (f := .free "bool") rfl)
  have m_dict := He.free_ok X G (cd.fact 32 (f := .free "dict") rfl)
  have m_int := He.free_ok X G (cd.fact 33 (f := .free "int") rfl)
  have m_isinstance := He.free_ok X G (cd.fact 34 (f := .free "isinstance") rfl)
  have m_len := He.free_ok X G (cd.fact 35 (f := .free "len") rfl)
  have m_list := He.free_ok X G (cd.fact 36 (f := .free "list") rfl)
  have m_range := He.free_ok X G (cd.fact 37 (f := .free "range") rfl)
  have m_set := He.free_ok X G (cd.fact 38 (f := .free "set") rfl)
  have m_sorted := He.free_ok X G (cd.fact 39 (f := .free "sorted") rfl)
  have m_str := He.free_ok X G (cd.fact 40 (f := .free "str") rfl)
  have m_sum := He.free_ok X G (cd.fact 41 (f := .free "sum") rfl)
  have m_tuple := He.free_ok X G (cd.fact 42 (f := .free "tuple") rfl)
  have m_zip := He.free_ok X G (cd.fact 43 (f := .free "zip") rfl)
  obtain ⟨t_LETTERS, c_LETTERS⟩ := He.str_ok X G (cd.fact 44 (f := .str "LETTERS" "abcdefghijklmnopqrstuvwxyz") rfl)
  have cl_State : Cls K ((gx w K).C "State") := He.cls_ok (cd.fact 45 (f := .cls "State") rfl)
  have cl_Yard : Cls K ((gx w K).C "Yard") := He.cls_ok (cd.fact 46 (f := .cls "Yard") rfl)
  have na_State_gone : NoAttr K ((gx w K).C "State") "gone" := He.noat_ok (cd.fact 47 (f := .noat "State" "gone") rfl)
  have na_State_lying : NoAttr K ((gx w K).C "State") "lying" := He.noat_ok (cd.fact 48 (f := .noat "State" "lying") rfl)
  have na_State_things : NoAttr K ((gx w K).C "State") "things" := He.noat_ok (cd.fact 49 (f := .noat "State" "things") rfl)
  have na_Yard_book : NoAttr K ((gx w K).C "Yard") "book" := He.noat_ok (cd.fact 50 (f := .noat "Yard" "book") rfl)
  have na_Yard_done : NoAttr K ((gx w K).C "Yard") "done" := He.noat_ok (cd.fact 51 (f := .noat "Yard" "done") rfl)
  have na_Yard_state : NoAttr K ((gx w K).C "Yard") "state" := He.noat_ok (cd.fact 52 (f := .noat "Yard" "state") rfl)
  have na_Yard_undone : NoAttr K ((gx w K).C "Yard") "undone" := He.noat_ok (cd.fact 53 (f := .noat "Yard" "undone") rfl)
  have mt_Yard___len__ := He.meth_ok (cd.fact 54 (f := .meth "Yard" "__len__") rfl)
  have mt_Yard_here := He.meth_ok (cd.fact 55 (f := .meth "Yard" "here") rfl)
  have mt_Yard_sent := He.meth_ok (cd.fact 56 (f := .meth "Yard" "sent") rfl)
  have mt_Yard_deeds := He.meth_ok (cd.fact 57 (f := .meth "Yard" "deeds") rfl)
  have mt_Yard_look_thing := He.meth_ok (cd.fact 58 (f := .meth "Yard" "look_thing") rfl)
  have mt_Yard_become := He.meth_ok (cd.fact 59 (f := .meth "Yard" "become") rfl)
  have mt_Yard_look_worth := He.meth_ok (cd.fact 60 (f := .meth "Yard" "look_worth") rfl)
  have mt_Yard_take_in := He.meth_ok (cd.fact 61 (f := .meth "Yard" "take_in") rfl)
  have mt_Yard_make := He.meth_ok (cd.fact 62 (f := .meth "Yard" "make") rfl)
  have mt_Yard_find := He.meth_ok (cd.fact 63 (f := .meth "Yard" "find") rfl)
  have mt_State_worth := He.meth_ok (cd.fact 64 (f := .meth "State" "worth") rfl)
  have mt_State_holds := He.meth_ok (cd.fact 65 (f := .meth "State" "holds") rfl)
  have mt_State_tree := He.meth_ok (cd.fact 66 (f := .meth "State" "tree") rfl)
  have mt_Yard_tree := He.meth_ok (cd.fact 67 (f := .meth "Yard" "tree") rfl)
  have mt_Yard_worth := He.meth_ok (cd.fact 68 (f := .meth "Yard" "worth") rfl)
  have mt_Yard_holders := He.meth_ok (cd.fact 69 (f := .meth "Yard" "holders") rfl)
  have mt_State_counted := He.meth_ok (cd.fact 70 (f := .meth "State" "counted") rfl)
  have mt_Yard_send := He.meth_ok (cd.fact 71 (f := .meth "Yard" "send") rfl)
  have mt_Yard_counts := He.meth_ok (cd.fact 72 (f := .meth "Yard" "counts") rfl)
  have mt_Yard_false_ones := He.meth_ok (cd.fact 73 (f := .meth "Yard" "false_ones") rfl)
  have mt_Yard_worths := He.meth_ok (cd.fact 74 (f := .meth "Yard" "worths") rfl)
  have mt_Yard___str__ := He.meth_ok (cd.fact 75 (f := .meth "Yard" "__str__") rfl)
  have mk_State := He.mkr_ok (cd.fact 76 (f := .mkr "State") rfl)
  have mk_Yard := He.mkr_ok (cd.fact 77 (f := .mkr "Yard") rfl)
  have gc_State : mg "State" = some (.ref ((gx w K).C "State")) := He.glo_ok X G (cd.fact 78 (f := .glo "State") rfl)
  have gc_Yard : mg "Yard" = some (.ref ((gx w K).C "Yard")) := He.glo_ok X G (cd.fact 79 (f := .glo "Yard") rfl)
  have x_BadBook := xc "BadBook" (by decide +kernel)
  have x_NoLand := xc "NoLand" (by decide +kernel)
  have x_NoThing := xc "NoThing" (by decide +kernel)
  have x_NoWorth := xc "NoWorth" (by decide +kernel)
  obtain ⟨fd_is_number, D_is_number⟩ := cd.def_ 0 (d := dd_is_number) rfl
  have G_is_number : Fun K "is_number" "is_number" s_is_number (He.fAd K ("is_number", none)) fd_is_number := fun_of D_is_number
  obtain ⟨fd_is_name, D_is_name⟩ := cd.def_ 1 (d := dd_is_name) rfl
  have G_is_name : Fun K "is_name" "is_name" s_is_name (He.fAd K ("is_name", none)) fd_is_name := fun_of D_is_name
  obtain ⟨fd_is_rising, D_is_rising⟩ := cd.def_ 2 (d := dd_is_rising) rfl
  have G_is_rising : Fun K "is_rising" "is_rising" s_is_rising (He.fAd K ("is_rising", none)) fd_is_rising := fun_of D_is_rising
  obtain ⟨fd_is_pact, D_is_pact⟩ := cd.def_ 3 (d := dd_is_pact) rfl
  have G_is_pact : Fun K "is_pact" "is_pact" s_is_pact (He.fAd K ("is_pact", none)) fd_is_pact := fun_of D_is_pact
  obtain ⟨fd_names_of, D_names_of⟩ := cd.def_ 4 (d := dd_names_of) rfl
  have G_names_of : Fun K "names_of" "names_of" s_names_of (He.fAd K ("names_of", none)) fd_names_of := fun_of D_names_of
  obtain ⟨fd_row_of, D_row_of⟩ := cd.def_ 5 (d := dd_row_of) rfl
  have G_row_of : Fun K "row_of" "row_of" s_row_of (He.fAd K ("row_of", none)) fd_row_of := fun_of D_row_of
  obtain ⟨fd_takes, D_takes⟩ := cd.def_ 6 (d := dd_takes) rfl
  have G_takes : Fun K "takes" "takes" s_takes (He.fAd K ("takes", none)) fd_takes := fun_of D_takes
  obtain ⟨fd_State___init__, D_State___init__⟩ := cd.def_ 7 (d := dd_State___init__) rfl
  have G_State___init__ : Fun K "__init__" "State.__init__" s_State___init__ (He.fAd K ("State", some "__init__")) fd_State___init__ := fun_of D_State___init__
  obtain ⟨fd_Yard___len__, D_Yard___len__⟩ := cd.def_ 8 (d := dd_Yard___len__) rfl
  have G_Yard___len__ : Fun K "__len__" "Yard.__len__" s_Yard___len__ (He.fAd K ("Yard", some "__len__")) fd_Yard___len__ := fun_of D_Yard___len__
  obtain ⟨fd_Yard_here, D_Yard_here⟩ := cd.def_ 9 (d := dd_Yard_here) rfl
  have G_Yard_here : Fun K "here" "Yard.here" s_Yard_here (He.fAd K ("Yard", some "here")) fd_Yard_here := fun_of D_Yard_here
  obtain ⟨fd_Yard_sent, D_Yard_sent⟩ := cd.def_ 10 (d := dd_Yard_sent) rfl
  have G_Yard_sent : Fun K "sent" "Yard.sent" s_Yard_sent (He.fAd K ("Yard", some "sent")) fd_Yard_sent := fun_of D_Yard_sent
  obtain ⟨fd_Yard_deeds, D_Yard_deeds⟩ := cd.def_ 11 (d := dd_Yard_deeds) rfl
  have G_Yard_deeds : Fun K "deeds" "Yard.deeds" s_Yard_deeds (He.fAd K ("Yard", some "deeds")) fd_Yard_deeds := fun_of D_Yard_deeds
  obtain ⟨fd__law_draw, D__law_draw⟩ := cd.def_ 12 (d := dd__law_draw) rfl
  have G__law_draw : Fun K "_law_draw" "_law_draw" s__law_draw (He.fAd K ("_law_draw", none)) fd__law_draw := fun_of D__law_draw
  obtain ⟨fd__law_begun, D__law_begun⟩ := cd.def_ 13 (d := dd__law_begun) rfl
  have G__law_begun : Fun K "_law_begun" "_law_begun" s__law_begun (He.fAd K ("_law_begun", none)) fd__law_begun := fun_of D__law_begun
  obtain ⟨fd__law_row, D__law_row⟩ := cd.def_ 14 (d := dd__law_row) rfl
  have G__law_row : Fun K "_law_row" "_law_row" s__law_row (He.fAd K ("_law_row", none)) fd__law_row := fun_of D__law_row
  obtain ⟨fd__law_takes, D__law_takes⟩ := cd.def_ 15 (d := dd__law_takes) rfl
  have G__law_takes : Fun K "_law_takes" "_law_takes" s__law_takes (He.fAd K ("_law_takes", none)) fd__law_takes := fun_of D__law_takes
  obtain ⟨fd__law_done, D__law_done⟩ := cd.def_ 16 (d := dd__law_done) rfl
  have G__law_done : Fun K "_law_done" "_law_done" s__law_done (He.fAd K ("_law_done", none)) fd__law_done := fun_of D__law_done
  obtain ⟨fd_is_land, D_is_land⟩ := cd.def_ 17 (d := dd_is_land) rfl
  have G_is_land : Fun K "is_land" "is_land" s_is_land (He.fAd K ("is_land", none)) fd_is_land := fun_of D_is_land
  obtain ⟨fd_look_land, D_look_land⟩ := cd.def_ 18 (d := dd_look_land) rfl
  have G_look_land : Fun K "look_land" "look_land" s_look_land (He.fAd K ("look_land", none)) fd_look_land := fun_of D_look_land
  obtain ⟨fd_is_enough, D_is_enough⟩ := cd.def_ 19 (d := dd_is_enough) rfl
  have G_is_enough : Fun K "is_enough" "is_enough" s_is_enough (He.fAd K ("is_enough", none)) fd_is_enough := fun_of D_is_enough
  obtain ⟨fd_is_none_or_land, D_is_none_or_land⟩ := cd.def_ 20 (d := dd_is_none_or_land) rfl
  have G_is_none_or_land : Fun K "is_none_or_land" "is_none_or_land" s_is_none_or_land (He.fAd K ("is_none_or_land", none)) fd_is_none_or_land := fun_of D_is_none_or_land
  obtain ⟨fd_Yard_look_thing, D_Yard_look_thing⟩ := cd.def_ 21 (d := dd_Yard_look_thing) rfl
  have G_Yard_look_thing : Fun K "look_thing" "Yard.look_thing" s_Yard_look_thing (He.fAd K ("Yard", some "look_thing")) fd_Yard_look_thing := fun_of D_Yard_look_thing
  obtain ⟨fd__law_a_book, D__law_a_book⟩ := cd.def_ 22 (d := dd__law_a_book) rfl
  have G__law_a_book : Fun K "_law_a_book" "_law_a_book" s__law_a_book (He.fAd K ("_law_a_book", none)) fd__law_a_book := fun_of D__law_a_book
  obtain ⟨fd__law_has_share, D__law_has_share⟩ := cd.def_ 23 (d := dd__law_has_share) rfl
  have G__law_has_share : Fun K "_law_has_share" "_law_has_share" s__law_has_share (He.fAd K ("_law_has_share", none)) fd__law_has_share := fun_of D__law_has_share
  obtain ⟨fd__law_a_deed, D__law_a_deed⟩ := cd.def_ 24 (d := dd__law_a_deed) rfl
  have G__law_a_deed : Fun K "_law_a_deed" "_law_a_deed" s__law_a_deed (He.fAd K ("_law_a_deed", none)) fd__law_a_deed := fun_of D__law_a_deed
  obtain ⟨fd_is_book, D_is_book⟩ := cd.def_ 25 (d := dd_is_book) rfl
  have G_is_book : Fun K "is_book" "is_book" s_is_book (He.fAd K ("is_book", none)) fd_is_book := fun_of D_is_book
  obtain ⟨fd_Yard_become, D_Yard_become⟩ := cd.def_ 26 (d := dd_Yard_become) rfl
  have G_Yard_become : Fun K "become" "Yard.become" s_Yard_become (He.fAd K ("Yard", some "become")) fd_Yard_become := fun_of D_Yard_become
  obtain ⟨fd_Yard_look_worth, D_Yard_look_worth⟩ := cd.def_ 27 (d := dd_Yard_look_worth) rfl
  have G_Yard_look_worth : Fun K "look_worth" "Yard.look_worth" s_Yard_look_worth (He.fAd K ("Yard", some "look_worth")) fd_Yard_look_worth := fun_of D_Yard_look_worth
  obtain ⟨fd_Yard___init__, D_Yard___init__⟩ := cd.def_ 28 (d := dd_Yard___init__) rfl
  have G_Yard___init__ : Fun K "__init__" "Yard.__init__" s_Yard___init__ (He.fAd K ("Yard", some "__init__")) fd_Yard___init__ := fun_of D_Yard___init__
  obtain ⟨fd_Yard_take_in, D_Yard_take_in⟩ := cd.def_ 29 (d := dd_Yard_take_in) rfl
  have G_Yard_take_in : Fun K "take_in" "Yard.take_in" s_Yard_take_in (He.fAd K ("Yard", some "take_in")) fd_Yard_take_in := fun_of D_Yard_take_in
  obtain ⟨fd_Yard_make, D_Yard_make⟩ := cd.def_ 30 (d := dd_Yard_make) rfl
  have G_Yard_make : Fun K "make" "Yard.make" s_Yard_make (He.fAd K ("Yard", some "make")) fd_Yard_make := fun_of D_Yard_make
  obtain ⟨fd_Yard_find, D_Yard_find⟩ := cd.def_ 31 (d := dd_Yard_find) rfl
  have G_Yard_find : Fun K "find" "Yard.find" s_Yard_find (He.fAd K ("Yard", some "find")) fd_Yard_find := fun_of D_Yard_find
  obtain ⟨fd_State_worth, D_State_worth⟩ := cd.def_ 32 (d := dd_State_worth) rfl
  have G_State_worth : Fun K "worth" "State.worth" s_State_worth (He.fAd K ("State", some "worth")) fd_State_worth := fun_of D_State_worth
  obtain ⟨fd_State_holds, D_State_holds⟩ := cd.def_ 33 (d := dd_State_holds) rfl
  have G_State_holds : Fun K "holds" "State.holds" s_State_holds (He.fAd K ("State", some "holds")) fd_State_holds := fun_of D_State_holds
  obtain ⟨fd_State_tree, D_State_tree⟩ := cd.def_ 34 (d := dd_State_tree) rfl
  have G_State_tree : Fun K "tree" "State.tree" s_State_tree (He.fAd K ("State", some "tree")) fd_State_tree := fun_of D_State_tree
  obtain ⟨fd__law_worth, D__law_worth⟩ := cd.def_ 35 (d := dd__law_worth) rfl
  have G__law_worth : Fun K "_law_worth" "_law_worth" s__law_worth (He.fAd K ("_law_worth", none)) fd__law_worth := fun_of D__law_worth
  obtain ⟨fd__law_holds, D__law_holds⟩ := cd.def_ 36 (d := dd__law_holds) rfl
  have G__law_holds : Fun K "_law_holds" "_law_holds" s__law_holds (He.fAd K ("_law_holds", none)) fd__law_holds := fun_of D__law_holds
  obtain ⟨fd_Yard_tree, D_Yard_tree⟩ := cd.def_ 37 (d := dd_Yard_tree) rfl
  have G_Yard_tree : Fun K "tree" "Yard.tree" s_Yard_tree (He.fAd K ("Yard", some "tree")) fd_Yard_tree := fun_of D_Yard_tree
  obtain ⟨fd_Yard_worth, D_Yard_worth⟩ := cd.def_ 38 (d := dd_Yard_worth) rfl
  have G_Yard_worth : Fun K "worth" "Yard.worth" s_Yard_worth (He.fAd K ("Yard", some "worth")) fd_Yard_worth := fun_of D_Yard_worth
  obtain ⟨fd_Yard_holders, D_Yard_holders⟩ := cd.def_ 39 (d := dd_Yard_holders) rfl
  have G_Yard_holders : Fun K "holders" "Yard.holders" s_Yard_holders (He.fAd K ("Yard", some "holders")) fd_Yard_holders := fun_of D_Yard_holders
  obtain ⟨fd_State_counted, D_State_counted⟩ := cd.def_ 40 (d := dd_State_counted) rfl
  have G_State_counted : Fun K "counted" "State.counted" s_State_counted (He.fAd K ("State", some "counted")) fd_State_counted := fun_of D_State_counted
  obtain ⟨fd__law_land, D__law_land⟩ := cd.def_ 41 (d := dd__law_land) rfl
  have G__law_land : Fun K "_law_land" "_law_land" s__law_land (He.fAd K ("_law_land", none)) fd__law_land := fun_of D__law_land
  obtain ⟨fd_Yard_send, D_Yard_send⟩ := cd.def_ 42 (d := dd_Yard_send) rfl
  have G_Yard_send : Fun K "send" "Yard.send" s_Yard_send (He.fAd K ("Yard", some "send")) fd_Yard_send := fun_of D_Yard_send
  obtain ⟨fd_Yard_counts, D_Yard_counts⟩ := cd.def_ 43 (d := dd_Yard_counts) rfl
  have G_Yard_counts : Fun K "counts" "Yard.counts" s_Yard_counts (He.fAd K ("Yard", some "counts")) fd_Yard_counts := fun_of D_Yard_counts
  obtain ⟨fd_Yard_false_ones, D_Yard_false_ones⟩ := cd.def_ 44 (d := dd_Yard_false_ones) rfl
  have G_Yard_false_ones : Fun K "false_ones" "Yard.false_ones" s_Yard_false_ones (He.fAd K ("Yard", some "false_ones")) fd_Yard_false_ones := fun_of D_Yard_false_ones
  obtain ⟨fd_Yard_worths, D_Yard_worths⟩ := cd.def_ 45 (d := dd_Yard_worths) rfl
  have G_Yard_worths : Fun K "worths" "Yard.worths" s_Yard_worths (He.fAd K ("Yard", some "worths")) fd_Yard_worths := fun_of D_Yard_worths
  obtain ⟨fd__law_refusal, D__law_refusal⟩ := cd.def_ 46 (d := dd__law_refusal) rfl
  have G__law_refusal : Fun K "_law_refusal" "_law_refusal" s__law_refusal (He.fAd K ("_law_refusal", none)) fd__law_refusal := fun_of D__law_refusal
  obtain ⟨fd_Yard___str__, D_Yard___str__⟩ := cd.def_ 47 (d := dd_Yard___str__) rfl
  have G_Yard___str__ : Fun K "__str__" "Yard.__str__" s_Yard___str__ (He.fAd K ("Yard", some "__str__")) fd_Yard___str__ := fun_of D_Yard___str__
  obtain ⟨fd__law_call, D__law_call⟩ := cd.def_ 48 (d := dd__law_call) rfl
  have G__law_call : Fun K "_law_call" "_law_call" s__law_call (He.fAd K ("_law_call", none)) fd__law_call := fun_of D__law_call
  obtain ⟨fd__law_stands, D__law_stands⟩ := cd.def_ 49 (d := dd__law_stands) rfl
  have G__law_stands : Fun K "_law_stands" "_law_stands" s__law_stands (He.fAd K ("_law_stands", none)) fd__law_stands := fun_of D__law_stands
  obtain ⟨fd_law, D_law⟩ := cd.def_ 50 (d := dd_law) rfl
  have G_law : Fun K "law" "law" s_law (He.fAd K ("law", none)) fd_law := fun_of D_law
  obtain ⟨fd__law_heard, D__law_heard⟩ := cd.def_ 51 (d := dd__law_heard) rfl
  have G__law_heard : Fun K "_law_heard" "_law_heard" s__law_heard (He.fAd K ("_law_heard", none)) fd__law_heard := fun_of D__law_heard
  obtain ⟨fd_NotOf___init__, D_NotOf___init__⟩ := cd.def_ 52 (d := dd_NotOf___init__) rfl
  have G_NotOf___init__ : Fun K "__init__" "NotOf.__init__" s_NotOf___init__ (He.fAd K ("NotOf", some "__init__")) fd_NotOf___init__ := fun_of D_NotOf___init__
  cases hfa.symm.trans g_law
  have bl := FunD.bindsA (ps := ["script"]) D_law fun _ _ _ _ _ _ us hl => match us, hl with | [_], _ => rfl
  refine ⟨fd_law, fun s v => bl s [v] rfl, fun base _ _ TB => ?_⟩
  have O_no := ok_no (P := l.prog) (w := w) (mg := mg) (base := base) G_NotOf___init__ sc_NotOf___init__ (by rfl) (fun X => by rfl)
  have xv_NotOf : XcV l.prog w K mg base "NotOf" := NF.xcv HC O_no (G_NotOf___init__.binds (ps := ["self", "land"]) fun _ _ _ _ _ _ us hl => match us, hl with | [_, _], _ => rfl)
  have HN := NF.cls HC
  have O_is_number : FnOk l.prog w K mg base (L2.CX l.prog w) 1 _ _ ["thing", "least", "most"] (spA K mg 3 S_is_number) := ok_is_number G_is_number m_bool m_int m_isinstance
  have F_is_number : FnR l.prog w K mg base 1 "is_number" 3 S_is_number := ⟨_, _, _, O_is_number, g_is_number, G_is_number.kp, G_is_number.binds (ps := ["thing", "least", "most"]) fun _ _ _ _ _ _ us hl => match us, hl with | [_, _, _], _ => rfl⟩
  have O_is_name : FnOk l.prog w K mg base (L2.CX l.prog w) 1 _ _ ["thing"] (spA K mg 1 S_is_name) := ok_is_name G_is_name m_all m_isinstance m_len m_str c_LETTERS
  have F_is_name : FnR l.prog w K mg base 1 "is_name" 1 S_is_name := ⟨_, _, _, O_is_name, g_is_name, G_is_name.kp, G_is_name.binds (ps := ["thing"]) fun _ _ _ _ _ _ us hl => match us, hl with | [_], _ => rfl⟩
  have O_is_rising : FnOk l.prog w K mg base (L2.CX l.prog w) 1 _ _ ["thing"] (spA K mg 1 S_is_rising) := ok_is_rising G_is_rising m_all m_zip
  have F_is_rising : FnR l.prog w K mg base 1 "is_rising" 1 S_is_rising := ⟨_, _, _, O_is_rising, g_is_rising, G_is_rising.kp, G_is_rising.binds (ps := ["thing"]) fun _ _ _ _ _ _ us hl => match us, hl with | [_], _ => rfl⟩
  have O_is_pact : FnOk l.prog w K mg base (L2.CX l.prog w) 1 _ _ ["thing", "names"] (spA K mg 2 S_is_pact) := ok_is_pact G_is_pact m_all m_isinstance m_len m_str m_tuple
  have F_is_pact : FnR l.prog w K mg base 1 "is_pact" 2 S_is_pact := ⟨_, _, _, O_is_pact, g_is_pact, G_is_pact.kp, G_is_pact.binds (ps := ["thing", "names"]) fun _ _ _ _ _ _ us hl => match us, hl with | [_, _], _ => rfl⟩
  have O_names_of : FnOk l.prog w K mg base (L2.CX l.prog w) 1 _ _ ["book"] (spA K mg 1 S_names_of) := ok_names_of G_names_of 
  have F_names_of : FnR l.prog w K mg base 1 "names_of" 1 S_names_of := ⟨_, _, _, O_names_of, g_names_of, G_names_of.kp, G_names_of.binds (ps := ["book"]) fun _ _ _ _ _ _ us hl => match us, hl with | [_], _ => rfl⟩
  have O_row_of : FnOk l.prog w K mg base (L2.CX l.prog w) 1 _ _ ["book", "land"] (spA K mg 2 S_row_of) := ok_row_of G_row_of 
  have F_row_of : FnR l.prog w K mg base 1 "row_of" 2 S_row_of := ⟨_, _, _, O_row_of, g_row_of, G_row_of.kp, G_row_of.binds (ps := ["book", "land"]) fun _ _ _ _ _ _ us hl => match us, hl with | [_, _], _ => rfl⟩
  have O_takes : FnOk l.prog w K mg base (L2.CX l.prog w) 1 _ _ ["book", "land"] (spA K mg 2 S_takes) := ok_takes G_takes m_sorted m_tuple
  have F_takes : FnR l.prog w K mg base 1 "takes" 2 S_takes := ⟨_, _, _, O_takes, g_takes, G_takes.kp, G_takes.binds (ps := ["book", "land"]) fun _ _ _ _ _ _ us hl => match us, hl with | [_, _], _ => rfl⟩
  have O_State___init__ : FnOk l.prog w K mg base (L2.CX l.prog w) 1 _ _ ["self", "things", "lying", "gone"] (spA K mg 4 (S_State___init__ (gx w K))) := ok_State___init__ (G := gx w K) G_State___init__ cl_State na_State_gone na_State_lying na_State_things
  have MK_State : MkR l.prog w K mg base 1 "State" ((gx w K).C "State") 4 (S_State___init__ (gx w K)) := ⟨_, _, _, O_State___init__, mk_State, gc_State, G_State___init__.binds (ps := ["self", "things", "lying", "gone"]) fun _ _ _ _ _ _ us hl => match us, hl with | [_, _, _, _], _ => rfl⟩
  have O_Yard___len__ : FnOk l.prog w K mg base (L2.CX l.prog w) 1 _ _ ["self"] (spA K mg 1 (S_Yard___len__ (gx w K))) := ok_Yard___len__ (G := gx w K) G_Yard___len__ m_len cl_State cl_Yard na_State_lying na_Yard_state
  have M_Yard___len__ : MtR l.prog w K mg base 1 ((gx w K).C "Yard") "__len__" 1 (S_Yard___len__ (gx w K)) := ⟨_, _, _, O_Yard___len__, mt_Yard___len__, G_Yard___len__.binds (ps := ["self"]) fun _ _ _ _ _ _ us hl => match us, hl with | [_], _ => rfl⟩
  have O_Yard_here : FnOk l.prog w K mg base (L2.CX l.prog w) 1 _ _ ["self"] (spA K mg 1 (S_Yard_here (gx w K))) := ok_Yard_here (G := gx w K) G_Yard_here m_tuple cl_State cl_Yard na_State_lying na_Yard_state
  have M_Yard_here : MtR l.prog w K mg base 1 ((gx w K).C "Yard") "here" 1 (S_Yard_here (gx w K)) := ⟨_, _, _, O_Yard_here, mt_Yard_here, G_Yard_here.binds (ps := ["self"]) fun _ _ _ _ _ _ us hl => match us, hl with | [_], _ => rfl⟩
  have O_Yard_sent : FnOk l.prog w K mg base (L2.CX l.prog w) 1 _ _ ["self"] (spA K mg 1 (S_Yard_sent (gx w K))) := ok_Yard_sent (G := gx w K) G_Yard_sent m_tuple cl_State cl_Yard na_State_gone na_Yard_state
  have M_Yard_sent : MtR l.prog w K mg base 1 ((gx w K).C "Yard") "sent" 1 (S_Yard_sent (gx w K)) := ⟨_, _, _, O_Yard_sent, mt_Yard_sent, G_Yard_sent.binds (ps := ["self"]) fun _ _ _ _ _ _ us hl => match us, hl with | [_], _ => rfl⟩
  have O_Yard_deeds : FnOk l.prog w K mg base (L2.CX l.prog w) 1 _ _ ["self"] (spA K mg 1 (S_Yard_deeds (gx w K))) := ok_Yard_deeds (G := gx w K) G_Yard_deeds m_tuple cl_Yard na_Yard_done
  have M_Yard_deeds : MtR l.prog w K mg base 1 ((gx w K).C "Yard") "deeds" 1 (S_Yard_deeds (gx w K)) := ⟨_, _, _, O_Yard_deeds, mt_Yard_deeds, G_Yard_deeds.binds (ps := ["self"]) fun _ _ _ _ _ _ us hl => match us, hl with | [_], _ => rfl⟩
  have O__law_draw : FnOk l.prog w K mg base (L2.CX l.prog w) 1 _ _ ["script", "town", "many"] (spA K mg 3 S__law_draw) := ok__law_draw G__law_draw m_len
  have F__law_draw : FnR l.prog w K mg base 1 "_law_draw" 3 S__law_draw := ⟨_, _, _, O__law_draw, g__law_draw, G__law_draw.kp, G__law_draw.binds (ps := ["script", "town", "many"]) fun _ _ _ _ _ _ us hl => match us, hl with | [_, _, _], _ => rfl⟩
  have O__law_begun : FnOk l.prog w K mg base (L2.CX l.prog w) 1 _ _ [] (spA K mg 0 S__law_begun) := ok__law_begun G__law_begun 
  have F__law_begun : FnR l.prog w K mg base 1 "_law_begun" 0 S__law_begun := ⟨_, _, _, O__law_begun, g__law_begun, G__law_begun.kp, G__law_begun.binds (ps := []) fun _ _ _ _ _ _ us hl => match us, hl with | [], _ => rfl⟩
  have O__law_row : FnOk l.prog w K mg base (L2.CX l.prog w) 1 _ _ ["book_here", "land_here"] (spA K mg 2 S__law_row) := ok__law_row G__law_row 
  have F__law_row : FnR l.prog w K mg base 1 "_law_row" 2 S__law_row := ⟨_, _, _, O__law_row, g__law_row, G__law_row.kp, G__law_row.binds (ps := ["book_here", "land_here"]) fun _ _ _ _ _ _ us hl => match us, hl with | [_, _], _ => rfl⟩
  have O__law_takes : FnOk l.prog w K mg base (L2.CX l.prog w) 1 _ _ ["book_here", "land_here"] (spA K mg 2 S__law_takes) := ok__law_takes G__law_takes m_sorted
  have F__law_takes : FnR l.prog w K mg base 1 "_law_takes" 2 S__law_takes := ⟨_, _, _, O__law_takes, g__law_takes, G__law_takes.kp, G__law_takes.binds (ps := ["book_here", "land_here"]) fun _ _ _ _ _ _ us hl => match us, hl with | [_, _], _ => rfl⟩
  have O__law_done : FnOk l.prog w K mg base (L2.CX l.prog w) 1 _ _ ["plain", "word", "some"] (spA K mg 3 S__law_done) := ok__law_done G__law_done m_len
  have F__law_done : FnR l.prog w K mg base 1 "_law_done" 3 S__law_done := ⟨_, _, _, O__law_done, g__law_done, G__law_done.kp, G__law_done.binds (ps := ["plain", "word", "some"]) fun _ _ _ _ _ _ us hl => match us, hl with | [_, _, _], _ => rfl⟩
  have O_is_land : FnOk l.prog w K mg base (L2.CX l.prog w) 2 _ _ ["thing"] (spA K mg 1 S_is_land) := ok_is_land G_is_land m_isinstance m_len m_tuple F_is_name F_is_number
  have F_is_land : FnR l.prog w K mg base 2 "is_land" 1 S_is_land := ⟨_, _, _, O_is_land, g_is_land, G_is_land.kp, G_is_land.binds (ps := ["thing"]) fun _ _ _ _ _ _ us hl => match us, hl with | [_], _ => rfl⟩
  have O_look_land : FnOk l.prog w K mg base (L2.CX l.prog w) 2 _ _ ["book", "land"] (spA K mg 2 S_look_land) := ok_look_land G_look_land m_isinstance m_str F_names_of x_NoLand
  have F_look_land : FnR l.prog w K mg base 2 "look_land" 2 S_look_land := ⟨_, _, _, O_look_land, g_look_land, G_look_land.kp, G_look_land.binds (ps := ["book", "land"]) fun _ _ _ _ _ _ us hl => match us, hl with | [_, _], _ => rfl⟩
  have O_is_enough : FnOk l.prog w K mg base (L2.CX l.prog w) 2 _ _ ["book", "land", "counting", "whole"] (spA K mg 4 S_is_enough) := ok_is_enough G_is_enough F_row_of
  have F_is_enough : FnR l.prog w K mg base 2 "is_enough" 4 S_is_enough := ⟨_, _, _, O_is_enough, g_is_enough, G_is_enough.kp, G_is_enough.binds (ps := ["book", "land", "counting", "whole"]) fun _ _ _ _ _ _ us hl => match us, hl with | [_, _, _, _], _ => rfl⟩
  have O_is_none_or_land : FnOk l.prog w K mg base (L2.CX l.prog w) 2 _ _ ["book", "thing"] (spA K mg 2 S_is_none_or_land) := ok_is_none_or_land G_is_none_or_land m_isinstance m_str F_names_of
  have F_is_none_or_land : FnR l.prog w K mg base 2 "is_none_or_land" 2 S_is_none_or_land := ⟨_, _, _, O_is_none_or_land, g_is_none_or_land, G_is_none_or_land.kp, G_is_none_or_land.binds (ps := ["book", "thing"]) fun _ _ _ _ _ _ us hl => match us, hl with | [_, _], _ => rfl⟩
  have O_Yard_look_thing : FnOk l.prog w K mg base (L2.CX l.prog w) 2 _ _ ["self", "thing"] (spA K mg 2 (S_Yard_look_thing (gx w K))) := ok_Yard_look_thing (G := gx w K) G_Yard_look_thing m_len F_is_number cl_State cl_Yard na_State_things na_Yard_state x_NoThing
  have M_Yard_look_thing : MtR l.prog w K mg base 2 ((gx w K).C "Yard") "look_thing" 2 (S_Yard_look_thing (gx w K)) := ⟨_, _, _, O_Yard_look_thing, mt_Yard_look_thing, G_Yard_look_thing.binds (ps := ["self", "thing"]) fun _ _ _ _ _ _ us hl => match us, hl with | [_, _], _ => rfl⟩
  have O__law_a_book : FnOk l.prog w K mg base (L2.CX l.prog w) 2 _ _ ["script", "town"] (spA K mg 2 S__law_a_book) := ok__law_a_book G__law_a_book m_tuple F__law_draw
  have F__law_a_book : FnR l.prog w K mg base 2 "_law_a_book" 2 S__law_a_book := ⟨_, _, _, O__law_a_book, g__law_a_book, G__law_a_book.kp, G__law_a_book.binds (ps := ["script", "town"]) fun _ _ _ _ _ _ us hl => match us, hl with | [_, _], _ => rfl⟩
  have O__law_has_share : FnOk l.prog w K mg base (L2.CX l.prog w) 2 _ _ ["book_here", "land_here", "counting", "whole"] (spA K mg 4 S__law_has_share) := ok__law_has_share G__law_has_share F__law_row
  have F__law_has_share : FnR l.prog w K mg base 2 "_law_has_share" 4 S__law_has_share := ⟨_, _, _, O__law_has_share, g__law_has_share, G__law_has_share.kp, G__law_has_share.binds (ps := ["book_here", "land_here", "counting", "whole"]) fun _ _ _ _ _ _ us hl => match us, hl with | [_, _, _, _], _ => rfl⟩
  have O__law_a_deed : FnOk l.prog w K mg base (L2.CX l.prog w) 2 _ _ ["script", "town", "book_here", "plain"] (spA K mg 4 S__law_a_deed) := ok__law_a_deed G__law_a_deed m_len m_range m_set m_sorted m_tuple F__law_draw
  have F__law_a_deed : FnR l.prog w K mg base 2 "_law_a_deed" 4 S__law_a_deed := ⟨_, _, _, O__law_a_deed, g__law_a_deed, G__law_a_deed.kp, G__law_a_deed.binds (ps := ["script", "town", "book_here", "plain"]) fun _ _ _ _ _ _ us hl => match us, hl with | [_, _, _, _], _ => rfl⟩
  have O_is_book : FnOk l.prog w K mg base (L2.CX l.prog w) 3 _ _ ["thing"] (spA K mg 1 S_is_book) := ok_is_book G_is_book m_all m_isinstance m_len m_tuple F_is_land F_is_pact F_is_rising
  have F_is_book : FnR l.prog w K mg base 3 "is_book" 1 S_is_book := ⟨_, _, _, O_is_book, g_is_book, G_is_book.kp, G_is_book.binds (ps := ["thing"]) fun _ _ _ _ _ _ us hl => match us, hl with | [_], _ => rfl⟩
  have O_Yard_become : FnOk l.prog w K mg base (L2.CX l.prog w) 3 _ _ ["self", "deed", "things", "lying", "gone"] (spA K mg 5 (S_Yard_become (gx w K))) := ok_Yard_become (G := gx w K) G_Yard_become cl_Yard na_Yard_done na_Yard_state na_Yard_undone MK_State
  have M_Yard_become : MtR l.prog w K mg base 3 ((gx w K).C "Yard") "become" 5 (S_Yard_become (gx w K)) := ⟨_, _, _, O_Yard_become, mt_Yard_become, G_Yard_become.binds (ps := ["self", "deed", "things", "lying", "gone"]) fun _ _ _ _ _ _ us hl => match us, hl with | [_, _, _, _, _], _ => rfl⟩
  have O_Yard_look_worth : FnOk l.prog w K mg base (L2.CX l.prog w) 3 _ _ ["self", "worth", "land"] (spA K mg 3 (S_Yard_look_worth (gx w K))) := ok_Yard_look_worth (G := gx w K) G_Yard_look_worth F_is_none_or_land F_is_number cl_Yard na_Yard_book x_NoLand x_NoWorth
  have M_Yard_look_worth : MtR l.prog w K mg base 3 ((gx w K).C "Yard") "look_worth" 3 (S_Yard_look_worth (gx w K)) := ⟨_, _, _, O_Yard_look_worth, mt_Yard_look_worth, G_Yard_look_worth.binds (ps := ["self", "worth", "land"]) fun _ _ _ _ _ _ us hl => match us, hl with | [_, _, _], _ => rfl⟩
  have O_Yard___init__ : FnOk l.prog w K mg base (L2.CX l.prog w) 4 _ _ ["self", "book"] (spA K mg 2 (S_Yard___init__ (gx w K))) := ok_Yard___init__ (G := gx w K) G_Yard___init__ F_is_book cl_Yard na_Yard_book na_Yard_done na_Yard_state na_Yard_undone MK_State x_BadBook
  have MK_Yard : MkR l.prog w K mg base 4 "Yard" ((gx w K).C "Yard") 2 (S_Yard___init__ (gx w K)) := ⟨_, _, _, O_Yard___init__, mk_Yard, gc_Yard, G_Yard___init__.binds (ps := ["self", "book"]) fun _ _ _ _ _ _ us hl => match us, hl with | [_, _], _ => rfl⟩
  have MN_Yard_book : MkKR l.prog w K mg base 4 "Yard" ((gx w K).C "Yard") ["book"] (S_Yard___init__ (gx w K)) := ⟨_, _, _, O_Yard___init__, mk_Yard, gc_Yard, kbinds (ks := ["book"]) (np := 1) G_Yard___init__ (by simp) fun _ _ _ _ _ _ us ws h1 h2 => match us, ws, h1, h2 with | [_], [_], _, _ => rfl⟩
  have O_Yard_take_in : FnOk l.prog w K mg base (L2.CX l.prog w) 4 _ _ ["self", "worth", "land"] (spA K mg 3 (S_Yard_take_in (gx w K))) := ok_Yard_take_in (G := gx w K) G_Yard_take_in m_len cl_State cl_Yard na_State_gone na_State_lying na_State_things na_Yard_state M_Yard_become M_Yard_look_worth
  have M_Yard_take_in : MtR l.prog w K mg base 4 ((gx w K).C "Yard") "take_in" 3 (S_Yard_take_in (gx w K)) := ⟨_, _, _, O_Yard_take_in, mt_Yard_take_in, G_Yard_take_in.binds (ps := ["self", "worth", "land"]) fun _ _ _ _ _ _ us hl => match us, hl with | [_, _, _], _ => rfl⟩
  have O_Yard_make : FnOk l.prog w K mg base (L2.CX l.prog w) 4 _ _ ["self", "land", "things"] (spA K mg 3 (S_Yard_make (gx w K))) := ok_Yard_make (G := gx w K) G_Yard_make m_all m_isinstance m_len m_list m_set m_tuple F_is_number F_look_land cl_State cl_Yard na_State_gone na_State_lying na_State_things na_Yard_book na_Yard_state M_Yard_become x_NoThing
  have M_Yard_make : MtR l.prog w K mg base 4 ((gx w K).C "Yard") "make" 3 (S_Yard_make (gx w K)) := ⟨_, _, _, O_Yard_make, mt_Yard_make, G_Yard_make.binds (ps := ["self", "land", "things"]) fun _ _ _ _ _ _ us hl => match us, hl with | [_, _, _], _ => rfl⟩
  have O_Yard_find : FnOk l.prog w K mg base (L2.CX l.prog w) 4 _ _ ["self", "thing", "worth", "land"] (spA K mg 4 (S_Yard_find (gx w K))) := ok_Yard_find (G := gx w K) G_Yard_find m_isinstance m_list cl_State cl_Yard na_State_gone na_State_lying na_State_things na_Yard_state M_Yard_become M_Yard_look_thing M_Yard_look_worth x_NoThing
  have M_Yard_find : MtR l.prog w K mg base 4 ((gx w K).C "Yard") "find" 4 (S_Yard_find (gx w K)) := ⟨_, _, _, O_Yard_find, mt_Yard_find, G_Yard_find.binds (ps := ["self", "thing", "worth", "land"]) fun _ _ _ _ _ _ us hl => match us, hl with | [_, _, _, _], _ => rfl⟩
  have R_State_worth : ∀ d, MtR l.prog w K mg base (0 + d) ((gx w K).C "State") "worth" 2 (SR_State_worth (gx w K) d) := fun d => by
    have hb := G_State_worth.binds (ps := ["self", "n"]) fun _ _ _ _ _ _ us hl => match us, hl with | [_, _], _ => rfl
    induction d with
    | zero => exact ⟨_, _, ["self", "n"], fn_no (no_State_worth (gx w K)), mt_State_worth, hb⟩
    | succ d ih => exact ⟨_, _, _, ok_State_worth (G := gx w K) G_State_worth (bo_State_worth (gx w K) N_State_worth rfl d) ih m_isinstance m_list m_sum cl_State na_State_things, mt_State_worth, hb⟩
  have M_State_worth : MtR l.prog w K mg base 40 ((gx w K).C "State") "worth" 2 (S_State_worth (gx w K)) := R_State_worth 40
  have R_State_holds : ∀ d, MtR l.prog w K mg base (0 + d) ((gx w K).C "State") "holds" 3 (SR_State_holds (gx w K) d) := fun d => by
    have hb := G_State_holds.binds (ps := ["self", "n", "thing"]) fun _ _ _ _ _ _ us hl => match us, hl with | [_, _, _], _ => rfl
    induction d with
    | zero => exact ⟨_, _, ["self", "n", "thing"], fn_no (no_State_holds (gx w K)), mt_State_holds, hb⟩
    | succ d ih => exact ⟨_, _, _, ok_State_holds (G := gx w K) G_State_holds (bo_State_holds (gx w K) N_State_holds rfl d) ih m_any m_isinstance m_list cl_State na_State_things, mt_State_holds, hb⟩
  have M_State_holds : MtR l.prog w K mg base 40 ((gx w K).C "State") "holds" 3 (S_State_holds (gx w K)) := R_State_holds 40
  have R_State_tree : ∀ d, MtR l.prog w K mg base (0 + d) ((gx w K).C "State") "tree" 2 (SR_State_tree (gx w K) d) := fun d => by
    have hb := G_State_tree.binds (ps := ["self", "n"]) fun _ _ _ _ _ _ us hl => match us, hl with | [_, _], _ => rfl
    induction d with
    | zero => exact ⟨_, _, ["self", "n"], fn_no (no_State_tree (gx w K)), mt_State_tree, hb⟩
    | succ d ih => exact ⟨_, _, _, ok_State_tree (G := gx w K) G_State_tree (bo_State_tree (gx w K) N_State_tree rfl d) ih m_isinstance m_list m_tuple cl_State na_State_things, mt_State_tree, hb⟩
  have M_State_tree : MtR l.prog w K mg base 40 ((gx w K).C "State") "tree" 2 (S_State_tree (gx w K)) := R_State_tree 40
  have R__law_worth : ∀ d, FnR l.prog w K mg base (0 + d) "_law_worth" 2 (SR__law_worth d) := fun d => by
    have hb := G__law_worth.binds (ps := ["plain", "n"]) fun _ _ _ _ _ _ us hl => match us, hl with | [_, _], _ => rfl
    induction d with
    | zero => exact ⟨_, _, ["plain", "n"], fn_no no__law_worth, g__law_worth, G__law_worth.kp, hb⟩
    | succ d ih => exact ⟨_, _, _, ok__law_worth G__law_worth (bo__law_worth N__law_worth rfl d) ih m_isinstance m_sum m_tuple, g__law_worth, G__law_worth.kp, hb⟩
  have F__law_worth : FnR l.prog w K mg base 40 "_law_worth" 2 S__law_worth := R__law_worth 40
  have R__law_holds : ∀ d, FnR l.prog w K mg base (0 + d) "_law_holds" 3 (SR__law_holds d) := fun d => by
    have hb := G__law_holds.binds (ps := ["plain", "n", "thing_here"]) fun _ _ _ _ _ _ us hl => match us, hl with | [_, _, _], _ => rfl
    induction d with
    | zero => exact ⟨_, _, ["plain", "n", "thing_here"], fn_no no__law_holds, g__law_holds, G__law_holds.kp, hb⟩
    | succ d ih => exact ⟨_, _, _, ok__law_holds G__law_holds (bo__law_holds N__law_holds rfl d) ih m_isinstance m_tuple, g__law_holds, G__law_holds.kp, hb⟩
  have F__law_holds : FnR l.prog w K mg base 40 "_law_holds" 3 S__law_holds := R__law_holds 40
  have O_Yard_tree : FnOk l.prog w K mg base (L2.CX l.prog w) 41 _ _ ["self", "thing"] (spA K mg 2 (S_Yard_tree (gx w K))) := ok_Yard_tree (G := gx w K) G_Yard_tree cl_State cl_Yard na_Yard_state M_State_tree M_Yard_look_thing
  have M_Yard_tree : MtR l.prog w K mg base 41 ((gx w K).C "Yard") "tree" 2 (S_Yard_tree (gx w K)) := ⟨_, _, _, O_Yard_tree, mt_Yard_tree, G_Yard_tree.binds (ps := ["self", "thing"]) fun _ _ _ _ _ _ us hl => match us, hl with | [_, _], _ => rfl⟩
  have O_Yard_worth : FnOk l.prog w K mg base (L2.CX l.prog w) 41 _ _ ["self", "thing"] (spA K mg 2 (S_Yard_worth (gx w K))) := ok_Yard_worth (G := gx w K) G_Yard_worth cl_State cl_Yard na_Yard_state M_State_worth M_Yard_look_thing
  have M_Yard_worth : MtR l.prog w K mg base 41 ((gx w K).C "Yard") "worth" 2 (S_Yard_worth (gx w K)) := ⟨_, _, _, O_Yard_worth, mt_Yard_worth, G_Yard_worth.binds (ps := ["self", "thing"]) fun _ _ _ _ _ _ us hl => match us, hl with | [_, _], _ => rfl⟩
  have MW_Yard_worth_thing : MtKR l.prog w K mg base 41 ((gx w K).C "Yard") "worth" ["thing"] (S_Yard_worth (gx w K)) := ⟨_, _, _, O_Yard_worth, mt_Yard_worth, kbinds (ks := ["thing"]) (np := 1) G_Yard_worth (by simp) fun _ _ _ _ _ _ us ws h1 h2 => match us, ws, h1, h2 with | [_], [_], _, _ => rfl⟩
  have O_Yard_holders : FnOk l.prog w K mg base (L2.CX l.prog w) 41 _ _ ["self", "thing"] (spA K mg 2 (S_Yard_holders (gx w K))) := ok_Yard_holders (G := gx w K) G_Yard_holders m_len m_list m_range m_tuple cl_State cl_Yard na_State_things na_Yard_state M_State_holds M_Yard_look_thing
  have M_Yard_holders : MtR l.prog w K mg base 41 ((gx w K).C "Yard") "holders" 2 (S_Yard_holders (gx w K)) := ⟨_, _, _, O_Yard_holders, mt_Yard_holders, G_Yard_holders.binds (ps := ["self", "thing"]) fun _ _ _ _ _ _ us hl => match us, hl with | [_, _], _ => rfl⟩
  have MW_Yard_holders_thing : MtKR l.prog w K mg base 41 ((gx w K).C "Yard") "holders" ["thing"] (S_Yard_holders (gx w K)) := ⟨_, _, _, O_Yard_holders, mt_Yard_holders, kbinds (ks := ["thing"]) (np := 1) G_Yard_holders (by simp) fun _ _ _ _ _ _ us ws h1 h2 => match us, ws, h1, h2 with | [_], [_], _, _ => rfl⟩
  have R_State_counted : ∀ d, MtR l.prog w K mg base (40 + d) ((gx w K).C "State") "counted" 3 (SR_State_counted (gx w K) d) := fun d => by
    have hb := G_State_counted.binds (ps := ["self", "book", "n"]) fun _ _ _ _ _ _ us hl => match us, hl with | [_, _, _], _ => rfl
    induction d with
    | zero => exact ⟨_, _, ["self", "book", "n"], fn_no (no_State_counted (gx w K)), mt_State_counted, hb⟩
    | succ d ih => exact ⟨_, _, _, ok_State_counted (G := gx w K) G_State_counted (bo_State_counted (gx w K) N_State_counted rfl d) ih m_isinstance m_list F_is_enough F_takes cl_State na_State_things M_State_worth, mt_State_counted, hb⟩
  have M_State_counted : MtR l.prog w K mg base 80 ((gx w K).C "State") "counted" 3 (S_State_counted (gx w K)) := R_State_counted 40
  have R__law_land : ∀ d, FnR l.prog w K mg base (40 + d) "_law_land" 3 (SR__law_land d) := fun d => by
    have hb := G__law_land.binds (ps := ["book_here", "plain", "n"]) fun _ _ _ _ _ _ us hl => match us, hl with | [_, _, _], _ => rfl
    induction d with
    | zero => exact ⟨_, _, ["book_here", "plain", "n"], fn_no no__law_land, g__law_land, G__law_land.kp, hb⟩
    | succ d ih => exact ⟨_, _, _, ok__law_land G__law_land (bo__law_land N__law_land rfl d) ih m_isinstance m_tuple F__law_has_share F__law_takes F__law_worth, g__law_land, G__law_land.kp, hb⟩
  have F__law_land : FnR l.prog w K mg base 80 "_law_land" 3 S__law_land := R__law_land 40
  have O_Yard_send : FnOk l.prog w K mg base (L2.CX l.prog w) 81 _ _ ["self", "thing", "land"] (spA K mg 3 (S_Yard_send (gx w K))) := ok_Yard_send (G := gx w K) G_Yard_send m_len F_is_number F_look_land cl_State cl_Yard na_State_gone na_State_lying na_State_things na_Yard_book na_Yard_state M_State_counted M_Yard_become x_NoThing xv_NotOf
  have M_Yard_send : MtR l.prog w K mg base 81 ((gx w K).C "Yard") "send" 3 (S_Yard_send (gx w K)) := ⟨_, _, _, O_Yard_send, mt_Yard_send, G_Yard_send.binds (ps := ["self", "thing", "land"]) fun _ _ _ _ _ _ us hl => match us, hl with | [_, _, _], _ => rfl⟩
  have O_Yard_counts : FnOk l.prog w K mg base (L2.CX l.prog w) 81 _ _ ["self", "thing"] (spA K mg 2 (S_Yard_counts (gx w K))) := ok_Yard_counts (G := gx w K) G_Yard_counts cl_State cl_Yard na_Yard_book na_Yard_state M_State_counted M_Yard_look_thing
  have M_Yard_counts : MtR l.prog w K mg base 81 ((gx w K).C "Yard") "counts" 2 (S_Yard_counts (gx w K)) := ⟨_, _, _, O_Yard_counts, mt_Yard_counts, G_Yard_counts.binds (ps := ["self", "thing"]) fun _ _ _ _ _ _ us hl => match us, hl with | [_, _], _ => rfl⟩
  have MW_Yard_counts_thing : MtKR l.prog w K mg base 81 ((gx w K).C "Yard") "counts" ["thing"] (S_Yard_counts (gx w K)) := ⟨_, _, _, O_Yard_counts, mt_Yard_counts, kbinds (ks := ["thing"]) (np := 1) G_Yard_counts (by simp) fun _ _ _ _ _ _ us ws h1 h2 => match us, ws, h1, h2 with | [_], [_], _, _ => rfl⟩
  have O_Yard_false_ones : FnOk l.prog w K mg base (L2.CX l.prog w) 81 _ _ ["self"] (spA K mg 1 (S_Yard_false_ones (gx w K))) := ok_Yard_false_ones (G := gx w K) G_Yard_false_ones m_sorted m_tuple cl_State cl_Yard na_State_gone na_Yard_book na_Yard_state M_State_counted
  have M_Yard_false_ones : MtR l.prog w K mg base 81 ((gx w K).C "Yard") "false_ones" 1 (S_Yard_false_ones (gx w K)) := ⟨_, _, _, O_Yard_false_ones, mt_Yard_false_ones, G_Yard_false_ones.binds (ps := ["self"]) fun _ _ _ _ _ _ us hl => match us, hl with | [_], _ => rfl⟩
  have O_Yard_worths : FnOk l.prog w K mg base (L2.CX l.prog w) 81 _ _ ["self"] (spA K mg 1 (S_Yard_worths (gx w K))) := ok_Yard_worths (G := gx w K) G_Yard_worths m_dict m_sorted m_tuple F_names_of cl_State cl_Yard na_State_lying na_Yard_book na_Yard_state M_State_counted M_State_worth
  have M_Yard_worths : MtR l.prog w K mg base 81 ((gx w K).C "Yard") "worths" 1 (S_Yard_worths (gx w K)) := ⟨_, _, _, O_Yard_worths, mt_Yard_worths, G_Yard_worths.binds (ps := ["self"]) fun _ _ _ _ _ _ us hl => match us, hl with | [_], _ => rfl⟩
  have O__law_refusal : FnOk l.prog w K mg base (L2.CX l.prog w) 81 _ _ ["book_here", "plain", "word", "some"] (spA K mg 4 S__law_refusal) := ok__law_refusal G__law_refusal m_isinstance m_len m_set m_tuple F__law_land
  have F__law_refusal : FnR l.prog w K mg base 81 "_law_refusal" 4 S__law_refusal := ⟨_, _, _, O__law_refusal, g__law_refusal, G__law_refusal.kp, G__law_refusal.binds (ps := ["book_here", "plain", "word", "some"]) fun _ _ _ _ _ _ us hl => match us, hl with | [_, _, _, _], _ => rfl⟩
  have O_Yard___str__ : FnOk l.prog w K mg base (L2.CX l.prog w) 82 _ _ ["self"] (spA K mg 1 (S_Yard___str__ (gx w K))) := ok_Yard___str__ (G := gx w K) G_Yard___str__ m_len cl_State cl_Yard na_State_gone na_State_lying na_Yard_state M_Yard_false_ones
  have M_Yard___str__ : MtR l.prog w K mg base 82 ((gx w K).C "Yard") "__str__" 1 (S_Yard___str__ (gx w K)) := ⟨_, _, _, O_Yard___str__, mt_Yard___str__, G_Yard___str__.binds (ps := ["self"]) fun _ _ _ _ _ _ us hl => match us, hl with | [_], _ => rfl⟩
  have O__law_call : FnOk l.prog w K mg base (L2.CX l.prog w) 82 _ _ ["yard", "word", "some"] (spA K mg 3 (S__law_call (gx w K))) := ok__law_call (G := gx w K) G__law_call cl_Yard M_Yard_find M_Yard_make M_Yard_send M_Yard_take_in
  have F__law_call : FnR l.prog w K mg base 82 "_law_call" 3 (S__law_call (gx w K)) := ⟨_, _, _, O__law_call, g__law_call, G__law_call.kp, G__law_call.binds (ps := ["yard", "word", "some"]) fun _ _ _ _ _ _ us hl => match us, hl with | [_, _, _], _ => rfl⟩
  have O__law_stands : FnOk l.prog w K mg base (L2.CX l.prog w) 85 _ _ ["book_here", "yard", "plain", "deeds"] (spA K mg 4 (S__law_stands (gx w K))) := ok__law_stands (G := gx w K) G__law_stands m_len m_range m_sorted m_str m_sum m_tuple F__law_holds F__law_land F__law_worth cl_Yard M_Yard___len__ M_Yard___str__ M_Yard_deeds M_Yard_false_ones M_Yard_here M_Yard_sent M_Yard_worths MW_Yard_counts_thing MW_Yard_holders_thing MW_Yard_worth_thing
  have F__law_stands : FnR l.prog w K mg base 85 "_law_stands" 4 (S__law_stands (gx w K)) := ⟨_, _, _, O__law_stands, g__law_stands, G__law_stands.kp, G__law_stands.binds (ps := ["book_here", "yard", "plain", "deeds"]) fun _ _ _ _ _ _ us hl => match us, hl with | [_, _, _, _], _ => rfl⟩
  exact ok_endT (G := gx w K) rfl (by rw [gx_ts]; exact cnd) (ok_law (G := gx w K) G_law m_range F__law_a_book F__law_a_deed F__law_begun F__law_call F__law_done F__law_refusal F__law_stands cl_Yard M_Yard_make M_Yard_tree M_Yard_worth MK_Yard MN_Yard_book (fun cdv e => code_law G_law e) (TB ("law", none) (by simp [hTf])) G__law_heard g__law_heard HN m_isinstance m_len m_ValueError)
def loose0 : List PySem.Str := ["CountError", "NoLand", "NoPath", "TooMany", "NoClaims", "NoThing", "NoWorth", "BadBook", "NoBack", "NoText", "NotOf", "LETTERS", "is_number", "is_name", "is_rising", "is_land", "is_pact", "is_book", "names_of", "look_land", "row_of", "takes", "is_enough", "is_none_or_land", "State", "Yard", "_law_heard", "_law_draw", "_law_begun", "_law_a_book"]
def loose1 : List PySem.Str := ["_law_a_heap", "_law_row", "_law_takes", "_law_has_share", "_law_worth", "_law_land", "_law_a_deed", "_law_refusal", "_law_done", "_law_call", "_law_holds", "_law_stands"]
def loose : List PySem.Str := loose0 ++ loose1
abbrev hk : PySem.W.Hook := He.hookX 4 hFa hFn [] hTf (exTN ["BadBook", "NoLand", "NoThing", "NoWorth"] hTf)
def ob (s : PySem.W.SharedT) : He.AlX := He.obsX 4 hFa hFn [] hTf (exTN ["BadBook", "NoLand", "NoThing", "NoWorth"] hTf) (HandSHeadRun.getT s)
theorem ob_eq (s : PySem.W.SharedT) : ob s = hk.obs s.abs := He.obsX_eq (HandSHeadRun.getT_eq s)
set_option maxHeartbeats 0 in
theorem run (w : World) : HandSHeadRun.RunEq (PySem.W.OpenLaw.row PySem.Challenge.rw_countsfrom_k30_yards) (PySem.W.view (PySem.W.OpenLaw.row PySem.Challenge.rw_countsfrom_k30_yards).prog [47]) hk ob 20000 loose w := by
  intro os
  kernel_rfl
end DL
open PySem PySem.W PySem.Calls PyProof.Rows
set_option maxRecDepth 100000 in
set_option maxHeartbeats 0 in
theorem PySem.Challenge.cw_countsfrom_k30_yards_holds : PySem.Challenge.rw_countsfrom_k30_yards.Holds := by
  w_on; o_law
  refine HandSHeadRun.head_any (r := (PySem.W.OpenLaw.row PySem.Challenge.rw_countsfrom_k30_yards)) (q := view (PySem.W.OpenLaw.row PySem.Challenge.rw_countsfrom_k30_yards).prog [47]) (H := DL.hk) (ob := DL.ob) (M := 20000) (loose := DL.loose) (d := HandSHeadRun.topDef (PySem.W.OpenLaw.row PySem.Challenge.rw_countsfrom_k30_yards).prog 47) (kwd := []) DL.ob_eq
    (by kernel_rfl) (fun s => by kernel_rfl) DL.run (by kernel_rfl) (by kernel_rfl) (by kernel_rfl) (by rfl) (by first | assumption | decide +kernel) (by decide +kernel) ⟨rfl, rfl, rfl, rfl, rfl, by decide +kernel⟩ ?hw ?hc
  case hw => w_witness2
  case hc =>
    refine DL.walkT (l := PySem.Challenge.rw_countsfrom_k30_yards) (k := 88) rfl (by kernel_rfl) (by kernel_rfl) ⟨rfl, by decide, by decide⟩ ?F
    intro w K mg f h KX G hmg c
    exact DL.all_mk KX G hmg c

