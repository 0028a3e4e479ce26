import PyProof.Rows.All
import Wide.All
import OpenK.AllK
import Wide.FinOn
import HandS.ForMost
import HandS.ForExc
import KE.KDictKeyed
import KE.KeyNested
import HandS.Wide
import HandS.TupAny
import HandS.TupMul
import HandS.Deep
import HandS.IsInst
import HandS.Small
import KE.KDictDisplayH
import HandS.Dict
import HandS.RaiseMore
import HandS.CallSlots
import HandS.ExcCtx
import HandS.More
import HandS.SortInts
import HandS.TupSets
import HandS.Conv
import KE.GoesEnum
import HandS.Zip
import KE.SortData
import HandS.SetFor
import HandS.ExcIs
import KE.KExcIs
import PySem.Challenge.RW_roadsall_k93_what_a_plan_has
set_option Elab.async false
set_option linter.all false
set_option maxRecDepth 100000
set_option maxHeartbeats 4000000
/-! R1: data without addresses, what a frame's names hold, how both lie in the heap. -/
namespace R
open PySem PySem.Spec PyProof.Rows L2

abbrev St := L2.St
/-- the module's names, the world -/
structure MG where
  f : Str → Option Value
  w : World
instance : CoeFun MG (fun _ => Str → Option Value) := ⟨MG.f⟩
abbrev _root_.L2.Cx.wg (X : L2.Cx) : MG := ⟨X.mg, X.w⟩
/-- a dict's key: an int or a text; a tuple of such; a nested tuple -/
abbrev DKey := Sum Key (Sum (List Key) NestedKey)
/-- data that never changes any more -/
inductive D where
  | non | bl (b : Bool) | int (i : Int) | str (x : Str)
  | tup (ds : List D) | lst (ds : List D) | dic (t : Nat) (ps : List (DKey × D)) | ins (C : Str) (fs : List (Str × D)) | scr (ns : List Int) | kt (ds : List D) | ty (n : String) | exn (C : Str) (fs : List (Str × D)) | cls (C : Str)
  deriving Inhabited
mutual
/-- data as a nested key -/
def D.nk : D → Option NestedKey
  | .non => some .none | .bl b => some (.num (if b = true then 1 else 0)) | .int i => some (.num i) | .str x => some (.text x)
  | .tup ds => match D.nks ds with | some ks => some (.tup ks) | none => none
  | _ => none
def D.nks : List D → Option (List NestedKey)
  | [] => some []
  | d :: ds => match D.nk d, D.nks ds with | some k, some ks => some (k :: ks) | _, _ => none
end
/-- a dict's object, its keys nested tuples -/
def nX (w : World) (a : Addr) (xs : List (NestedKey × Addr × V)) : Heap → Prop := fun h =>
  xs.length ≤ sizeLine ∧ (a == sysModules) = false ∧ (xs.map (·.1)).Nodup ∧ (∀ x ∈ xs, x.1.depth ≤ 8) ∧ ∃ us : List (NestedKey × Addr × Value), Paired (fun (p : NestedKey × Addr × V) (q : NestedKey × Addr × Value) => p.1 = q.1 ∧ p.2.1 = q.2.1 ∧ RelV p.2.2 q.2.2) xs us ∧
    ∃ o es ep, h.get? a = some o ∧ o.ExactDict ∧ o.data = .dict es ep ∧ es.toList = us.map fun q => ⟨q.1.hash w, .ref q.2.1, q.2.2⟩
/-- an object that stays as it is -/
def isO (a : Addr) (oe : Obj) : Heap → Prop := fun h => h.get? a = some oe

/-- a field of an own object: data, or a list or dict of its own -/
inductive FV where
  | sh (d : D) | lst (ds : List D) | dic (t : Nat) (ps : List (DKey × D))
/-- an object that one name alone holds -/
inductive O where
  | lst (ds : List D) | dic (t : Nat) (ps : List (DKey × D)) | ins (C : Str) (fs : List (Str × FV)) | pk (b : Bool) (xs : List FV)
def FV.data : FV → D
  | .sh d => d | .lst ds => .lst ds | .dic t ps => .dic t ps
def O.data : O → D
  | .lst ds => .lst ds | .dic t ps => .dic t ps | .ins C fs => .ins C (fs.map fun p => (p.1, p.2.data))
  | .pk _ xs => .ins "" (xs.map fun x => ("", x.data))
/-- what a name holds: data; an own object; an own object of the caller's; one that is only looked at; (of an expression) one that some name holds -/
inductive SV where
  | sh (d : D) | own (o : O) | io (o : O) | bo (o : O) | tr (o : O)
def SV.data : SV → D
  | .sh d => d | .own o => o.data | .io o => o.data | .bo o => o.data | .tr o => o.data
/-- an exception: its class, its fields -/
structure Ex where
  C : Str
  fs : List (Str × D)
abbrev Nv := List (Option SV)
inductive Res (S : Type) (A : Type) where
  | ok (a : A) (s : S) | exc (e : Ex) (s : S) | bad
def Res.bind {S A B : Type} (r : Res S A) (f : A → S → Res S B) : Res S B :=
  match r with
  | .ok a s => f a s | .exc e s => .exc e s | .bad => .bad
abbrev M (A : Type) := Nv → Res Nv A

def seqO : Bool → List V → HO
  | true, vs => .tup vs | false, vs => .lst vs
def keyD : Key → D
  | .inl i => .int i | .inr x => .str x

section
variable (K : PySem.W.Frag) (mg : MG)
mutual
/-- the data d lies at v, all of it in F -/
inductive Rp (F : Hp) : V → D → Prop
  | non : Rp F .non .non
  | bl (b : Bool) : Rp F (.bl b) (.bl b)
  | int (i : Int) : Rp F (.int i) (.int i)
  | str (x : Str) : Rp F (.str x) (.str x)
  | ty (n : String) : Rp F (.ty n) (.ty n)
  | cls {c : Addr} {C : Str} : mg C = some (.ref c) → Rp F (.ref c) (.cls C)
  | tup {a : Addr} {vs : List V} {ds : List D} : F a = some (.tup vs) → Rps F vs ds → Rp F (.ref a) (.tup ds)
  | kt {a : Addr} {vs : List V} {ds : List D} : SqT K F a vs → Rps F vs ds → Rp F (.ref a) (.kt ds)
  | lst {a : Addr} {vs : List V} {ds : List D} : F a = some (.lst vs) → Rps F vs ds → Rp F (.ref a) (.lst ds)
  | scr {a : Addr} {ns : List Int} : SqL K F a (ns.map V.int) → Rp F (.ref a) (.scr ns)
  | dK {a : Addr} {kvs : List (Key × V)} {ps : List (DKey × D)} : F a = some (.dK kvs) → RpK F kvs ps → Rp F (.ref a) (.dic 0 ps)
  | dT {a : Addr} {kvs : List (List Key × V)} {ps : List (DKey × D)} : F a = some (.dT kvs) → RpT F kvs ps → Rp F (.ref a) (.dic 1 ps)
  | dX {a : Addr} {xs : List (NestedKey × Addr × V)} {ps : List (DKey × D)} : F a = some (.ext (nX mg.w a xs)) → RpX F xs ps → Rp F (.ref a) (.dic 2 ps)
  | exn0 {a c : Addr} {oe : Obj} {C : Str} : mg C = some (.ref c) → F a = some (.ext (isO a oe)) → Zc (.ref c) none oe → (∃ vs, oe.data = .fields vs) → Rp F (.ref a) (.exn C [])
  | exn1 {a c dd : Addr} {oe : Obj} {C : Str} {vfs : List (Str × V)} {fs : List (Str × D)} : mg C = some (.ref c) → F a = some (.ext (isO a oe)) → Zc (.ref c) (some dd) oe → (∃ vs, oe.data = .fields vs) → F dd = some (.xd vfs) → RpF F vfs fs → Rp F (.ref a) (.exn C fs)
  | ins {a c dx : Addr} {C : Str} {vfs : List (Str × V)} {fs : List (Str × D)} : mg C = some (.ref c) → F a = some (.ins c dx vfs) → RpF F vfs fs → Rp F (.ref a) (.ins C fs)
  | pk {a : Addr} {b : Bool} {vs : List V} {fs : List (Str × D)} : F a = some (seqO b vs) → Rps F vs (fs.map Prod.snd) → Rp F (.ref a) (.ins "" fs)
inductive Rps (F : Hp) : List V → List D → Prop
  | nil : Rps F [] []
  | cons {v : V} {vs : List V} {d : D} {ds : List D} : Rp F v d → Rps F vs ds → Rps F (v :: vs) (d :: ds)
inductive RpK (F : Hp) : List (Key × V) → List (DKey × D) → Prop
  | nil : RpK F [] []
  | cons {k : Key} {v : V} {d : D} {r : List (Key × V)} {ps : List (DKey × D)} : Rp F v d → RpK F r ps → RpK F ((k, v) :: r) ((Sum.inl k, d) :: ps)
inductive RpT (F : Hp) : List (List Key × V) → List (DKey × D) → Prop
  | nil : RpT F [] []
  | cons {k : List Key} {v : V} {d : D} {r : List (List Key × V)} {ps : List (DKey × D)} : Rp F v d → RpT F r ps → RpT F ((k, v) :: r) ((Sum.inr (Sum.inl k), d) :: ps)
inductive RpX (F : Hp) : List (NestedKey × Addr × V) → List (DKey × D) → Prop
  | nil : RpX F [] []
  | cons {k : NestedKey} {b : Addr} {kd : D} {v : V} {d : D} {r : List (NestedKey × Addr × V)} {ps : List (DKey × D)} : Rp F (.ref b) kd → kd.nk = some k → Rp F v d → RpX F r ps → RpX F ((k, b, v) :: r) ((Sum.inr (Sum.inr k), d) :: ps)
inductive RpF (F : Hp) : List (Str × V) → List (Str × D) → Prop
  | nil : RpF F [] []
  | cons {n : Str} {v : V} {d : D} {r : List (Str × V)} {ps : List (Str × D)} : Rp F v d → RpF F r ps → RpF F ((n, v) :: r) ((n, d) :: ps)
end

/-- a field of an own object at v -/
inductive Fl (F H : Hp) : V → FV → List Addr → Prop
  | sh {v : V} {d : D} : Rp K mg F v d → Fl F H v (.sh d) []
  | lst {a : Addr} {vs : List V} {ds : List D} : H a = some (.lst vs) → Rps K mg F vs ds → Fl F H (.ref a) (.lst ds) [a]
  | dK {a : Addr} {kvs : List (Key × V)} {ps : List (DKey × D)} : H a = some (.dK kvs) → RpK K mg F kvs ps → Fl F H (.ref a) (.dic 0 ps) [a]
  | dT {a : Addr} {kvs : List (List Key × V)} {ps : List (DKey × D)} : H a = some (.dT kvs) → RpT K mg F kvs ps → Fl F H (.ref a) (.dic 1 ps) [a]
  | dX {a : Addr} {xs : List (NestedKey × Addr × V)} {ps : List (DKey × D)} : H a = some (.ext (nX mg.w a xs)) → RpX K mg F xs ps → Fl F H (.ref a) (.dic 2 ps) [a]
inductive Fls (F H : Hp) : List (Str × V) → List (Str × FV) → List Addr → Prop
  | nil : Fls F H [] [] []
  | cons {n : Str} {v : V} {x : FV} {r : List (Str × V)} {fs : List (Str × FV)} {f1 f2 : List Addr} : Fl K mg F H v x f1 → Fls F H r fs f2 → Fls F H ((n, v) :: r) ((n, x) :: fs) (f1 ++ f2)
inductive Flz (F H : Hp) : List V → List FV → List Addr → Prop
  | nil : Flz F H [] [] []
  | cons {v : V} {x : FV} {vs : List V} {xs : List FV} {f1 f2 : List Addr} : Fl K mg F H v x f1 → Flz F H vs xs f2 → Flz F H (v :: vs) (x :: xs) (f1 ++ f2)
/-- an own object at v; fp: its addresses -/
inductive Ow (F H : Hp) : V → O → List Addr → Prop
  | lst {a : Addr} {vs : List V} {ds : List D} : H a = some (.lst vs) → Rps K mg F vs ds → Ow F H (.ref a) (.lst ds) [a]
  | dK {a : Addr} {kvs : List (Key × V)} {ps : List (DKey × D)} : H a = some (.dK kvs) → RpK K mg F kvs ps → Ow F H (.ref a) (.dic 0 ps) [a]
  | dT {a : Addr} {kvs : List (List Key × V)} {ps : List (DKey × D)} : H a = some (.dT kvs) → RpT K mg F kvs ps → Ow F H (.ref a) (.dic 1 ps) [a]
  | dX {a : Addr} {xs : List (NestedKey × Addr × V)} {ps : List (DKey × D)} : H a = some (.ext (nX mg.w a xs)) → RpX K mg F xs ps → Ow F H (.ref a) (.dic 2 ps) [a]
  | ins {a c dx : Addr} {C : Str} {vfs : List (Str × V)} {fs : List (Str × FV)} {fp : List Addr} : mg C = some (.ref c) → H a = some (.ins c dx vfs) → Fls K mg F H vfs fs fp → Ow F H (.ref a) (.ins C fs) (a :: fp)
  | pk {a : Addr} {b : Bool} {vs : List V} {xs : List FV} {fp : List Addr} : H a = some (seqO b vs) → Flz K mg F H vs xs fp → Ow F H (.ref a) (.pk b xs) (a :: fp)
end

section
variable {K : PySem.W.Frag} {mg : MG} {F F' H H' : Hp}
mutual
theorem Rp.mono (s : Same F F') : ∀ {v : V} {d : D}, Rp K mg F v d → Rp K mg F' v d
  | _, _, .non => .non
  | _, _, .bl b => .bl b
  | _, _, .int i => .int i
  | _, _, .str x => .str x
  | _, _, .ty x => .ty x
  | _, _, .cls h => .cls h
  | _, _, .tup h r => .tup (s _ _ h) (Rps.mono s r)
  | _, _, .kt h r => .kt (by
      rcases h with (h | ⟨o, h⟩) | h
      · exact .inl (.inl (s _ _ h))
      · exact .inl (.inr ⟨o, s _ _ h⟩)
      · exact .inr h) (Rps.mono s r)
  | _, _, .lst h r => .lst (s _ _ h) (Rps.mono s r)
  | _, _, .scr h => .scr (s.seq h)
  | _, _, .dK h r => .dK (s _ _ h) (RpK.mono s r)
  | _, _, .dT h r => .dT (s _ _ h) (RpT.mono s r)
  | _, _, .dX h r => .dX (s _ _ h) (RpX.mono s r)
  | _, _, .exn0 c h z f => .exn0 c (s _ _ h) z f
  | _, _, .exn1 c h z f q r => .exn1 c (s _ _ h) z f (s _ _ q) (RpF.mono s r)
  | _, _, .ins c h r => .ins c (s _ _ h) (RpF.mono s r)
  | _, _, .pk h r => .pk (s _ _ h) (Rps.mono s r)
theorem Rps.mono (s : Same F F') : ∀ {v : List V} {d : List D}, Rps K mg F v d → Rps K mg F' v d
  | _, _, .nil => .nil
  | _, _, .cons h r => .cons (Rp.mono s h) (Rps.mono s r)
theorem RpK.mono (s : Same F F') : ∀ {v : List (Key × V)} {d : List (DKey × D)}, RpK K mg F v d → RpK K mg F' v d
  | _, _, .nil => .nil
  | _, _, .cons h r => .cons (Rp.mono s h) (RpK.mono s r)
theorem RpT.mono (s : Same F F') : ∀ {v : List (List Key × V)} {d : List (DKey × D)}, RpT K mg F v d → RpT K mg F' v d
  | _, _, .nil => .nil
  | _, _, .cons h r => .cons (Rp.mono s h) (RpT.mono s r)
theorem RpX.mono (s : Same F F') : ∀ {v : List (NestedKey × Addr × V)} {d : List (DKey × D)}, RpX K mg F v d → RpX K mg F' v d
  | _, _, .nil => .nil
  | _, _, .cons hk e h r => .cons (Rp.mono s hk) e (Rp.mono s h) (RpX.mono s r)
theorem RpF.mono (s : Same F F') : ∀ {v : List (Str × V)} {d : List (Str × D)}, RpF K mg F v d → RpF K mg F' v d
  | _, _, .nil => .nil
  | _, _, .cons h r => .cons (Rp.mono s h) (RpF.mono s r)
end
theorem Same.seqT {a : Addr} {xs : List V} (s : Same F F') (h : SqT K F a xs) : SqT K F' a xs := by
  rcases h with (h | ⟨o, h⟩) | h
  · exact .inl (.inl (s _ _ h))
  · exact .inl (.inr ⟨o, s _ _ h⟩)
  · exact .inr h
theorem Fl.mono (s : Same F F') {v : V} {x : FV} {fp : List Addr} (h : Fl K mg F H v x fp) (k : ∀ p ∈ fp, H' p = H p) : Fl K mg F' H' v x fp := by
  cases h with
  | sh h => exact .sh (h.mono s)
  | lst h r => exact .lst ((k _ (by simp)).trans h) (r.mono s)
  | dK h r => exact .dK ((k _ (by simp)).trans h) (r.mono s)
  | dT h r => exact .dT ((k _ (by simp)).trans h) (r.mono s)
  | dX h r => exact .dX ((k _ (by simp)).trans h) (r.mono s)
theorem Fls.mono (s : Same F F') {v : List (Str × V)} {x : List (Str × FV)} {fp : List Addr} (h : Fls K mg F H v x fp) (k : ∀ p ∈ fp, H' p = H p) : Fls K mg F' H' v x fp := by
  induction h with
  | nil => exact .nil
  | cons h r ih => exact .cons (h.mono s fun p hp => k p (List.mem_append_left _ hp)) (ih fun p hp => k p (List.mem_append_right _ hp))
theorem Flz.mono (s : Same F F') {v : List V} {x : List FV} {fp : List Addr} (h : Flz K mg F H v x fp) (k : ∀ p ∈ fp, H' p = H p) : Flz K mg F' H' v x fp := by
  induction h with
  | nil => exact .nil
  | cons h r ih => exact .cons (h.mono s fun p hp => k p (List.mem_append_left _ hp)) (ih fun p hp => k p (List.mem_append_right _ hp))
theorem Ow.mono (s : Same F F') {v : V} {x : O} {fp : List Addr} (h : Ow K mg F H v x fp) (k : ∀ p ∈ fp, H' p = H p) : Ow K mg F' H' v x fp := by
  cases h with
  | lst h r => exact .lst ((k _ (by simp)).trans h) (r.mono s)
  | dK h r => exact .dK ((k _ (by simp)).trans h) (r.mono s)
  | dT h r => exact .dT ((k _ (by simp)).trans h) (r.mono s)
  | dX h r => exact .dX ((k _ (by simp)).trans h) (r.mono s)
  | ins c h r => exact .ins c ((k _ (by simp)).trans h) (r.mono s fun p hp => k p (List.mem_cons_of_mem _ hp))
  | pk h r => exact .pk ((k _ (by simp)).trans h) (r.mono s fun p hp => k p (List.mem_cons_of_mem _ hp))
/-- its addresses are tracked -/
theorem Fl.at {v : V} {x : FV} {fp : List Addr} (h : Fl K mg F H v x fp) : ∀ p ∈ fp, ∃ o, H p = some o := by
  cases h with
  | sh h => intro p hp; cases hp
  | lst h r => intro p hp; rw [List.mem_singleton] at hp; subst hp; exact ⟨_, h⟩
  | dK h r => intro p hp; rw [List.mem_singleton] at hp; subst hp; exact ⟨_, h⟩
  | dT h r => intro p hp; rw [List.mem_singleton] at hp; subst hp; exact ⟨_, h⟩
  | dX h r => intro p hp; rw [List.mem_singleton] at hp; subst hp; exact ⟨_, h⟩
theorem Fls.at {v : List (Str × V)} {x : List (Str × FV)} {fp : List Addr} (h : Fls K mg F H v x fp) : ∀ p ∈ fp, ∃ o, H p = some o := by
  induction h with
  | nil => intro p hp; cases hp
  | cons h r ih => intro p hp; rcases List.mem_append.mp hp with hp | hp; exact h.at p hp; exact ih p hp
theorem Flz.at {v : List V} {x : List FV} {fp : List Addr} (h : Flz K mg F H v x fp) : ∀ p ∈ fp, ∃ o, H p = some o := by
  induction h with
  | nil => intro p hp; cases hp
  | cons h r ih => intro p hp; rcases List.mem_append.mp hp with hp | hp; exact h.at p hp; exact ih p hp
theorem Ow.at {v : V} {x : O} {fp : List Addr} (h : Ow K mg F H v x fp) : ∀ p ∈ fp, ∃ o, H p = some o := by
  cases h with
  | lst h r => intro p hp; rw [List.mem_singleton] at hp; subst hp; exact ⟨_, h⟩
  | dK h r => intro p hp; rw [List.mem_singleton] at hp; subst hp; exact ⟨_, h⟩
  | dT h r => intro p hp; rw [List.mem_singleton] at hp; subst hp; exact ⟨_, h⟩
  | dX h r => intro p hp; rw [List.mem_singleton] at hp; subst hp; exact ⟨_, h⟩
  | ins c h r => intro p hp; rcases List.mem_cons.mp hp with rfl | hp; exact ⟨_, h⟩; exact r.at p hp
  | pk h r => intro p hp; rcases List.mem_cons.mp hp with rfl | hp; exact ⟨_, h⟩; exact r.at p hp
theorem Ow.same (s : Same F F') (k : Same H H') {v : V} {x : O} {fp : List Addr} (h : Ow K mg F H v x fp) : Ow K mg F' H' v x fp :=
  h.mono s fun p hp => by
    obtain ⟨o, e⟩ := h.at p hp
    rw [e]; exact k _ _ e
/-- F with what stands in H at fp -/
def frz (F H : Hp) (fp : List Addr) : Hp := fun a => if a ∈ fp then H a else F a
theorem frz_in {fp : List Addr} {a : Addr} (h : a ∈ fp) : frz F H fp a = H a := if_pos h
theorem frz_out {fp : List Addr} {a : Addr} (h : a ∉ fp) : frz F H fp a = F a := if_neg h
theorem frz_same {fp : List Addr} (k : ∀ p ∈ fp, F p = none) : Same F (frz F H fp) := fun b o e => by
  unfold frz
  split
  · rename_i h; rw [k b h] at e; cases e
  · exact e
theorem frz_sub {fp : List Addr} (s : Same F H) : Same (frz F H fp) H := fun b o e => by
  unfold frz at e
  split at e
  · exact e
  · exact s b o e
theorem Fl.frozen {v : V} {x : FV} {fp fq : List Addr} (h : Fl K mg F H v x fp) (i : ∀ p ∈ fp, p ∈ fq) (k : ∀ p ∈ fq, F p = none) : Rp K mg (frz F H fq) v x.data := by
  cases h with
  | sh h => exact h.mono (frz_same k)
  | lst h r => exact .lst ((frz_in (i _ (by simp))).trans h) (r.mono (frz_same k))
  | dK h r => exact .dK ((frz_in (i _ (by simp))).trans h) (r.mono (frz_same k))
  | dT h r => exact .dT ((frz_in (i _ (by simp))).trans h) (r.mono (frz_same k))
  | dX h r => exact .dX ((frz_in (i _ (by simp))).trans h) (r.mono (frz_same k))
theorem Fls.frozen {v : List (Str × V)} {x : List (Str × FV)} {fp fq : List Addr} (h : Fls K mg F H v x fp) (i : ∀ p ∈ fp, p ∈ fq) (k : ∀ p ∈ fq, F p = none) : RpF K mg (frz F H fq) v (x.map fun p => (p.1, p.2.data)) := by
  induction h with
  | nil => exact .nil
  | cons h r ih => exact .cons (h.frozen (fun p hp => i p (List.mem_append_left _ hp)) k) (ih fun p hp => i p (List.mem_append_right _ hp))
theorem Flz.frozen {v : List V} {x : List FV} {fp fq : List Addr} (h : Flz K mg F H v x fp) (i : ∀ p ∈ fp, p ∈ fq) (k : ∀ p ∈ fq, F p = none) : Rps K mg (frz F H fq) v (x.map FV.data) := by
  induction h with
  | nil => exact .nil
  | cons h r ih => exact .cons (h.frozen (fun p hp => i p (List.mem_append_left _ hp)) k) (ih fun p hp => i p (List.mem_append_right _ hp))
theorem Ow.frozen {v : V} {x : O} {fp : List Addr} (h : Ow K mg F H v x fp) (k : ∀ p ∈ fp, F p = none) : Rp K mg (frz F H fp) v x.data := by
  cases h with
  | lst h r => exact .lst ((frz_in (by simp)).trans h) (r.mono (frz_same k))
  | dK h r => exact .dK ((frz_in (by simp)).trans h) (r.mono (frz_same k))
  | dT h r => exact .dT ((frz_in (by simp)).trans h) (r.mono (frz_same k))
  | dX h r => exact .dX ((frz_in (by simp)).trans h) (r.mono (frz_same k))
  | ins c h r => exact .ins c ((frz_in (by simp)).trans h) (r.frozen (fun p hp => List.mem_cons_of_mem _ hp) k)
  | pk h r => exact .pk ((frz_in (by simp)).trans h) (by rw [List.map_map]; exact r.frozen (fun p hp => List.mem_cons_of_mem _ hp) k)
/-- looked at as data of the whole heap -/
theorem Fl.rp (s : Same F H) {v : V} {x : FV} {fp : List Addr} (h : Fl K mg F H v x fp) : Rp K mg H v x.data := by
  cases h with
  | sh h => exact h.mono s
  | lst h r => exact .lst h (r.mono s)
  | dK h r => exact .dK h (r.mono s)
  | dT h r => exact .dT h (r.mono s)
  | dX h r => exact .dX h (r.mono s)
theorem Fls.rp (s : Same F H) {v : List (Str × V)} {x : List (Str × FV)} {fp : List Addr} (h : Fls K mg F H v x fp) : RpF K mg H v (x.map fun p => (p.1, p.2.data)) := by
  induction h with
  | nil => exact .nil
  | cons h r ih => exact .cons (h.rp s) ih
theorem Flz.rp (s : Same F H) {v : List V} {x : List FV} {fp : List Addr} (h : Flz K mg F H v x fp) : Rps K mg H v (x.map FV.data) := by
  induction h with
  | nil => exact .nil
  | cons h r ih => exact .cons (h.rp s) ih
theorem Ow.rp (s : Same F H) {v : V} {x : O} {fp : List Addr} (h : Ow K mg F H v x fp) : Rp K mg H v x.data := by
  cases h with
  | lst h r => exact .lst h (r.mono s)
  | dK h r => exact .dK h (r.mono s)
  | dT h r => exact .dT h (r.mono s)
  | dX h r => exact .dX h (r.mono s)
  | ins c h r => exact .ins c h (r.rp s)
  | pk h r => exact .pk h (by rw [List.map_map]; exact r.rp s)
end

/-! ### a frame's names -/
/-- ghosts: what is not to be touched, what was frozen at the entry, the values of the slots that stay -/
structure Gh where
  Pr : Hp
  F0 : Hp
  pin : St
  nf : Addr → Prop
/-- an address that is neither protected nor kept from being frozen -/
def Gh.free (G : Gh) (p : Addr) : Prop := G.Pr p = none ∧ ¬ G.nf p

section
variable (K : PySem.W.Frag) (mg : MG)
inductive SvR (Pr F H : Hp) : V → SV → List Addr → Prop
  | sh {v : V} {d : D} : Rp K mg F v d → SvR Pr F H v (.sh d) []
  | own {v : V} {o : O} {fp : List Addr} : Ow K mg F H v o fp → SvR Pr F H v (.own o) fp
  | io {v : V} {o : O} {fp : List Addr} : Ow K mg F H v o fp → SvR Pr F H v (.io o) fp
  | bo {v : V} {o : O} {fp : List Addr} : Ow K mg F Pr v o fp → SvR Pr F H v (.bo o) []
/-- what an expression gives -/
inductive XvR (Pr F H : Hp) : V → SV → List Addr → Prop
  | sh {v : V} {d : D} : Rp K mg F v d → XvR Pr F H v (.sh d) []
  | own {v : V} {o : O} {fp : List Addr} : Ow K mg F H v o fp → fp.Nodup → XvR Pr F H v (.own o) fp
  | bo {v : V} {o : O} {fp : List Addr} : Ow K mg F Pr v o fp → XvR Pr F H v (.bo o) []
  | tr {v : V} {o : O} {fp : List Addr} : Ow K mg F H v o fp → XvR Pr F H v (.tr o) []
def SlotR (Pr F H : Hp) (x : Option (Option V)) (y : Option (Option SV)) (fp : List Addr) : Prop :=
  match y with
  | some (some s) => ∃ v, x = some (some v) ∧ SvR K mg Pr F H v s fp
  | _ => fp = []

/-- slots σ hold ρ; fp0: addresses of an own object that no slot holds -/
structure OkX (G : Gh) (F H : Hp) (σ : St) (ρ : Nv) (fp0 : List Addr) : Prop where
  env : ∃ fp : Nat → List Addr, (∀ i : Nat, SlotR K mg G.Pr F H σ[i]? ρ[i]? (fp i)) ∧ (∀ i, (fp i).Nodup) ∧ (∀ i j p, p ∈ fp i → p ∈ fp j → i = j) ∧
    (∀ i p, p ∈ fp i → F p = none ∧ G.free p ∧ p ∉ fp0)
  own : ∀ p ∈ fp0, F p = none ∧ G.free p
  sub : Same F H
  pr : Same G.Pr H
  f0 : Same G.F0 F
  fz : ∀ p, ¬ G.free p → F p = G.F0 p
  pin : ∀ (i : Nat) o, (ρ[i]? = some (some (.io o)) ∨ ρ[i]? = some (some (.bo o))) → σ[i]? = G.pin[i]?
  len : σ.length = ρ.length
  nft : ∀ p, G.nf p → ∃ o, H p = some o
abbrev Ok (G : Gh) (F H : Hp) (σ : St) (ρ : Nv) : Prop := OkX K mg G F H σ ρ []
end

/-- the heap grows: all stays, what is frozen newly is new -/
structure Grow (F H F' H' : Hp) : Prop where
  sub : Same F F'
  same : Same H H'
  subH : Same F' H'
  new : ∀ p, F p = none → F' p ≠ none → H p = none

section
variable {K : PySem.W.Frag} {mg : MG} {G : Gh} {F F' F2 H H' H2 : Hp} {σ : St} {ρ : Nv} {fp0 fq : List Addr} {v : V} {x : SV}
theorem Grow.refl (s : Same F H) : Grow F H F H := ⟨Same.refl F, Same.refl H, s, fun p e n => absurd e n⟩
theorem Grow.trans (a : Grow F H F' H') (b : Grow F' H' F2 H2) : Grow F H F2 H2 where
  sub := a.sub.trans b.sub
  same := a.same.trans b.same
  subH := b.subH
  new := fun p e n => by
    cases q : F' p with
    | some o => exact a.new p e (by rw [q]; simp)
    | none =>
      have := b.new p q n
      exact Same.free a.same this
theorem SvR.mono {Pr : Hp} {fp : List Addr} (h : SvR K mg Pr F H v x fp) (s : Same F F') (k : ∀ p ∈ fp, H' p = H p) : SvR K mg Pr F' H' v x fp := by
  cases h with
  | sh h => exact .sh (h.mono s)
  | own h => exact .own (h.mono s k)
  | io h => exact .io (h.mono s k)
  | bo h => exact .bo (h.mono s fun _ _ => rfl)
theorem SvR.at {Pr : Hp} {fp : List Addr} (h : SvR K mg Pr F H v x fp) : ∀ p ∈ fp, ∃ o, H p = some o := by
  cases h with
  | sh h => intro p hp; cases hp
  | own h => exact h.at
  | io h => exact h.at
  | bo h => intro p hp; cases hp
theorem SlotR.mono {Pr : Hp} {a : Option (Option V)} {b : Option (Option SV)} {fp : List Addr} (h : SlotR K mg Pr F H a b fp) (s : Same F F') (k : ∀ p ∈ fp, H' p = H p) : SlotR K mg Pr F' H' a b fp := by
  unfold SlotR at h ⊢
  split at h
  · obtain ⟨v, e, h⟩ := h; exact ⟨v, e, h.mono s k⟩
  · exact h
theorem SlotR.at {Pr : Hp} {a : Option (Option V)} {b : Option (Option SV)} {fp : List Addr} (h : SlotR K mg Pr F H a b fp) : ∀ p ∈ fp, ∃ o, H p = some o := by
  unfold SlotR at h
  split at h
  · obtain ⟨v, e, h⟩ := h; exact h.at
  · intro p hp; rw [h] at hp; cases hp
/-- grown: all stands as it stood -/
theorem OkX.grow (k : OkX K mg G F H σ ρ fp0) (g : Grow F H F' H') (h0 : ∀ p ∈ fp0, ∃ o, H p = some o) : OkX K mg G F' H' σ ρ fp0 := by
  obtain ⟨fp, e1, e2, e3, e4⟩ := k.env
  have nf : ∀ p, F p = none → (∃ o, H p = some o) → F' p = none := fun p a ⟨o, b⟩ => by
    cases q : F' p with
    | none => rfl
    | some u =>
      have := g.new p a (by rw [q]; simp)
      rw [b] at this; cases this
  refine ⟨⟨fp, fun i => (e1 i).mono g.sub fun p hp => ?_, e2, e3, fun i p hp => ⟨nf p (e4 i p hp).1 ((e1 i).at p hp), (e4 i p hp).2⟩⟩, fun p hp => ⟨nf p (k.own p hp).1 (h0 p hp), (k.own p hp).2⟩, g.subH, k.pr.trans g.same, k.f0.trans g.sub, fun p hp => ?_, k.pin, k.len, fun p hp => let ⟨o, e⟩ := k.nft p hp; ⟨o, g.same _ _ e⟩⟩
  · obtain ⟨o, q⟩ := (e1 i).at p hp
    rw [q]; exact g.same _ _ q
  · rw [← k.fz p hp]
    cases q : F p with
    | some o => exact g.sub _ _ q
    | none =>
      refine nf p q ?_
      cases r : G.Pr p with
      | none =>
        by_cases c : G.nf p
        · exact k.nft p c
        · exact absurd ⟨r, c⟩ hp
      | some o => exact ⟨o, k.pr _ _ r⟩
theorem Ok.grow (k : Ok K mg G F H σ ρ) (g : Grow F H F' H') : Ok K mg G F' H' σ ρ := OkX.grow k g (by intro p hp; cases hp)
/-- the own value is let go -/
theorem OkX.drop (k : OkX K mg G F H σ ρ fp0) : Ok K mg G F H σ ρ := by
  obtain ⟨fp, e1, e2, e3, e4⟩ := k.env
  exact ⟨⟨fp, e1, e2, e3, fun i p hp => ⟨(e4 i p hp).1, (e4 i p hp).2.1, by simp⟩⟩, (by intro p hp; cases hp), k.sub, k.pr, k.f0, k.fz, k.pin, k.len, k.nft⟩
/-- the own value is frozen -/
theorem OkX.frozen (k : OkX K mg G F H σ ρ fp0) : Ok K mg G (frz F H fp0) H σ ρ ∧ Same F (frz F H fp0) := by
  obtain ⟨fp, e1, e2, e3, e4⟩ := k.env
  have s := frz_same (F := F) (H := H) (fp := fp0) fun p hp => (k.own p hp).1
  refine ⟨⟨⟨fp, fun i => (e1 i).mono s fun _ _ => rfl, e2, e3, fun i p hp => ⟨(frz_out (e4 i p hp).2.2).trans (e4 i p hp).1, (e4 i p hp).2.1, by simp⟩⟩, (by intro p hp; cases hp), frz_sub k.sub, k.pr, k.f0.trans s, fun p hp => ?_, k.pin, k.len, k.nft⟩, s⟩
  rw [← k.fz p hp]
  exact frz_out fun h => hp (k.own p h).2
/-- how a slot lies -/
theorem OkX.slot (k : OkX K mg G F H σ ρ fp0) {i : Nat} (e : ρ[i]? = some (some x)) : ∃ v fp, σ[i]? = some (some v) ∧ SvR K mg G.Pr F H v x fp := by
  obtain ⟨fp, e1, _⟩ := k.env
  have := e1 i
  rw [e] at this
  obtain ⟨v, e, h⟩ := this
  exact ⟨v, fp i, e, h⟩
/-- a slot is stored -/
theorem OkX.set (k : OkX K mg G F H σ ρ fp0) {i : Nat} (hi : i < ρ.length) (h : SvR K mg G.Pr F H v x fp0) (hn : fp0.Nodup) (nx : ∀ o, x ≠ .io o ∧ x ≠ .bo o) :
    Ok K mg G F H (σ.set i (some v)) (ρ.set i (some x)) := by
  obtain ⟨fp, e1, e2, e3, e4⟩ := k.env
  have hs : i < σ.length := by rw [k.len]; exact hi
  refine ⟨⟨fun j => if j = i then fp0 else fp j, fun j => ?_, fun j => ?_, fun j l p hj hl => ?_, fun j p hp => ?_⟩, (by intro p hp; cases hp), k.sub, k.pr, k.f0, k.fz, fun j o hj => ?_, (by rw [List.length_set, List.length_set]; exact k.len), k.nft⟩
  · show SlotR _ _ _ _ _ _ _ (if j = i then fp0 else fp j)
    by_cases c : j = i
    · subst c
      rw [if_pos rfl, List.getElem?_set_self hs, List.getElem?_set_self hi]
      exact ⟨v, rfl, h⟩
    · rw [if_neg c, List.getElem?_set_ne (Ne.symm c), List.getElem?_set_ne (Ne.symm c)]
      exact e1 j
  · show (if j = i then fp0 else fp j).Nodup
    split
    · exact hn
    · exact e2 j
  · have hj' : p ∈ (if j = i then fp0 else fp j) := hj
    have hl' : p ∈ (if l = i then fp0 else fp l) := hl
    by_cases cj : j = i
    · by_cases cl : l = i
      · rw [cj, cl]
      · rw [if_pos cj] at hj'; rw [if_neg cl] at hl'
        exact absurd hj' (e4 l p hl').2.2
    · by_cases cl : l = i
      · rw [if_neg cj] at hj'; rw [if_pos cl] at hl'
        exact absurd hl' (e4 j p hj').2.2
      · rw [if_neg cj] at hj'; rw [if_neg cl] at hl'
        exact e3 j l p hj' hl'
  · have hp' : p ∈ (if j = i then fp0 else fp j) := hp
    by_cases c : j = i
    · rw [if_pos c] at hp'
      exact ⟨(k.own p hp').1, (k.own p hp').2, by simp⟩
    · rw [if_neg c] at hp'
      exact ⟨(e4 j p hp').1, (e4 j p hp').2.1, by simp⟩
  · by_cases c : j = i
    · subst c
      rw [List.getElem?_set_self hi] at hj
      rcases hj with hj | hj
      · cases hj; exact absurd rfl (nx o).1
      · cases hj; exact absurd rfl (nx o).2
    · rw [List.getElem?_set_ne (Ne.symm c)] at hj ⊢
      exact k.pin j o hj
/-- a slot is forgotten -/
theorem OkX.forget (k : OkX K mg G F H σ ρ fp0) (i : Nat) : OkX K mg G F H σ (ρ.set i none) fp0 := by
  obtain ⟨fp, e1, e2, e3, e4⟩ := k.env
  have sub : ∀ j p, p ∈ (if j = i then [] else fp j) → p ∈ fp j := fun j p hp => by
    by_cases c : j = i
    · rw [if_pos c] at hp; cases hp
    · rw [if_neg c] at hp; exact hp
  refine ⟨⟨fun j => if j = i then [] else fp j, fun j => ?_, fun j => ?_, fun j l p hj hl => e3 j l p (sub j p hj) (sub l p hl), fun j p hp => e4 j p (sub j p hp)⟩, k.own, k.sub, k.pr, k.f0, k.fz, fun j o hj => ?_, (by rw [List.length_set]; exact k.len), k.nft⟩
  · show SlotR _ _ _ _ _ _ _ (if j = i then [] else fp j)
    by_cases c : j = i
    · subst c
      rw [if_pos rfl]
      unfold SlotR
      by_cases hi : j < ρ.length
      · rw [List.getElem?_set_self hi]
      · rw [List.getElem?_eq_none (by rw [List.length_set]; omega)]
    · rw [if_neg c, List.getElem?_set_ne (Ne.symm c)]
      exact e1 j
  · show (if j = i then [] else fp j).Nodup
    split
    · exact List.nodup_nil
    · exact e2 j
  · by_cases c : j = i
    · subst c
      by_cases hi : j < ρ.length
      · rw [List.getElem?_set_self hi] at hj; rcases hj with hj | hj <;> cases hj
      · rw [List.getElem?_eq_none (by rw [List.length_set]; omega)] at hj; rcases hj with hj | hj <;> cases hj
    · rw [List.getElem?_set_ne (Ne.symm c)] at hj
      exact k.pin j o hj
end
end R

/-! R2: readings by mirrors: expressions. -/
namespace R
open PySem PySem.Spec PyProof.Rows L2

section
variable (K : PySem.W.Frag) (mg : MG)
/-- an exception of an own class, with its fields -/
def ExR (F H : Hp) (c : Value) (d : Option Addr) (e : Ex) : Prop :=
  mg e.C = some c ∧ ((e.fs = [] ∧ d = none) ∨ ∃ a vfs, d = some a ∧ F a = some (.xd vfs) ∧ RpF K mg F vfs e.fs)
abbrev Rel (A B : Type) := Gh → Hp → Hp → B → A → List Addr → Prop
def Post {A B : Type} (rel : Rel A B) (W : WX) (G : Gh) (F H : Hp) (σ : St) (q : Bool) (Q : B → Hp → Prop) : Res Nv A → Prop
  | .ok x ρ' => ∀ F' H' v fp0, Same F F' → (q = true → Same H H') → OkX K mg G F' H' σ ρ' fp0 → rel G F' H' v x fp0 → Q v H'
  | .exc e ρ' => ∀ F' H' c d, Same F F' → Ok K mg G F' H' σ ρ' → ExR K mg F' H' c d e → W c d σ H'
  | .bad => False
/-- the reading of a mirror -/
def T {A B : Type} (rel : Rel A B) (W : WX) (q : Bool) (m : M A) : St → Hp → (B → Hp → Prop) → Prop := fun σ H Q => ∃ G F ρ, Ok K mg G F H σ ρ ∧ Post K mg rel W G F H σ q Q (m ρ)
def relX : Rel SV V := fun G F H v x fp => XvR K mg G.Pr F H v x fp
def relB : Rel Bool Bool := fun _ _ _ b c fp => b = c ∧ fp = []
inductive XsR (Pr F H : Hp) : List V → List SV → Prop
  | nil : XsR Pr F H [] []
  | cons {v : V} {x : SV} {vs : List V} {xs : List SV} : XvR K mg Pr F H v x [] → XsR Pr F H vs xs → XsR Pr F H (v :: vs) (x :: xs)
def relA : Rel (List SV) (List V) := fun G F H vs xs fp => XsR K mg G.Pr F H vs xs ∧ fp = []
def relO : Rel (Option Int) (Option Int) := fun _ _ _ b c fp => b = c ∧ fp = []
end
abbrev PX (X : Cx) (W : WX) (e : Expr) (q : Bool) (m : M SV) : Prop := PE X e (T X.K X.wg (relX X.K X.wg) W q m)
abbrev PB (X : Cx) (W : WX) (e : Expr) (q : Bool) (m : M Bool) : Prop := PT X e (T X.K X.wg relB W q m)
abbrev PWB (X : Cx) (W : WX) (e : Expr) (q : Bool) (m : M Bool) : Prop := PW X e (T X.K X.wg relB W q m)
abbrev PAs (X : Cx) (W : WX) (es : List Expr) (q : Bool) (m : M (List SV)) : Prop := PA X es (T X.K X.wg (relA X.K X.wg) W q m)
/-- what no exception may leave -/
abbrev W0 : WX := fun _ _ _ _ => False

section
variable {K : PySem.W.Frag} {mg : MG} {W : WX} {G : Gh} {F F' F1 H H' H1 : Hp} {σ : St} {ρ : Nv} {fp0 fp : List Addr} {v : V} {x : SV}
variable {A B A' B' : Type} {rel : Rel A B} {rel' : Rel A' B'} {q q' : Bool}
theorem Post.adv {r : Res Nv A} {Q : B → Hp → Prop} (sF : Same F F1) (sH : q = true → Same H H1) (h : Post K mg rel W G F H σ q Q r) : Post K mg rel W G F1 H1 σ q Q r := by
  cases r with
  | ok x ρ' => exact fun F' H' v fp0 a b c d => h F' H' v fp0 (sF.trans a) (fun e => (sH e).trans (b e)) c d
  | exc e ρ' => exact fun F' H' c d a b => h F' H' c d (sF.trans a) b
  | bad => exact h
theorem Post.imp {r : Res Nv A} {Q Q' : B → Hp → Prop} (h : Post K mg rel W G F H σ q Q r) (k : ∀ v H', Q v H' → Q' v H') : Post K mg rel W G F H σ q Q' r := by
  cases r with
  | ok x ρ' => exact fun F' H' v fp0 a b c d => k _ _ (h F' H' v fp0 a b c d)
  | exc e ρ' => exact h
  | bad => exact h
/-- one thing and then another -/
theorem T.bind {m : M A} {f : A → Nv → Res Nv A'} {Q : B' → Hp → Prop} {Q1 : B → Hp → Prop} (ok : Ok K mg G F H σ ρ) (h : Post K mg rel' W G F H σ q' Q ((m ρ).bind f))
    (k : ∀ x ρ1 F1 H1 v fp0, m ρ = .ok x ρ1 → Same F F1 → (q = true → Same H H1) → OkX K mg G F1 H1 σ ρ1 fp0 → rel G F1 H1 v x fp0 → Post K mg rel' W G F H σ q' Q (f x ρ1) → Q1 v H1) : T K mg rel W q m σ H Q1 := by
  refine ⟨G, F, ρ, ok, ?_⟩
  cases e : m ρ with
  | ok x ρ1 =>
    rw [e] at h
    exact fun F1 H1 v fp0 a b c d => k x ρ1 F1 H1 v fp0 e a b c d h
  | exc e ρ1 =>
    rw [e] at h
    exact h
  | bad =>
    rw [e] at h
    exact h
theorem T.weak {m : M A} {Q : B → Hp → Prop} (hq : q' = true → q = true) (h : T K mg rel W q' m σ H Q) : T K mg rel W q m σ H Q := by
  obtain ⟨G, F, ρ, ok, h⟩ := h
  refine ⟨G, F, ρ, ok, ?_⟩
  cases e : m ρ with
  | ok x ρ1 =>
    rw [e] at h
    exact fun F1 H1 v fp0 a b c d => h F1 H1 v fp0 a (fun z => b (hq z)) c d
  | exc e ρ1 => rw [e] at h; exact h
  | bad => rw [e] at h; exact h
theorem XvR.same {Pr : Hp} (s : Same F F') (k : Same H H') (h : XvR K mg Pr F H v x fp) : XvR K mg Pr F' H' v x fp := by
  cases h with
  | sh h => exact .sh (h.mono s)
  | own h n => exact .own (h.same s k) n
  | bo h => exact .bo (h.mono s fun _ _ => rfl)
  | tr h => exact .tr (h.same s k)
/-- data, or an object that is protected -/
def SV.st : SV → Bool
  | .sh _ => true | .bo _ => true | _ => false
theorem XvR.stable {Pr : Hp} (e : x.st = true) (s : Same F F') (h : XvR K mg Pr F H v x fp) : XvR K mg Pr F' H' v x fp := by
  cases h with
  | sh h => exact .sh (h.mono s)
  | own h n => cases e
  | bo h => exact .bo (h.mono s fun _ _ => rfl)
  | tr h => cases e
theorem XvR.rp {Pr : Hp} (s : Same F H) (p : Same Pr H) (h : XvR K mg Pr F H v x fp) : Rp K mg H v x.data := by
  cases h with
  | sh h => exact h.mono s
  | own h n => exact h.rp s
  | bo h => exact (h.same (Same.refl F) p).rp s
  | tr h => exact h.rp s
/-- .. as an own object of the heap -/
theorem XvR.ow {Pr : Hp} (p : Same Pr H) (h : XvR K mg Pr F H v x fp) : (∃ d, x = .sh d ∧ Rp K mg F v d) ∨ ∃ o fq, x.data = o.data ∧ Ow K mg F H v o fq := by
  cases h with
  | sh h => exact .inl ⟨_, rfl, h⟩
  | own h n => exact .inr ⟨_, _, rfl, h⟩
  | bo h => exact .inr ⟨_, _, rfl, h.same (Same.refl F) p⟩
  | tr h => exact .inr ⟨_, _, rfl, h⟩
/-- a list: its items are data -/
theorem XvR.list {Pr : Hp} {ds : List D} (p : Same Pr H) (s : Same F H) (h : XvR K mg Pr F H v x fp) (e : x.data = .lst ds) : ∃ a vs, v = .ref a ∧ H a = some (.lst vs) ∧ Rps K mg F vs ds := by
  rcases h.ow p with ⟨d, rfl, hd⟩ | ⟨o, fq, e2, ho⟩
  · cases (show d = .lst ds from e)
    cases hd with
    | lst h9 r => exact ⟨_, _, rfl, s _ _ h9, r⟩
  · rw [e2] at e
    cases ho with
    | lst h9 r => cases e; exact ⟨_, _, rfl, h9, r⟩
    | dK h r => cases e
    | dT h r => cases e
    | dX h r => cases e
    | ins c h r => cases e
    | pk h r => cases e
theorem XvR.tup {Pr : Hp} {ds : List D} (h : XvR K mg Pr F H v x fp) (e : x.data = .tup ds) : Rp K mg F v (.tup ds) ∧ ∃ a vs, v = .ref a ∧ F a = some (.tup vs) ∧ Rps K mg F vs ds := by
  have key : ∀ {o : O} {fq : List Addr} {H : Hp}, Ow K mg F H v o fq → o.data = .tup ds → False := fun {o fq H} h e => by
    cases h <;> cases e
  cases h with
  | sh h =>
    cases (show _ = D.tup ds from e)
    refine ⟨h, ?_⟩
    cases h with
    | tup h r => exact ⟨_, _, rfl, h, r⟩
  | own h n => exact (key h e).elim
  | bo h => exact (key h e).elim
  | tr h => exact (key h e).elim
/-- behind what made new things only -/
theorem Ok.growX (k : Ok K mg G F H σ ρ) (g : Grow F H F' H') (n : ∀ p ∈ fp, F' p = none ∧ H p = none) : OkX K mg G F' H' σ ρ fp := by
  have k' := Ok.grow k g
  obtain ⟨ff, e1, e2, e3, e4⟩ := k.env
  obtain ⟨_, f1, f2, f3, f4⟩ := k'.env
  have nf : ∀ i p, p ∈ ff i → F' p = none := fun i p hp => by
    cases q : F' p with
    | none => rfl
    | some u =>
      obtain ⟨o, z⟩ := (e1 i).at p hp
      have := g.new p (e4 i p hp).1 (by rw [q]; simp)
      rw [z] at this; cases this
  refine ⟨⟨ff, fun i => (e1 i).mono g.sub fun p hp => ?_, e2, e3, fun i p hp => ⟨nf i p hp, (e4 i p hp).2.1, fun hf => ?_⟩⟩, fun p hp => ⟨(n p hp).1, ?_⟩, k'.sub, k'.pr, k'.f0, k'.fz, k'.pin, k'.len, k'.nft⟩
  · obtain ⟨o, q⟩ := (e1 i).at p hp
    rw [q]; exact g.same _ _ q
  · obtain ⟨o, z⟩ := (e1 i).at p hp
    rw [(n p hf).2] at z; cases z
  · refine ⟨?_, fun z => ?_⟩
    · cases z : G.Pr p with
      | none => rfl
      | some o =>
        have := k.pr p o z
        rw [(n p hp).2] at this; cases this
    · obtain ⟨o, e⟩ := k.nft p z
      rw [(n p hp).2] at e; cases e
/-- a new object, in the frozen part -/
theorem grow_frozen {p : Addr} {o : HO} (s : Same F H) (n : H p = none) : Grow F H (upd F p o) (upd H p o) := by
  have nF : F p = none := Same.free s n
  refine ⟨fun b u e => ?_, fun b u e => ?_, fun b u e => ?_, fun b e z => ?_⟩
  · rw [upd_ne (ne_of_none e nF)]; exact e
  · rw [upd_ne (ne_of_none e n)]; exact e
  · by_cases c : b = p
    · subst c; rw [upd_same] at e ⊢; exact e
    · rw [upd_ne c] at e ⊢; exact s _ _ e
  · by_cases c : b = p
    · subst c; exact n
    · rw [upd_ne c, e] at z; exact absurd rfl z
/-- a new object, not frozen -/
theorem grow_own {p : Addr} {o : HO} (s : Same F H) (n : H p = none) : Grow F H F (upd H p o) := by
  refine ⟨Same.refl F, fun b u e => ?_, fun b u e => ?_, fun b e z => absurd e z⟩
  · rw [upd_ne (ne_of_none e n)]; exact e
  · rw [upd_ne (ne_of_none (s _ _ e) n)]; exact s _ _ e
/-! ### the mirrors of expressions -/
def pureM (x : SV) : M SV := fun ρ => .ok x ρ
/-- a name's value, looked at -/
def varM (i : Nat) : M SV := fun ρ => match ρ[i]? with
  | some (some (.sh d)) => .ok (.sh d) ρ
  | some (some (.own o)) => .ok (.tr o) ρ
  | some (some (.io o)) => .ok (.tr o) ρ
  | some (some (.bo o)) => .ok (.bo o) ρ
  | _ => .bad
/-- a name's value, handed on: what it holds is frozen -/
def varF (i : Nat) : M SV := fun ρ => match ρ[i]? with
  | some (some (.sh d)) => .ok (.sh d) ρ
  | some (some (.own o)) => .ok (.sh o.data) (ρ.set i (some (.sh o.data)))
  | _ => .bad
/-- a name's value, moved out of it (the name is forgotten) -/
def varO (i : Nat) : M SV := fun ρ => match ρ[i]? with
  | some (some (.sh d)) => .ok (.sh d) ρ
  | some (some (.own o)) => .ok (.own o) (ρ.set i none)
  | _ => .bad
/-- frozen -/
def frzM (m : M SV) : M SV := fun ρ => (m ρ).bind fun x ρ1 => match x with
  | .sh d => .ok (.sh d) ρ1
  | .own o => .ok (.sh o.data) ρ1
  | _ => .bad
/-- two values and a step; the second must leave what the first told as it is (op2c: the first is told to stay) -/
def op2 (g : SV → SV → Option SV) (ma mb : M SV) : M SV := fun ρ => (ma ρ).bind fun x ρ1 => (mb ρ1).bind fun y ρ2 => match g x y with
  | some z => .ok z ρ2 | none => .bad
def op2c (g : SV → SV → Option SV) (ma mb : M SV) : M SV := fun ρ => (ma ρ).bind fun x ρ1 => if x.st = true then (mb ρ1).bind fun y ρ2 => match g x y with
  | some z => .ok z ρ2 | none => .bad else .bad
def op1 (g : SV → Option SV) (ma : M SV) : M SV := fun ρ => (ma ρ).bind fun x ρ1 => match g x with
  | some z => .ok z ρ1 | none => .bad
/-- a step on all arguments -/
def opA (g : List SV → Option SV) (ma : M (List SV)) : M SV := fun ρ => (ma ρ).bind fun xs ρ1 => match g xs with
  | some z => .ok z ρ1 | none => .bad
def SV.arg : SV → Bool
  | .own _ => false | .io _ => false | _ => true
def a0 : M (List SV) := fun ρ => .ok [] ρ
def a1 (m : M SV) (r : M (List SV)) : M (List SV) := fun ρ => (m ρ).bind fun x ρ1 => if x.arg = true then (r ρ1).bind fun xs ρ2 => .ok (x :: xs) ρ2 else .bad
def a1c (m : M SV) (r : M (List SV)) : M (List SV) := fun ρ => (m ρ).bind fun x ρ1 => if x.st = true then (r ρ1).bind fun xs ρ2 => .ok (x :: xs) ρ2 else .bad
/-! tests -/
def SV.isB : SV → Option Bool
  | .sh (.bl b) => some b | _ => none
def valT (m : M SV) : M Bool := fun ρ => (m ρ).bind fun x ρ1 => match x.isB with
  | some b => .ok b ρ1 | none => .bad
def andT (a b : M Bool) : M Bool := fun ρ => (a ρ).bind fun c ρ1 => if c = true then b ρ1 else .ok false ρ1
def orT (a b : M Bool) : M Bool := fun ρ => (a ρ).bind fun c ρ1 => if c = true then .ok true ρ1 else b ρ1
def notT (a : M Bool) : M Bool := fun ρ => (a ρ).bind fun c ρ1 => .ok (!c) ρ1
def andV (a b : M SV) : M SV := fun ρ => (a ρ).bind fun x ρ1 => match x.isB with
  | some true => b ρ1 | some false => .ok (.sh (.bl false)) ρ1 | none => .bad
def orV (a b : M SV) : M SV := fun ρ => (a ρ).bind fun x ρ1 => match x.isB with
  | some true => .ok (.sh (.bl true)) ρ1 | some false => b ρ1 | none => .bad
def notV (a : M SV) : M SV := fun ρ => (a ρ).bind fun x ρ1 => match x.isB with
  | some c => .ok (.sh (.bl (!c))) ρ1 | none => .bad
def ifV (t : M Bool) (a b : M SV) : M SV := fun ρ => (t ρ).bind fun c ρ1 => if c = true then a ρ1 else b ρ1
end

theorem PE.imp {X : Cx} {e : Expr} {t t' : TE} (h : PE X e t) (k : ∀ σ H Q, t' σ H Q → t σ H Q) : PE X e t' := ⟨fun pins s σ H Q I z => h.run pins s σ H Q I (k σ H Q z)⟩
theorem PT.imp {X : Cx} {e : Expr} {t t' : TT} (h : PT X e t) (k : ∀ σ H Q, t' σ H Q → t σ H Q) : PT X e t' := ⟨fun pins s σ H Q I z => h.run pins s σ H Q I (k σ H Q z)⟩
theorem PW.imp {X : Cx} {e : Expr} {t t' : TT} (h : PW X e t) (k : ∀ σ H Q, t' σ H Q → t σ H Q) : PW X e t' := ⟨fun wh pins s σ H Q I z => h.run wh pins s σ H Q I (k σ H Q z)⟩
theorem PA.imp {X : Cx} {es : List Expr} {t t' : TA} (h : PA X es t) (k : ∀ σ H Q, t' σ H Q → t σ H Q) : PA X es t' := ⟨fun pos pins s σ H Q I z => h.run pos pins s σ H Q I (k σ H Q z)⟩
theorem PS.imp {X : Cx} {st : Stmt} {t t' : TS} (h : PS X st t) (k : ∀ D σ H, t' D σ H → t D σ H) : PS X st t' := ⟨fun pins s σ H D I z => h.run pins s σ H D I (k D σ H z)⟩
theorem PSs.imp {X : Cx} {st : List Stmt} {t t' : TS} (h : PSs X st t) (k : ∀ D σ H, t' D σ H → t D σ H) : PSs X st t' := ⟨fun pins s σ H D I z => h.run pins s σ H D I (k D σ H z)⟩

/-! ### steps by values -/
/-- a step on two values: g tells what comes -/
def OpG (X : Cx) (P : R2 → Prop) (g : SV → SV → Option SV) : Prop := ∀ (Pr F H : Hp) (x y : SV) (v w : V) (fx fy : List Addr) (z : SV) (Q : VK), Same F H → Same Pr H → XvR X.K X.wg Pr F H v x fx → XvR X.K X.wg Pr F H w y fy → g x y = some z →
  (∀ F' H' u fz, Grow F H F' H' → XvR X.K X.wg Pr F' H' u z fz → (∀ p ∈ fz, F' p = none ∧ H p = none) → Q u H') → ∃ r, P r ∧ r v w H Q
def anyR (P : R2 → Prop) : R2 := fun v w H Q => ∃ r, P r ∧ r v w H Q
theorem OpR.any {X : Cx} {f : Value → Value → Sem Value} : OpR X f (anyR (OpR X f)) := fun pins s σ H x y v u Q I rx ry ⟨_, hr, h⟩ => hr pins s σ H x y v u Q I rx ry h
theorem IxR.any {X : Cx} : IxR X (anyR (IxR X)) := fun value slice pins s σ H x y v u Q I rx ry ⟨_, hr, h⟩ hs => hr value slice pins s σ H x y v u Q I rx ry h hs
def UnG (X : Cx) (P : (V → Hp → VK → Prop) → Prop) (g : SV → Option SV) : Prop := ∀ (Pr F H : Hp) (x : SV) (v : V) (fx : List Addr) (z : SV) (Q : VK), Same F H → Same Pr H → XvR X.K X.wg Pr F H v x fx → g x = some z →
  (∀ F' H' u fz, Grow F H F' H' → XvR X.K X.wg Pr F' H' u z fz → (∀ p ∈ fz, F' p = none ∧ H p = none) → Q u H') → ∃ r, P r ∧ r v H Q
def anyU (P : (V → Hp → VK → Prop) → Prop) : V → Hp → VK → Prop := fun v H Q => ∃ r, P r ∧ r v H Q
theorem UnR.any {X : Cx} {f : Value → Sem Value} : UnR X f (anyU (UnR X f)) := fun pins s σ H x v Q I rx ⟨_, hr, h⟩ => hr pins s σ H x v Q I rx h
def CallG (X : Cx) (P : (List V → Hp → VK → Prop) → Prop) (g : List SV → Option SV) : Prop := ∀ (Pr F H : Hp) (xs : List SV) (vs : List V) (z : SV) (Q : VK), Same F H → Same Pr H → XsR X.K X.wg Pr F H vs xs → g xs = some z →
  (∀ F' H' u fz, Grow F H F' H' → XvR X.K X.wg Pr F' H' u z fz → (∀ p ∈ fz, F' p = none ∧ H p = none) → Q u H') → ∃ r, P r ∧ r vs H Q
def anyC (P : (List V → Hp → VK → Prop) → Prop) : List V → Hp → VK → Prop := fun v H Q => ∃ r, P r ∧ r v H Q
theorem CallR.any {X : Cx} {f : Value} : CallR X f (anyC (CallR X f)) := fun pins s σ H xs us Q I rx ⟨_, hr, h⟩ => hr pins s σ H xs us Q I rx h

section
variable {X : Cx} {W : WX} {q q2 : Bool} {a b e : Expr} {es : List Expr} {ma mb m : M SV} {ms : M (List SV)} {ta tb : M Bool} {pos : Pos}

theorem px_weak (h : PX X W e true m) : PX X W e q m := PE.imp h fun σ H Q z => T.weak (fun _ => rfl) z
theorem pb_weak (h : PB X W e true ta) : PB X W e q ta := PT.imp h fun σ H Q z => T.weak (fun _ => rfl) z

/-- a value that is a constant -/
theorem px_pure {v : V} {x : SV} (h : PE X e (tC v)) (hx : ∀ Pr F H, XvR X.K X.wg Pr F H v x []) : PX X W e true (pureM x) := PE.imp h fun σ H Q ⟨G, F, ρ, ok, z⟩ => z F H v [] (Same.refl F) (fun _ => Same.refl H) ok (hx _ _ _)
theorem px_int {i : Int} {j} : PX X W (.Constant (.int i) j pos) true (pureM (.sh (.int i))) := px_pure pe_int fun _ _ _ => .sh (.int i)
theorem px_str {i : Str} {j} : PX X W (.Constant (.str i) j pos) true (pureM (.sh (.str i))) := px_pure pe_str fun _ _ _ => .sh (.str i)
theorem px_bl {i : Bool} {j} : PX X W (.Constant (.bool i) j pos) true (pureM (.sh (.bl i))) := px_pure pe_bl fun _ _ _ => .sh (.bl i)
theorem px_non {j} : PX X W (.Constant .none j pos) true (pureM (.sh .non)) := px_pure pe_non fun _ _ _ => .sh .non
theorem px_var {i : Nat} (h : PE X e (tVar i)) : PX X W e true (varM i) := PE.imp h fun σ H Q ⟨G, F, ρ, ok, z⟩ => by
  unfold varM at z
  cases hp : ρ[i]? with
  | none => rw [hp] at z; exact z.elim
  | some s =>
    cases s with
    | none => rw [hp] at z; exact z.elim
    | some s =>
      rw [hp] at z
      obtain ⟨v, fp, e, r⟩ := ok.slot hp
      refine ⟨v, e, ?_⟩
      cases r with
      | sh r => exact z F H v [] (Same.refl F) (fun _ => Same.refl H) ok (.sh r)
      | own r => exact z F H v [] (Same.refl F) (fun _ => Same.refl H) ok (.tr r)
      | io r => exact z F H v [] (Same.refl F) (fun _ => Same.refl H) ok (.tr r)
      | bo r => exact z F H v [] (Same.refl F) (fun _ => Same.refl H) ok (.bo r)
end
section
variable {K : PySem.W.Frag} {mg : MG} {G : Gh} {F H : Hp} {σ : St} {ρ : Nv} {o : O}
/-- an own object is taken out of its slot -/
theorem OkX.out (k : Ok K mg G F H σ ρ) {i : Nat} (e : ρ[i]? = some (some (.own o)) ∨ ρ[i]? = some (some (.io o))) : ∃ v fp, σ[i]? = some (some v) ∧ Ow K mg F H v o fp ∧ fp.Nodup ∧ OkX K mg G F H σ (ρ.set i none) fp := by
  obtain ⟨ff, e1, e2, e3, e4⟩ := k.env
  have h : ∃ v, σ[i]? = some (some v) ∧ Ow K mg F H v o (ff i) := by
    have := e1 i
    rcases e with e | e
    · rw [e] at this
      obtain ⟨v, ev, r⟩ := this
      cases r with
      | own r => exact ⟨v, ev, r⟩
    · rw [e] at this
      obtain ⟨v, ev, r⟩ := this
      cases r with
      | io r => exact ⟨v, ev, r⟩
  obtain ⟨v, ev, r⟩ := h
  refine ⟨v, ff i, ev, r, e2 i, ?_⟩
  have kf := OkX.forget k i
  have sub : ∀ j p, p ∈ (if j = i then [] else ff j) → p ∈ ff j := fun j p hp => by
    by_cases c : j = i
    · rw [if_pos c] at hp; cases hp
    · rw [if_neg c] at hp; exact hp
  refine ⟨⟨fun j => if j = i then [] else ff j, fun j => ?_, fun j => ?_, fun j l p hj hl => e3 j l p (sub j p hj) (sub l p hl), fun j p hp => ⟨(e4 j p (sub j p hp)).1, (e4 j p (sub j p hp)).2.1, fun hi => ?_⟩⟩, fun p hp => ⟨(e4 i p hp).1, (e4 i p hp).2.1⟩, k.sub, k.pr, k.f0, k.fz, kf.pin, kf.len, kf.nft⟩
  · show SlotR _ _ _ _ _ _ _ (if j = i then [] else ff j)
    by_cases c : j = i
    · subst c
      rw [if_pos rfl]
      unfold SlotR
      by_cases hi : j < ρ.length
      · rw [List.getElem?_set_self hi]
      · rw [List.getElem?_eq_none (by rw [List.length_set]; omega)]
    · rw [if_neg c, List.getElem?_set_ne (Ne.symm c)]
      exact e1 j
  · show (if j = i then [] else ff j).Nodup
    split
    · exact List.nodup_nil
    · exact e2 j
  · have hp' : p ∈ (if j = i then [] else ff j) := hp
    by_cases c : j = i
    · rw [if_pos c] at hp'; cases hp'
    · rw [if_neg c] at hp'; exact c (e3 j i p hp' hi)
theorem set_set_none {ρ : Nv} {i : Nat} {x : Option SV} : (ρ.set i none).set i x = ρ.set i x := by
  rw [List.set_set]
/-- .. and back, whatever it became -/
theorem OkX.back {v : V} {x : SV} {fp : List Addr} (k : OkX K mg G F H σ (ρ.set i none) fp) (hv : σ[i]? = some (some v)) (h : SvR K mg G.Pr F H v x fp) (hn : fp.Nodup) (hpin : ∀ o, x = .io o ∨ x = .bo o → σ[i]? = G.pin[i]?) : Ok K mg G F H σ (ρ.set i (some x)) := by
  have hi : i < (ρ.set i none).length := by rw [← k.len]; exact (List.getElem?_eq_some_iff.mp hv).1
  have es : σ.set i (some v) = σ := by
    apply List.ext_getElem?
    intro j
    by_cases c : j = i
    · subst c
      rw [List.getElem?_set_self (List.getElem?_eq_some_iff.mp hv).1, hv]
    · rw [List.getElem?_set_ne (Ne.symm c)]
  obtain ⟨ff, e1, e2, e3, e4⟩ := k.env
  have hi' : i < ρ.length := by rw [List.length_set] at hi; exact hi
  refine ⟨⟨fun j => if j = i then fp else ff j, fun j => ?_, fun j => ?_, fun j l p hj hl => ?_, fun j p hp => ?_⟩, (by intro p hp; cases hp), k.sub, k.pr, k.f0, k.fz, fun j o hj => ?_, (by rw [k.len, List.length_set, List.length_set]), k.nft⟩
  · show SlotR _ _ _ _ _ _ _ (if j = i then fp else ff j)
    by_cases c : j = i
    · subst c
      rw [if_pos rfl, List.getElem?_set_self hi']
      exact ⟨v, hv, h⟩
    · have := e1 j
      rw [if_neg c, List.getElem?_set_ne (Ne.symm c)]
      rw [List.getElem?_set_ne (Ne.symm c)] at this
      exact this
  · show (if j = i then fp else ff j).Nodup
    split
    · exact hn
    · exact e2 j
  · have hj' : p ∈ (if j = i then fp else ff j) := hj
    have hl' : p ∈ (if l = i then fp else ff l) := hl
    by_cases cj : j = i
    · by_cases cl : l = i
      · rw [cj, cl]
      · rw [if_pos cj] at hj'; rw [if_neg cl] at hl'
        exact absurd hj' (e4 l p hl').2.2
    · by_cases cl : l = i
      · rw [if_neg cj] at hj'; rw [if_pos cl] at hl'
        exact absurd hl' (e4 j p hj').2.2
      · rw [if_neg cj] at hj'; rw [if_neg cl] at hl'
        exact e3 j l p hj' hl'
  · have hp' : p ∈ (if j = i then fp else ff j) := hp
    by_cases c : j = i
    · rw [if_pos c] at hp'
      exact ⟨(k.own p hp').1, (k.own p hp').2, by simp⟩
    · rw [if_neg c] at hp'
      exact ⟨(e4 j p hp').1, (e4 j p hp').2.1, by simp⟩
  · by_cases c : j = i
    · subst c
      rw [List.getElem?_set_self hi'] at hj
      rcases hj with hj | hj
      · cases hj; exact hpin _ (.inl rfl)
      · cases hj; exact hpin _ (.inr rfl)
    · have := k.pin j o
      rw [List.getElem?_set_ne (Ne.symm c)] at hj this
      exact this hj
end
section
variable {X : Cx} {W : WX} {q q2 : Bool} {a b e : Expr} {es : List Expr} {ma mb m : M SV} {ms : M (List SV)} {ta tb : M Bool} {pos : Pos}
theorem px_varF {i : Nat} (h : PE X e (tVar i)) : PX X W e true (varF i) := PE.imp h fun σ H Q ⟨G, F, ρ, ok, z⟩ => by
  unfold varF at z
  cases hp : ρ[i]? with
  | none => rw [hp] at z; exact z.elim
  | some s =>
    cases s with
    | none => rw [hp] at z; exact z.elim
    | some s =>
      rw [hp] at z
      cases s with
      | sh d =>
        obtain ⟨v, fp, e, r⟩ := ok.slot hp
        cases r with
        | sh r => exact ⟨v, e, z F H v [] (Same.refl F) (fun _ => Same.refl H) ok (.sh r)⟩
      | own o =>
        obtain ⟨v, fp, ev, r, nd, k⟩ := OkX.out ok (.inl hp)
        obtain ⟨k2, s2⟩ := k.frozen
        have rr := r.frozen fun p hp => (k.own p hp).1
        have k3 : Ok X.K X.wg G (frz F H fp) H σ (ρ.set i (some (.sh o.data))) := OkX.back (fp := []) k2 ev (.sh rr) List.nodup_nil fun o h => by rcases h with h | h <;> cases h
        exact ⟨v, ev, z _ H v [] s2 (fun _ => Same.refl H) k3 (.sh rr)⟩
      | io o => exact z.elim
      | bo o => exact z.elim
      | tr o => exact z.elim
theorem px_varO {i : Nat} (h : PE X e (tVar i)) : PX X W e true (varO i) := PE.imp h fun σ H Q ⟨G, F, ρ, ok, z⟩ => by
  unfold varO at z
  cases hp : ρ[i]? with
  | none => rw [hp] at z; exact z.elim
  | some s =>
    cases s with
    | none => rw [hp] at z; exact z.elim
    | some s =>
      rw [hp] at z
      cases s with
      | sh d =>
        obtain ⟨v, fp, e, r⟩ := ok.slot hp
        cases r with
        | sh r => exact ⟨v, e, z F H v [] (Same.refl F) (fun _ => Same.refl H) ok (.sh r)⟩
      | own o =>
        obtain ⟨v, fp, ev, r, nd, k⟩ := OkX.out ok (.inl hp)
        exact ⟨v, ev, z _ H v fp (Same.refl F) (fun _ => Same.refl H) k (.own r nd)⟩
      | io o => exact z.elim
      | bo o => exact z.elim
      | tr o => exact z.elim
theorem px_frz (h : PX X W e q m) : PX X W e q (frzM m) := PE.imp h fun σ H Q ⟨G, F, ρ, ok, z⟩ => by
  unfold frzM at z
  refine T.bind ok z fun x ρ1 F1 H1 v fp0 e1 s1 s2 k1 r z => ?_
  cases r with
  | sh r => exact z F1 H1 v [] s1 s2 k1 (.sh r)
  | own r n =>
    obtain ⟨k2, s3⟩ := k1.frozen
    exact z _ H1 v [] (s1.trans s3) s2 k2 (.sh (r.frozen fun p hp => (k1.own p hp).1))
  | bo r => exact z.elim
  | tr r => exact z.elim
/-- two values, the second read leaves the first -/
theorem tOp_of {r : R2} {g : SV → SV → Option SV} {σ : St} {H : Hp} {Q : VK} (hg : ∀ (Pr F H : Hp) (x y : SV) (v w : V) (fx fy : List Addr) (z : SV) (Q : VK), Same F H → Same Pr H → XvR X.K X.wg Pr F H v x fx → XvR X.K X.wg Pr F H w y fy → g x y = some z →
      (∀ F' H' u fz, Grow F H F' H' → XvR X.K X.wg Pr F' H' u z fz → (∀ p ∈ fz, F' p = none ∧ H p = none) → Q u H') → r v w H Q)
    (h : T X.K X.wg (relX X.K X.wg) W q (op2 g ma mb) σ H Q) : tOp r (T X.K X.wg (relX X.K X.wg) W q ma) (T X.K X.wg (relX X.K X.wg) W true mb) σ H Q := by
  obtain ⟨G, F, ρ, ok, z⟩ := h
  unfold op2 at z
  refine T.bind ok z fun x ρ1 F1 H1 v fp0 e1 s1 s2 k1 rx z => ?_
  refine T.bind k1.drop (Post.adv s1 s2 z) fun y ρ2 F2 H2 w fp2 e2 s3 s4 k2 ry z => ?_
  have rx2 := XvR.same s3 (s4 rfl) rx
  cases e3 : g x y with
  | none => rw [e3] at z; exact z.elim
  | some u =>
    rw [e3] at z
    exact hg G.Pr F2 H2 x y v w fp0 fp2 u Q k2.sub k2.pr rx2 ry e3 fun F' H' t fz gr rz nz => z F' H' t fz (s3.trans gr.sub) (fun _ => (s4 rfl).trans gr.same) (Ok.growX k2.drop gr nz) rz
theorem tOpc_of {r : R2} {g : SV → SV → Option SV} {σ : St} {H : Hp} {Q : VK} (hg : ∀ (Pr F H : Hp) (x y : SV) (v w : V) (fx fy : List Addr) (z : SV) (Q : VK), Same F H → Same Pr H → XvR X.K X.wg Pr F H v x fx → XvR X.K X.wg Pr F H w y fy → g x y = some z →
      (∀ F' H' u fz, Grow F H F' H' → XvR X.K X.wg Pr F' H' u z fz → (∀ p ∈ fz, F' p = none ∧ H p = none) → Q u H') → r v w H Q)
    (h : T X.K X.wg (relX X.K X.wg) W false (op2c g ma mb) σ H Q) : tOp r (T X.K X.wg (relX X.K X.wg) W q ma) (T X.K X.wg (relX X.K X.wg) W q2 mb) σ H Q := by
  obtain ⟨G, F, ρ, ok, z⟩ := h
  unfold op2c at z
  refine T.bind ok z fun x ρ1 F1 H1 v fp0 e1 s1 s2 k1 rx z => ?_
  split at z
  · rename_i hst
    refine T.bind k1.drop (Post.adv (q := false) (H1 := H1) s1 (fun e => nomatch e) z) fun y ρ2 F2 H2 w fp2 e2 s3 s4 k2 ry z => ?_
    have rx2 : XvR X.K X.wg G.Pr F2 H2 v x fp0 := XvR.stable hst s3 rx
    cases e3 : g x y with
    | none => rw [e3] at z; exact z.elim
    | some u =>
      rw [e3] at z
      exact hg G.Pr F2 H2 x y v w fp0 fp2 u Q k2.sub k2.pr rx2 ry e3 fun F' H' t fz gr rz nz => z F' H' t fz (s3.trans gr.sub) (fun e => nomatch e) (Ok.growX k2.drop gr nz) rz
  · exact z.elim
theorem px_op {op : Operator} {g : SV → SV → Option SV} (hg : OpG X (OpR X (binaryOp op)) g) (ha : PX X W a q ma) (hb : PX X W b true mb) : PX X W (.BinOp a op b pos) q (op2 g ma mb) :=
  PE.imp (pe_op OpR.any ha hb) fun σ H Q h => tOp_of (r := anyR _) hg h
theorem px_opc {op : Operator} {g : SV → SV → Option SV} (hg : OpG X (OpR X (binaryOp op)) g) (ha : PX X W a q ma) (hb : PX X W b q2 mb) : PX X W (.BinOp a op b pos) false (op2c g ma mb) :=
  PE.imp (pe_op OpR.any ha hb) fun σ H Q h => tOpc_of (r := anyR _) hg h
theorem px_ix {g : SV → SV → Option SV} (hg : OpG X (IxR X) g) (ha : PX X W a q ma) (hb : PX X W b true mb) (hs : PlainIx b) : PX X W (.Subscript a b pos) q (op2 g ma mb) :=
  PE.imp (pe_ix IxR.any ha hb hs) fun σ H Q h => tOp_of (r := anyR _) hg h
theorem px_ixc {g : SV → SV → Option SV} (hg : OpG X (IxR X) g) (ha : PX X W a q ma) (hb : PX X W b q2 mb) (hs : PlainIx b) : PX X W (.Subscript a b pos) false (op2c g ma mb) :=
  PE.imp (pe_ix IxR.any ha hb hs) fun σ H Q h => tOpc_of (r := anyR _) hg h
/-- one value -/
theorem tUn_of {r : V → Hp → VK → Prop} {g : SV → Option SV} {σ : St} {H : Hp} {Q : VK} (hg : ∀ (Pr F H : Hp) (x : SV) (v : V) (fx : List Addr) (z : SV) (Q : VK), Same F H → Same Pr H → XvR X.K X.wg Pr F H v x fx → g x = some z →
      (∀ F' H' u fz, Grow F H F' H' → XvR X.K X.wg Pr F' H' u z fz → (∀ p ∈ fz, F' p = none ∧ H p = none) → Q u H') → r v H Q)
    (h : T X.K X.wg (relX X.K X.wg) W q (op1 g ma) σ H Q) : tUn r (T X.K X.wg (relX X.K X.wg) W q ma) σ H Q := by
  obtain ⟨G, F, ρ, ok, z⟩ := h
  unfold op1 at z
  refine T.bind ok z fun x ρ1 F1 H1 v fp0 e1 s1 s2 k1 rx z => ?_
  cases e3 : g x with
  | none => rw [e3] at z; exact z.elim
  | some u =>
    rw [e3] at z
    exact hg G.Pr F1 H1 x v fp0 u Q k1.sub k1.pr rx e3 fun F' H' t fz gr rz nz => z F' H' t fz (s1.trans gr.sub) (fun e => (s2 e).trans gr.same) (Ok.growX k1.drop gr nz) rz
theorem px_un {op : UnaryOp} {g : SV → Option SV} (hg : UnG X (UnR X (unaryOp op)) g) (ha : PX X W a q ma) : PX X W (.UnaryOp op a pos) q (op1 g ma) :=
  PE.imp (pe_un UnR.any ha) fun σ H Q h => tUn_of (r := anyU _) hg h
/-! arguments -/
theorem pas_nil : PAs X W [] true a0 := PA.imp pa_nil fun σ H Q ⟨G, F, ρ, ok, z⟩ => z F H [] [] (Same.refl F) (fun _ => Same.refl H) ok ⟨.nil, rfl⟩
theorem XvR.fp_nil {K : PySem.W.Frag} {mg : MG} {Pr F H : Hp} {v : V} {x : SV} {fp : List Addr} (h : XvR K mg Pr F H v x fp) (e : x.arg = true) : fp = [] := by
  cases h <;> first | rfl | cases e
theorem SV.arg_st {x : SV} (h : x.st = true) : x.arg = true := by
  cases x <;> first | rfl | cases h
theorem XsR.same {K : PySem.W.Frag} {mg : MG} {Pr F F' H H' : Hp} {vs : List V} {xs : List SV} (s : Same F F') (k : Same H H') (h : XsR K mg Pr F H vs xs) : XsR K mg Pr F' H' vs xs := by
  induction h with
  | nil => exact .nil
  | cons h r ih => exact .cons (h.same s k) ih
theorem pas_cons (ha : PX X W e q m) (hr : PAs X W es true ms) (hs : starEach (e :: es) X.env = (false, eval e X.env) :: starEach es X.env := by rfl) : PAs X W (e :: es) q (a1 m ms) :=
  PA.imp (pa_cons ha hr hs) fun σ H Q ⟨G, F, ρ, ok, z⟩ => by
    unfold a1 at z
    refine T.bind ok z fun x ρ1 F1 H1 v fp0 e1 s1 s2 k1 rx z => ?_
    split at z
    · rename_i ha
      refine T.bind k1.drop (Post.adv s1 s2 z) fun xs ρ2 F2 H2 vs fp2 e2 s3 s4 k2 ry z => ?_
      obtain ⟨ry, rfl⟩ := ry
      cases XvR.fp_nil rx ha
      exact z F2 H2 (v :: vs) [] s3 (fun _ => s4 rfl) k2 ⟨.cons (rx.same s3 (s4 rfl)) ry, rfl⟩
    · exact z.elim
theorem pas_consc (ha : PX X W e q m) (hr : PAs X W es q2 ms) (hs : starEach (e :: es) X.env = (false, eval e X.env) :: starEach es X.env := by rfl) : PAs X W (e :: es) false (a1c m ms) :=
  PA.imp (pa_cons ha hr hs) fun σ H Q ⟨G, F, ρ, ok, z⟩ => by
    unfold a1c at z
    refine T.bind ok z fun x ρ1 F1 H1 v fp0 e1 s1 s2 k1 rx z => ?_
    split at z
    · rename_i ha
      refine T.bind k1.drop (Post.adv (q := false) (H1 := H1) s1 (fun e => nomatch e) z) fun xs ρ2 F2 H2 vs fp2 e2 s3 s4 k2 ry z => ?_
      obtain ⟨ry, rfl⟩ := ry
      cases XvR.fp_nil rx (SV.arg_st ha)
      exact z F2 H2 (v :: vs) [] s3 (fun e => nomatch e) k2 ⟨.cons (rx.stable ha s3) ry, rfl⟩
    · exact z.elim
theorem tCB_of {r : List V → Hp → VK → Prop} {g : List SV → Option SV} {σ : St} {H : Hp} {Q : VK} (hg : ∀ (Pr F H : Hp) (xs : List SV) (vs : List V) (z : SV) (Q : VK), Same F H → Same Pr H → XsR X.K X.wg Pr F H vs xs → g xs = some z →
      (∀ F' H' u fz, Grow F H F' H' → XvR X.K X.wg Pr F' H' u z fz → (∀ p ∈ fz, F' p = none ∧ H p = none) → Q u H') → r vs H Q)
    (h : T X.K X.wg (relX X.K X.wg) W q (opA g ms) σ H Q) : T X.K X.wg (relA X.K X.wg) W q ms σ H fun vs H1 => r vs H1 Q := by
  obtain ⟨G, F, ρ, ok, z⟩ := h
  unfold opA at z
  refine T.bind ok z fun xs ρ1 F1 H1 vs fp0 e1 s1 s2 k1 rx z => ?_
  obtain ⟨rx, rfl⟩ := rx
  cases e3 : g xs with
  | none => rw [e3] at z; exact z.elim
  | some u =>
    rw [e3] at z
    exact hg G.Pr F1 H1 xs vs u Q k1.sub k1.pr rx e3 fun F' H' t fz gr rz nz => z F' H' t fz (s1.trans gr.sub) (fun e => (s2 e).trans gr.same) (Ok.growX k1.drop gr nz) rz
theorem px_callB {id : String} {x : Str} {g : List SV → Option SV} {p : Pos} (hg : CallG X (CallR X (.builtin id)) g) (hgl : Gl X x) (hm : X.mg x = none) (hv : bootBuiltins x = some (.builtin id)) (ha : PAs X W (e :: es) q ms) (hn : x ≠ "__name__" := by decide) (hdb : (x == ("__debug__" : Str)) = false := by decide)
    (he : starEach (e :: es) X.env = (false, eval e X.env) :: starEach es X.env := by rfl) (hpl : (backTo pos (starEach es X.env)).any (·.1) = false := by rfl) : PX X W (.Call (.Name x p) (e :: es) [] pos) q (opA g ms) :=
  PE.imp (pe_callB CallR.any hgl hm hv ha hn hdb he hpl) fun σ H Q h => tCB_of (r := anyC _) hg h
theorem px_callTy {Ty : String} {x : Str} {g : List SV → Option SV} {p : Pos} (hg : CallG X (CallR X (.type Ty)) g) (hgl : Gl X x) (hm : X.mg x = none) (hv : bootBuiltins x = some (.type Ty)) (ha : PAs X W (e :: es) q ms) (hn : x ≠ "__name__" := by decide) (hdb : (x == ("__debug__" : Str)) = false := by decide)
    (he : starEach (e :: es) X.env = (false, eval e X.env) :: starEach es X.env := by rfl) (hpl : (backTo pos (starEach es X.env)).any (·.1) = false := by rfl) : PX X W (.Call (.Name x p) (e :: es) [] pos) q (opA g ms) :=
  PE.imp (pe_callTy CallR.any hgl hm hv ha hn hdb he hpl) fun σ H Q h => tCB_of (r := anyC _) hg h
/-! displays -/
theorem XsR.rps {K : PySem.W.Frag} {mg : MG} {Pr F H : Hp} {vs : List V} : ∀ {xs : List SV} {ds : List D}, XsR K mg Pr F H vs xs → (xs.mapM fun x => match x with | .sh d => some d | _ => none) = some ds → Rps K mg F vs ds := by
  intro xs ds h
  induction h generalizing ds with
  | nil => intro e; cases e; exact .nil
  | cons h r ih =>
    intro e
    rename_i v x vs xs
    rw [List.mapM_cons] at e
    cases h with
    | sh h =>
      cases e2 : (xs.mapM fun x => match x with | .sh d => some d | _ => none) with
      | none => rw [e2] at e; cases e
      | some es =>
        rw [e2] at e
        cases e
        exact .cons h (ih e2)
    | own h n => cases e
    | bo h => cases e
    | tr h => cases e
def shs (xs : List SV) : Option (List D) := xs.mapM fun x => match x with | .sh d => some d | _ => none
def gTupX (xs : List SV) : Option SV := match shs xs with
  | some ds => if ds.length ≤ sizeLine then some (.sh (.tup ds)) else none
  | none => none
def gLstX (xs : List SV) : Option SV := match shs xs with
  | some ds => if ds.length ≤ sizeLine then some (.own (.lst ds)) else none
  | none => none
theorem Rps.length {K : PySem.W.Frag} {mg : MG} {F : Hp} {vs : List V} {ds : List D} (h : Rps K mg F vs ds) : vs.length = ds.length := by
  have : ∀ (vs : List V) (ds : List D), Rps K mg F vs ds → vs.length = ds.length := by
    intro vs
    induction vs with
    | nil => intro ds h; cases h; rfl
    | cons v vs ih => intro ds h; cases h with | cons h r => rw [List.length_cons, List.length_cons, ih _ r]
  exact this vs ds h
theorem px_tup {x1} (h : PAs X W es q ms) : PX X W (.Tuple es x1 pos) q (opA gTupX ms) :=
  PE.imp (pe_tup h) fun σ H Q h => tCB_of (r := fun xs H1 Q => xs.length ≤ sizeLine ∧ ∀ p, H1 p = none → Q (.ref p) (upd H1 p (.tup xs))) (fun Pr F H xs vs z Q s p r e k => by
    unfold gTupX at e
    cases e2 : shs xs with
    | none => rw [e2] at e; cases e
    | some ds =>
      rw [e2] at e
      by_cases c : ds.length ≤ sizeLine
      · have e : (if ds.length ≤ sizeLine then some (SV.sh (.tup ds)) else none) = some z := e
        rw [if_pos c] at e
        cases e
        have rs := XsR.rps r e2
        refine ⟨by rw [Rps.length rs]; exact c, fun a na => k (upd F a (.tup vs)) (upd H a (.tup vs)) (.ref a) [] (grow_frozen s na) (.sh (.tup upd_same (rs.mono (grow_frozen (o := .tup vs) s na).sub))) (by intro p hp; cases hp)⟩
      · have e : (if ds.length ≤ sizeLine then some (SV.sh (.tup ds)) else none) = some z := e
        rw [if_neg c] at e; cases e) h
theorem px_lst (h : PAs X W es q ms) : PX X W (.List es pos) q (opA gLstX ms) :=
  PE.imp (pe_lst h) fun σ H Q h => tCB_of (r := fun xs H1 Q => xs.length ≤ sizeLine ∧ ∀ p, H1 p = none → Q (.ref p) (upd H1 p (.lst xs))) (fun Pr F H xs vs z Q s p r e k => by
    unfold gLstX at e
    cases e2 : shs xs with
    | none => rw [e2] at e; cases e
    | some ds =>
      rw [e2] at e
      by_cases c : ds.length ≤ sizeLine
      · have e : (if ds.length ≤ sizeLine then some (SV.own (.lst ds)) else none) = some z := e
        rw [if_pos c] at e
        cases e
        have rs := XsR.rps r e2
        refine ⟨by rw [Rps.length rs]; exact c, fun a na => k F (upd H a (.lst vs)) (.ref a) [a] (grow_own s na) (.own (.lst upd_same rs) (by simp)) (by intro p hp; rw [List.mem_singleton] at hp; subst hp; exact ⟨Same.free s na, na⟩)⟩
      · have e : (if ds.length ≤ sizeLine then some (SV.own (.lst ds)) else none) = some z := e
        rw [if_neg c] at e; cases e) h
/-! tests -/
theorem SV.isB_rel {K : PySem.W.Frag} {mg : MG} {Pr F H : Hp} {v : V} {x : SV} {fp : List Addr} {c : Bool} (h : XvR K mg Pr F H v x fp) (e : x.isB = some c) : x = .sh (.bl c) ∧ v = .bl c ∧ fp = [] := by
  cases h with
  | @sh d h =>
    cases h <;> first | (cases e; exact ⟨rfl, rfl, rfl⟩) | cases e
  | own h n => cases e
  | bo h => cases e
  | tr h => cases e
theorem tB_of {σ : St} {H : Hp} {Q : Bool → Hp → Prop} (h : T X.K X.wg relB W q (valT m) σ H Q) : tB (T X.K X.wg (relX X.K X.wg) W q m) σ H Q := by
  obtain ⟨G, F, ρ, ok, z⟩ := h
  unfold valT at z
  refine T.bind ok z fun x ρ1 F1 H1 v fp0 e1 s1 s2 k1 rx z => ?_
  cases e : x.isB with
  | none => rw [e] at z; exact z.elim
  | some c =>
    rw [e] at z
    obtain ⟨_, hv, hf⟩ := SV.isB_rel rx e
    subst hf
    exact ⟨c, hv, z F1 H1 c [] s1 s2 k1 ⟨rfl, rfl⟩⟩
theorem pb_val (h : PX X W e q m) (he : ∀ whole, isTrue e X.env whole = (do let v ← whole; standAt e.pos; holding [v] (truthy v)) := by intro _; rfl) : PB X W e q (valT m) := PT.imp (pt_val h he) fun σ H Q z => tB_of z
theorem pwb_pt (h : PWB X W e q ta) : PB X W e q ta := h.pt
theorem pwb_and1 (ha : PB X W a q ta) : PWB X W (.BoolOp .And [a] pos) q ta := pw_and1 ha
theorem pwb_or1 (ha : PB X W a q ta) : PWB X W (.BoolOp .Or [a] pos) q ta := pw_or1 ha
theorem pwb_and {rest : List Expr} (ha : PB X W a q ta) (hb : PWB X W (.BoolOp .And (b :: rest) pos) q tb) : PWB X W (.BoolOp .And (a :: b :: rest) pos) q (andT ta tb) :=
  PW.imp (pw_and ha hb) fun σ H Q ⟨G, F, ρ, ok, z⟩ => by
    unfold andT at z
    refine T.bind ok z fun c ρ1 F1 H1 v fp0 e1 s1 s2 k1 rx z => ?_
    obtain ⟨rfl, rfl⟩ := rx
    by_cases c : v = true
    · rw [if_pos c] at z ⊢
      exact ⟨G, F1, ρ1, k1, Post.adv s1 s2 z⟩
    · rw [if_neg c] at z ⊢
      exact z F1 H1 false [] s1 s2 k1 ⟨rfl, rfl⟩
theorem pwb_or {rest : List Expr} (ha : PB X W a q ta) (hb : PWB X W (.BoolOp .Or (b :: rest) pos) q tb) : PWB X W (.BoolOp .Or (a :: b :: rest) pos) q (orT ta tb) :=
  PW.imp (pw_or ha hb) fun σ H Q ⟨G, F, ρ, ok, z⟩ => by
    unfold orT at z
    refine T.bind ok z fun c ρ1 F1 H1 v fp0 e1 s1 s2 k1 rx z => ?_
    obtain ⟨rfl, rfl⟩ := rx
    by_cases c : v = true
    · rw [if_pos c] at z ⊢
      exact z F1 H1 true [] s1 s2 k1 ⟨rfl, rfl⟩
    · rw [if_neg c] at z ⊢
      exact ⟨G, F1, ρ1, k1, Post.adv s1 s2 z⟩
theorem pb_not (ha : PB X W a q ta) : PB X W (.UnaryOp .Not a pos) q (notT ta) :=
  PT.imp (pt_not ha) fun σ H Q ⟨G, F, ρ, ok, z⟩ => by
    unfold notT at z
    refine T.bind ok z fun c ρ1 F1 H1 v fp0 e1 s1 s2 k1 rx z => ?_
    obtain ⟨rfl, rfl⟩ := rx
    exact z F1 H1 _ [] s1 s2 k1 ⟨rfl, rfl⟩
theorem px_one {op} (h : PX X W a q ma) : PX X W (.BoolOp op [a] pos) q ma := pe_one h
theorem px_and {rest : List Expr} (ha : PX X W a q ma) (hb : PX X W (.BoolOp .And (b :: rest) pos) q mb) : PX X W (.BoolOp .And (a :: b :: rest) pos) q (andV ma mb) :=
  PE.imp (pe_and ha hb) fun σ H Q ⟨G, F, ρ, ok, z⟩ => by
    unfold andV at z
    refine T.bind ok z fun x ρ1 F1 H1 v fp0 e1 s1 s2 k1 rx z => ?_
    cases e : x.isB with
    | none => rw [e] at z; exact z.elim
    | some c =>
      rw [e] at z
      obtain ⟨_, hv, hf⟩ := SV.isB_rel rx e
      subst hf
      refine ⟨c, hv, ?_⟩
      cases c with
      | true => rw [if_pos rfl]; exact ⟨G, F1, ρ1, k1, Post.adv s1 s2 z⟩
      | false => rw [if_neg Bool.false_ne_true]; exact z F1 H1 (.bl false) [] s1 s2 k1 (.sh (.bl false))
theorem px_or {rest : List Expr} (ha : PX X W a q ma) (hb : PX X W (.BoolOp .Or (b :: rest) pos) q mb) : PX X W (.BoolOp .Or (a :: b :: rest) pos) q (orV ma mb) :=
  PE.imp (pe_or ha hb) fun σ H Q ⟨G, F, ρ, ok, z⟩ => by
    unfold orV at z
    refine T.bind ok z fun x ρ1 F1 H1 v fp0 e1 s1 s2 k1 rx z => ?_
    cases e : x.isB with
    | none => rw [e] at z; exact z.elim
    | some c =>
      rw [e] at z
      obtain ⟨_, hv, hf⟩ := SV.isB_rel rx e
      subst hf
      refine ⟨c, hv, ?_⟩
      cases c with
      | true => rw [if_pos rfl]; exact z F1 H1 (.bl true) [] s1 s2 k1 (.sh (.bl true))
      | false => rw [if_neg Bool.false_ne_true]; exact ⟨G, F1, ρ1, k1, Post.adv s1 s2 z⟩
theorem px_not (ha : PX X W a q ma) : PX X W (.UnaryOp .Not a pos) q (notV ma) :=
  PE.imp (pe_not ha) fun σ H Q ⟨G, F, ρ, ok, z⟩ => by
    unfold notV at z
    refine T.bind ok z fun x ρ1 F1 H1 v fp0 e1 s1 s2 k1 rx z => ?_
    cases e : x.isB with
    | none => rw [e] at z; exact z.elim
    | some c =>
      rw [e] at z
      obtain ⟨_, hv, hf⟩ := SV.isB_rel rx e
      subst hf
      exact ⟨c, hv, z F1 H1 (.bl (!c)) [] s1 s2 k1 (.sh (.bl _))⟩
theorem px_if {c : Expr} (hc : PB X W c q ta) (ha : PX X W a q ma) (hb : PX X W b q mb) : PX X W (.IfExp c a b pos) q (ifV ta ma mb) :=
  PE.imp (pe_ifExp hc ha hb) fun σ H Q ⟨G, F, ρ, ok, z⟩ => by
    unfold ifV at z
    refine T.bind ok z fun c ρ1 F1 H1 v fp0 e1 s1 s2 k1 rx z => ?_
    obtain ⟨rfl, rfl⟩ := rx
    by_cases c : v = true
    · rw [if_pos c] at z ⊢
      exact ⟨G, F1, ρ1, k1, Post.adv s1 s2 z⟩
    · rw [if_neg c] at z ⊢
      exact ⟨G, F1, ρ1, k1, Post.adv s1 s2 z⟩
/-! comparisons -/
theorem px_cmp {op : CmpOp} {g : SV → SV → Option SV} (hg : OpG X (OpR X (compareOp op)) g) (ha : PX X W a q ma) (hb : PX X W b true mb) (hm : behindInMarks op b = false := by first | exact nobehind _ (by decide) (by decide) | rfl) : PX X W (.Compare a [op] [b] pos) q (op2 g ma mb) :=
  PE.imp (pe_cmpR OpR.any ha hb hm) fun σ H Q h => tOp_of (r := anyR _) hg h
theorem px_cmpc {op : CmpOp} {g : SV → SV → Option SV} (hg : OpG X (OpR X (compareOp op)) g) (ha : PX X W a q ma) (hb : PX X W b q2 mb) (hm : behindInMarks op b = false := by first | exact nobehind _ (by decide) (by decide) | rfl) : PX X W (.Compare a [op] [b] pos) false (op2c g ma mb) :=
  PE.imp (pe_cmpR OpR.any ha hb hm) fun σ H Q h => tOpc_of (r := anyR _) hg h
theorem pb_cmp {op : CmpOp} {g : SV → SV → Option SV} (hg : OpG X (OpR X (compareOp op)) g) (ha : PX X W a q ma) (hb : PX X W b true mb) (hm : behindInMarks op b = false := by first | exact nobehind _ (by decide) (by decide) | rfl) : PB X W (.Compare a [op] [b] pos) q (valT (op2 g ma mb)) :=
  PT.imp (pt_cmpR OpR.any ha hb hm) fun σ H Q h => by
    obtain h := tB_of (m := op2 g ma mb) h
    exact tOp_of (r := anyR _) hg h
theorem pb_cmpc {op : CmpOp} {g : SV → SV → Option SV} (hg : OpG X (OpR X (compareOp op)) g) (ha : PX X W a q ma) (hb : PX X W b q2 mb) (hm : behindInMarks op b = false := by first | exact nobehind _ (by decide) (by decide) | rfl) : PB X W (.Compare a [op] [b] pos) false (valT (op2c g ma mb)) :=
  PT.imp (pt_cmpR OpR.any ha hb hm) fun σ H Q h => by
    obtain h := tB_of (m := op2c g ma mb) h
    exact tOpc_of (r := anyR _) hg h
end
end R

/-! R3: the steps by values. -/
namespace R
open PySem PySem.Spec PyProof.Rows L2

section
variable {X : Cx} {K : PySem.W.Frag} {mg : MG} {Pr F H : Hp} {v w : V} {x y : SV} {fp fq : List Addr}
/-- the frozen parts of a value's reading -/
theorem XvR.int {i : Int} (h : XvR K mg Pr F H v x fp) (e : x.data = .int i) : v = .int i := by
  have key : ∀ {o : O} {fq : List Addr} {H : Hp}, Ow K mg F H v o fq → o.data = .int i → v = .int i := fun {o fq H} h e => by cases h <;> cases e
  cases h with
  | sh h => cases (show _ = D.int i from e); cases h; rfl
  | own h n => exact key h e
  | bo h => exact key h e
  | tr h => exact key h e
theorem XvR.str {i : Str} (h : XvR K mg Pr F H v x fp) (e : x.data = .str i) : v = .str i := by
  have key : ∀ {o : O} {fq : List Addr} {H : Hp}, Ow K mg F H v o fq → o.data = .str i → v = .str i := fun {o fq H} h e => by cases h <;> cases e
  cases h with
  | sh h => cases (show _ = D.str i from e); cases h; rfl
  | own h n => exact key h e
  | bo h => exact key h e
  | tr h => exact key h e
theorem XvR.bl {i : Bool} (h : XvR K mg Pr F H v x fp) (e : x.data = .bl i) : v = .bl i := by
  have key : ∀ {o : O} {fq : List Addr} {H : Hp}, Ow K mg F H v o fq → o.data = .bl i → v = .bl i := fun {o fq H} h e => by cases h <;> cases e
  cases h with
  | sh h => cases (show _ = D.bl i from e); cases h; rfl
  | own h n => exact key h e
  | bo h => exact key h e
  | tr h => exact key h e
theorem XvR.sh_of {d : D} (h : XvR K mg Pr F H v x fp) (e : x = .sh d) : Rp K mg F v d := by subst e; cases h; assumption
theorem rep_ref {a : Addr} {d : D} (h : Rp K mg F (.ref a) d) : d ≠ .non ∧ (∀ i, d ≠ .int i) := by
  cases h <;> exact ⟨fun z => (by cases z), fun i z => (by cases z)⟩
/-- a scalar's value -/
def D.sc : D → Option V
  | .non => some .non | .bl b => some (.bl b) | .int i => some (.int i) | .str x => some (.str x) | _ => none
theorem Rp.scv {d : D} {u : V} (h : Rp K mg F v d) (e : d.sc = some u) : v = u := by
  cases h <;> first | (cases e; rfl) | cases e
theorem sc_rp {d : D} {u : V} (F : Hp) (e : d.sc = some u) : Rp K mg F u d := by
  cases d <;> first | (cases e; constructor) | cases e
def D.scs : List D → Option (List V)
  | [] => some []
  | d :: ds => match d.sc, D.scs ds with | some v, some vs => some (v :: vs) | _, _ => none
theorem Rps.scv {vs : List V} : ∀ {ds : List D} {us : List V}, Rps K mg F vs ds → D.scs ds = some us → vs = us := by
  induction vs with
  | nil => intro ds us h e; cases h; cases e; rfl
  | cons v vs ih =>
    intro ds us h e
    cases h with
    | @cons _ _ d ds h r =>
      unfold D.scs at e
      cases e1 : d.sc with
      | none => rw [e1] at e; cases e
      | some u =>
        cases e2 : D.scs ds with
        | none => rw [e1, e2] at e; cases e
        | some us' =>
          rw [e1, e2] at e
          cases e
          rw [h.scv e1, ih r e2]
theorem sc_flat {d : D} {u : V} (e : d.sc = some u) : flatV u = true := by cases d <;> first | (cases e; rfl) | cases e
theorem scs_flat : ∀ {ds : List D} {us : List V}, D.scs ds = some us → us.all flatV = true := by
  intro ds
  induction ds with
  | nil => intro us e; cases e; rfl
  | cons d ds ih =>
    intro us e
    unfold D.scs at e
    cases e1 : d.sc with
    | none => rw [e1] at e; cases e
    | some u =>
      cases e2 : D.scs ds with
      | none => rw [e1, e2] at e; cases e
      | some us' =>
        rw [e1, e2] at e
        cases e
        rw [List.all_cons, sc_flat e1, ih e2]; rfl
mutual
/-- as the library's data -/
def D.py : D → Option PyData
  | .non => some .none | .bl b => some (.bool b) | .int i => some (.int i) | .str x => some (.str x)
  | .tup ds => match D.pys ds with | some es => some (.tuple es) | none => none
  | .kt ds => match D.pys ds with | some es => some (.tuple es) | none => none
  | .lst ds => match D.pys ds with | some es => some (.list es) | none => none
  | .scr ns => some (.list (ns.map PyData.int))
  | .dic _ _ => none | .ins _ _ => none | .ty _ => none | .exn _ _ => none | .cls _ => none
def D.pys : List D → Option (List PyData)
  | [] => some []
  | d :: ds => match D.py d, D.pys ds with | some e, some es => some (e :: es) | _, _ => none
end
theorem dp_ints : ∀ ns : List Int, DpAll K H (ns.map V.int) (ns.map PyData.int)
  | [] => .nil
  | n :: ns => .cons (.int n) (dp_ints ns)
mutual
theorem Rp.dp : ∀ {v : V} {d : D} {e : PyData}, Rp K mg H v d → D.py d = some e → Dp K H v e
  | _, _, _, .non, q => by unfold D.py at q; cases q; exact .non
  | _, _, _, .bl b, q => by unfold D.py at q; cases q; exact .bl b
  | _, _, _, .int i, q => by unfold D.py at q; cases q; exact .int i
  | _, _, _, .str x, q => by unfold D.py at q; cases q; exact .str x
  | _, _, _, .ty x, q => by unfold D.py at q; cases q
  | _, _, _, .cls h, q => by unfold D.py at q; cases q
  | _, .tup ds, _, .tup h r, q => by
    unfold D.py at q
    cases e : D.pys ds with
    | none => rw [e] at q; cases q
    | some es => rw [e] at q; cases q; exact .tup (.inl (.inl h)) (Rps.dp r e)
  | _, .kt ds, _, .kt h r, q => by
    unfold D.py at q
    cases e : D.pys ds with
    | none => rw [e] at q; cases q
    | some es => rw [e] at q; cases q; exact .tup h (Rps.dp r e)
  | _, .lst ds, _, .lst h r, q => by
    unfold D.py at q
    cases e : D.pys ds with
    | none => rw [e] at q; cases q
    | some es => rw [e] at q; cases q; exact .lst (.inl (.inl h)) (Rps.dp r e)
  | _, _, _, .scr h, q => by unfold D.py at q; cases q; exact .lst h (dp_ints _)
  | _, _, _, .dK h r, q => by unfold D.py at q; cases q
  | _, _, _, .dT h r, q => by unfold D.py at q; cases q
  | _, _, _, .dX h r, q => by unfold D.py at q; cases q
  | _, _, _, .exn0 c h z f, q => by unfold D.py at q; cases q
  | _, _, _, .exn1 c h z f x r, q => by unfold D.py at q; cases q
  | _, _, _, .ins c h r, q => by unfold D.py at q; cases q
theorem Rps.dp : ∀ {vs : List V} {ds : List D} {es : List PyData}, Rps K mg H vs ds → D.pys ds = some es → DpAll K H vs es
  | _, _, _, .nil, q => by unfold D.pys at q; cases q; exact .nil
  | _, d :: ds, _, .cons h r, q => by
    unfold D.pys at q
    cases e1 : D.py d with
    | none => rw [e1] at q; cases q
    | some e =>
      cases e2 : D.pys ds with
      | none => rw [e1, e2] at q; cases q
      | some es => rw [e1, e2] at q; cases q; exact .cons (Rp.dp h e1) (Rps.dp r e2)
end
end

/-- a scalar comes -/
theorem give {X : Cx} {Pr F H : Hp} {z : SV} {d : D} {u : V} {Q : VK} (hz : z = .sh d) (e : d.sc = some u) (s : Same F H) (k : ∀ F' H' u fz, Grow F H F' H' → XvR X.K X.wg Pr F' H' u z fz → (∀ p ∈ fz, F' p = none ∧ H p = none) → Q u H') : Q u H := by
  subst hz
  exact k F H u [] (Grow.refl s) (.sh (sc_rp F e)) (by intro p hp; cases hp)

/-! ### + - * // % ** -/
def gAdd (x y : SV) : Option SV := match x.data, y.data with
  | .int i, .int j => some (.sh (.int (i + j)))
  | .str a, .str b => if a.length + b.length ≤ sizeLine then some (.sh (.str (a ++ b))) else none
  | .tup a, .tup b => if a.length + b.length ≤ sizeLine then some (.sh (.tup (a ++ b))) else none
  | .lst a, .lst b => if a.length + b.length ≤ sizeLine then some (.own (.lst (a ++ b))) else none
  | _, _ => none
def gInt (C : Int → Int → Bool) (g : Int → Int → Int) (x y : SV) : Option SV := match x.data, y.data with
  | .int i, .int j => if C i j = true then some (.sh (.int (g i j))) else none
  | _, _ => none
def gSub := gInt (fun _ _ => true) (fun i j => i - j)
def cMul (i j : Int) : Bool := decide (i.natAbs.log2 + j.natAbs.log2 < 1000000)
def cDiv (_ j : Int) : Bool := decide (0 < j ∧ j.natAbs.log2 < 9000)
def cMod (_ j : Int) : Bool := decide (0 < j)
def cPow (i j : Int) : Bool := decide (0 ≤ j ∧ j ≤ 1000000 ∧ i.natAbs < 2 ^ 64)
def cShr (_ j : Int) : Bool := decide (0 ≤ j)
def gFdiv := gInt cDiv (fun i j => i / j)
def gMod := gInt cMod (fun i j => i % j)
def gPow := gInt cPow (fun i j => i ^ j.toNat)
def gShr := gInt cShr (fun i j => i / 2 ^ j.toNat)
def strMul (a : Str) (n : Nat) : Str := ⟨((List.replicate n a.cps.toList).flatten).toArray⟩
def gMul (x y : SV) : Option SV := match x.data, y.data with
  | .int i, .int j => if cMul i j = true then some (.sh (.int (i * j))) else none
  | .str a, .int j => if a.length ≤ 100 ∧ j ≤ 1000 ∧ -1000 ≤ j then some (.sh (.str (strMul a j.toNat))) else none
  | .tup a, .int j => if a.length ≤ 100 ∧ j ≤ 1000 ∧ 2 ≤ j ∧ a.length ≠ 0 then some (.sh (.tup (List.replicate j.toNat a).flatten)) else none
  | .lst a, .int j => if a.length ≤ 100 ∧ j ≤ 1000 ∧ -1000 ≤ j then some (.own (.lst (List.replicate j.toNat a).flatten)) else none
  | _, _ => none
section
variable {X : Cx}
theorem Rps.append {K : PySem.W.Frag} {mg : MG} {F : Hp} {vs ws : List V} {ds es : List D} (h : Rps K mg F vs ds) (k : Rps K mg F ws es) : Rps K mg F (vs ++ ws) (ds ++ es) := by
  have : ∀ (vs : List V) (ds : List D), Rps K mg F vs ds → Rps K mg F (vs ++ ws) (ds ++ es) := by
    intro vs
    induction vs with
    | nil => intro ds h; cases h; exact k
    | cons v vs ih => intro ds h; cases h with | cons h r => exact .cons h (ih _ r)
  exact this vs ds h
/-- a new frozen tuple, a new own list -/
theorem give_tup {Pr F H : Hp} {z : SV} {vs : List V} {ds : List D} {Q : VK} (hz : z = .sh (.tup ds)) (rs : Rps X.K X.wg F vs ds) (s : Same F H) (k : ∀ F' H' u fz, Grow F H F' H' → XvR X.K X.wg Pr F' H' u z fz → (∀ p ∈ fz, F' p = none ∧ H p = none) → Q u H') :
    ∀ p, H p = none → Q (.ref p) (upd H p (.tup vs)) := fun p n => by
  subst hz
  have g := grow_frozen (o := .tup vs) s n
  exact k _ _ _ [] g (.sh (.tup upd_same (rs.mono g.sub))) (by intro p hp; cases hp)
theorem give_lst {Pr F H : Hp} {z : SV} {vs : List V} {ds : List D} {Q : VK} (hz : z = .own (.lst ds)) (rs : Rps X.K X.wg F vs ds) (s : Same F H) (k : ∀ F' H' u fz, Grow F H F' H' → XvR X.K X.wg Pr F' H' u z fz → (∀ p ∈ fz, F' p = none ∧ H p = none) → Q u H') :
    ∀ p, H p = none → Q (.ref p) (upd H p (.lst vs)) := fun p n => by
  subst hz
  have g := grow_own (o := .lst vs) s n
  exact k _ _ _ [p] g (.own (.lst upd_same rs) (by simp)) (by intro q hq; rw [List.mem_singleton] at hq; subst hq; exact ⟨Same.free s n, n⟩)
theorem og_add : OpG X (OpR X (binaryOp .Add)) gAdd := by
  intro Pr F H x y v w fx fy z Q s p rx ry e k
  unfold gAdd at e
  split at e
  · rename_i i j ex ey
    cases e
    exact ⟨_, op_add, i, j, rx.int ex, ry.int ey, give rfl rfl s k⟩
  · rename_i a b ex ey
    split at e
    · rename_i c
      cases e
      exact ⟨_, op_add_str, a, b, rx.str ex, ry.str ey, c, give rfl rfl s k⟩
    · cases e
  · rename_i a b ex ey
    split at e
    · rename_i c
      cases e
      obtain ⟨ra, p1, vs, rfl, h1, r1⟩ := rx.tup ex
      obtain ⟨rb, p2, ws, rfl, h2, r2⟩ := ry.tup ey
      refine ⟨_, op_catA, p1, p2, vs, ws, rfl, rfl, .inl (.inl (s _ _ h1)), .inl (.inl (s _ _ h2)), by rw [Rps.length r1, Rps.length r2]; exact c, fun z => ?_, fun z1 z2 => ?_, fun z1 z2 => ?_⟩
      · subst z
        cases r1
        exact k F H _ [] (Grow.refl s) (.sh rb) (by intro p hp; cases hp)
      · subst z2
        cases r2
        rw [List.append_nil] at k
        exact k F H _ [] (Grow.refl s) (.sh ra) (by intro p hp; cases hp)
      · exact give_tup rfl (r1.append r2) s k
    · cases e
  · rename_i a b ex ey
    split at e
    · rename_i c
      cases e
      obtain ⟨p1, vs, rfl, h1, r1⟩ := rx.list p s ex
      obtain ⟨p2, ws, rfl, h2, r2⟩ := ry.list p s ey
      exact ⟨_, op_cat, p1, p2, vs, ws, rfl, rfl, h1, h2, by rw [Rps.length r1, Rps.length r2]; exact c, give_lst rfl (r1.append r2) s k⟩
    · cases e
  · cases e
theorem og_int {op : Operator} {C : Int → Int → Bool} {C' : Int → Int → Prop} {g : Int → Int → Int} (h : OpR X (binaryOp op) (rI C' fun i j => .int (g i j))) (hc : ∀ i j, C i j = true → C' i j) : OpG X (OpR X (binaryOp op)) (gInt C g) := by
  intro Pr F H x y v w fx fy z Q s p rx ry e k
  unfold gInt at e
  split at e
  · rename_i i j ex ey
    split at e
    · rename_i c
      cases e
      exact ⟨_, h, i, j, rx.int ex, ry.int ey, hc i j c, give rfl rfl s k⟩
    · cases e
  · cases e
theorem og_sub : OpG X (OpR X (binaryOp .Sub)) gSub := by
  intro Pr F H x y v w fx fy z Q s p rx ry e k
  unfold gSub gInt at e
  split at e
  · rename_i i j ex ey
    rw [if_pos rfl] at e
    cases e
    exact ⟨_, op_sub, i, j, rx.int ex, ry.int ey, give rfl rfl s k⟩
  · cases e
theorem og_fdiv : OpG X (OpR X (binaryOp .FloorDiv)) gFdiv := og_int op_fdivW fun i j h => by unfold cDiv at h; show 0 < j ∧ j.natAbs.log2 < 9000; exact of_decide_eq_true h
theorem og_mod : OpG X (OpR X (binaryOp .Mod)) gMod := og_int op_mod fun i j h => by unfold cMod at h; exact of_decide_eq_true h
theorem og_pow : OpG X (OpR X (binaryOp .Pow)) gPow := og_int op_pow fun i j h => by unfold cPow at h; show 0 ≤ j ∧ j ≤ 1000000 ∧ i.natAbs < 2 ^ 64; exact of_decide_eq_true h
theorem og_shr : OpG X (OpR X (binaryOp .RShift)) gShr := og_int op_shr fun i j h => by unfold cShr at h; exact of_decide_eq_true h
def gNeg (x : SV) : Option SV := match x.data with
  | .int i => some (.sh (.int (-i))) | _ => none
theorem ug_neg : UnG X (UnR X (unaryOp .USub)) gNeg := by
  intro Pr F H x v fx z Q s p rx e k
  unfold gNeg at e
  split at e
  · rename_i i ex
    cases e
    exact ⟨_, un_neg, i, rx.int ex, give rfl rfl s k⟩
  · cases e
end

/-! ### comparisons -/
def eqD (d e : D) : Option Bool := match d.sc, e.sc with
  | some v, some w => if scal v w = true then some (decide (v = w)) else none
  | _, _ => match d.py, e.py with
    | some a, some b => if SeqAt.shaped a = true ∧ SeqAt.shaped b = true then some (PyData.eqv a b) else none
    | _, _ => none
def gEq (x y : SV) : Option SV := (eqD x.data y.data).map fun b => .sh (.bl b)
def gNe (x y : SV) : Option SV := (eqD x.data y.data).map fun b => .sh (.bl (!b))
def gCmp (c : Int → Int → Bool) (x y : SV) : Option SV := match x.data, y.data with
  | .int i, .int j => some (.sh (.bl (c i j)))
  | _, _ => none
def gLt := gCmp fun i j => decide (i < j)
def gLe := gCmp fun i j => decide (i ≤ j)
def gGt := gCmp fun i j => decide (j < i)
def gGe := gCmp fun i j => decide (j ≤ i)
def D.isNon : D → Bool
  | .non => true | _ => false
def gIsN (x y : SV) : Option SV := match y.data with
  | .non => some (.sh (.bl x.data.isNon)) | _ => none
def gNotN (x y : SV) : Option SV := match y.data with
  | .non => some (.sh (.bl (!x.data.isNon))) | _ => none
section
variable {X : Cx}
theorem og_eqne {op : CmpOp} {f : Bool → Bool} {g : SV → SV → Option SV} (hg : ∀ x y, g x y = (eqD x.data y.data).map fun b => .sh (.bl (f b))) (h1 : OpR X (compareOp op) fun x y H Q => scal x y = true ∧ Q (.bl (f (decide (x = y)))) H)
    (h2 : OpR X (compareOp op) fun x y H Q => ∃ d e, Dp X.K H x d ∧ Dp X.K H y e ∧ SeqAt.shaped d = true ∧ SeqAt.shaped e = true ∧ Q (.bl (f (PyData.eqv d e))) H) : OpG X (OpR X (compareOp op)) g := by
  intro Pr F H x y v w fx fy z Q s p rx ry e k
  rw [hg] at e
  unfold eqD at e
  have rx' := rx.rp s p
  have ry' := ry.rp s p
  have deep : ∀ a b, x.data.py = some a → y.data.py = some b → SeqAt.shaped a = true ∧ SeqAt.shaped b = true → z = .sh (.bl (f (PyData.eqv a b))) → ∃ r, OpR X (compareOp op) r ∧ r v w H Q := fun a b ea eb hs ez =>
    ⟨_, h2, a, b, rx'.dp ea, ry'.dp eb, hs.1, hs.2, give ez rfl s k⟩
  have deep2 : (match x.data.py, y.data.py with
    | some a, some b => if SeqAt.shaped a = true ∧ SeqAt.shaped b = true then some (PyData.eqv a b) else none
    | _, _ => none).map (fun b => SV.sh (.bl (f b))) = some z → ∃ r, OpR X (compareOp op) r ∧ r v w H Q := fun e => by
    cases ea : x.data.py with
    | none => rw [ea] at e; cases e
    | some a =>
      cases eb : y.data.py with
      | none => rw [ea, eb] at e; cases e
      | some b =>
        rw [ea, eb] at e
        by_cases c : SeqAt.shaped a = true ∧ SeqAt.shaped b = true
        · have e' : (if SeqAt.shaped a = true ∧ SeqAt.shaped b = true then some (PyData.eqv a b) else none).map (fun b => SV.sh (.bl (f b))) = some z := e
          rw [if_pos c] at e'
          cases e'
          exact deep a b ea eb c rfl
        · have e' : (if SeqAt.shaped a = true ∧ SeqAt.shaped b = true then some (PyData.eqv a b) else none).map (fun b => SV.sh (.bl (f b))) = some z := e
          rw [if_neg c] at e'
          cases e'
  cases e1 : x.data.sc with
  | none => rw [e1] at e; exact deep2 e
  | some a =>
    cases e2 : y.data.sc with
    | none => rw [e1, e2] at e; exact deep2 e
    | some b =>
      rw [e1, e2] at e
      have e' : (if scal a b = true then some (decide (a = b)) else none).map (fun b => SV.sh (.bl (f b))) = some z := e
      by_cases c : scal a b = true
      · rw [if_pos c] at e'
        cases e'
        cases rx'.scv e1
        cases ry'.scv e2
        exact ⟨_, h1, c, give rfl rfl s k⟩
      · rw [if_neg c] at e'
        cases e'
theorem og_eq (hu : X.A.units + 64 < cLine) : OpG X (OpR X (compareOp .Eq)) gEq := og_eqne (f := fun b => b) (fun _ _ => rfl) op_eq (op_eqD hu)
theorem og_ne (hu : X.A.units + 64 < cLine) : OpG X (OpR X (compareOp .NotEq)) gNe := og_eqne (f := fun b => !b) (fun _ _ => rfl) op_ne (op_neD hu)
theorem og_cmp {op : CmpOp} {c : Int → Int → Bool} (h : OpR X (compareOp op) (rI0 fun i j => .bl (c i j))) : OpG X (OpR X (compareOp op)) (gCmp c) := by
  intro Pr F H x y v w fx fy z Q s p rx ry e k
  unfold gCmp at e
  split at e
  · rename_i i j ex ey
    cases e
    exact ⟨_, h, i, j, rx.int ex, ry.int ey, give rfl rfl s k⟩
  · cases e
theorem og_lt : OpG X (OpR X (compareOp .Lt)) gLt := og_cmp op_lt
theorem og_le : OpG X (OpR X (compareOp .LtE)) gLe := og_cmp op_le
theorem og_gt : OpG X (OpR X (compareOp .Gt)) gGt := og_cmp op_gt
theorem og_ge : OpG X (OpR X (compareOp .GtE)) gGe := og_cmp op_ge
theorem Rp.non_iff {K : PySem.W.Frag} {mg : MG} {F : Hp} {v : V} {d : D} (h : Rp K mg F v d) : decide (v = .non) = d.isNon := by
  cases h <;> rfl
theorem og_isN : OpG X (OpR X (compareOp .Is)) gIsN := by
  intro Pr F H x y v w fx fy z Q s p rx ry e k
  unfold gIsN at e
  split at e
  · rename_i ey
    cases e
    refine ⟨_, op_isN, (ry.rp s p).scv (by rw [ey]; rfl), ?_⟩
    rw [(rx.rp s p).non_iff]
    exact give rfl rfl s k
  · cases e
theorem og_notN : OpG X (OpR X (compareOp .IsNot)) gNotN := by
  intro Pr F H x y v w fx fy z Q s p rx ry e k
  unfold gNotN at e
  split at e
  · rename_i ey
    cases e
    refine ⟨_, op_notN, (ry.rp s p).scv (by rw [ey]; rfl), ?_⟩
    rw [(rx.rp s p).non_iff]
    exact give rfl rfl s k
  · cases e
end
end R

/-! R3x: dicts whose keys are nested tuples. -/
namespace R
open PySem PySem.Spec PyProof.Rows L2

/-- the value v is the nested key k, in each heap that is held -/
def KeyN (H : Hp) (v : V) (k : NestedKey) : Prop := ∀ (P : Program) (w : World) (h : Heap) (u : Value), HOk P w H h → RelV v u → NestedIs h k u
def KeysN (H : Hp) (vs : List V) (ks : List NestedKey) : Prop := ∀ (P : Program) (w : World) (h : Heap) (us : List Value), HOk P w H h → Vals vs us → NestedAll h ks us
section
variable {K : PySem.W.Frag} {mg : MG} {F H : Hp}
mutual
theorem Rp.nk : ∀ {v : V} {d : D} {k : NestedKey}, Rp K mg H v d → D.nk d = some k → KeyN H v k
  | _, _, _, .non, e => by unfold D.nk at e; cases e; intro P w h u ok r; cases (show u = Value.none from r); exact .none
  | _, _, _, .bl b, e => by unfold D.nk at e; cases e; intro P w h u ok r; cases (show u = Value.bool b from r); exact .bool rfl
  | _, _, _, .int i, e => by unfold D.nk at e; cases e; intro P w h u ok r; obtain ⟨t, rfl⟩ := r; exact .int i t
  | _, _, _, .str x, e => by unfold D.nk at e; cases e; intro P w h u ok r; obtain ⟨t, rfl⟩ := r; exact .text x t
  | _, _, _, .tup (ds := ds) hh r, e => by
    unfold D.nk at e
    cases e1 : D.nks ds with
    | none => rw [e1] at e; cases e
    | some ks =>
      rw [e1] at e
      cases e
      have q := Rps.nks r e1
      intro P w h u ok rv
      cases (show u = Value.ref _ from rv)
      obtain ⟨_, its, rr, o, ho, hc, n, hd⟩ := (show ObjOk P w H h _ (.tup _) from ok _ _ hh)
      exact .tup ho hc hd (by simpa using q P w h its ok rr)
  | _, _, _, .kt _ _, e => by unfold D.nk at e; cases e
  | _, _, _, .lst _ _, e => by unfold D.nk at e; cases e
  | _, _, _, .scr _, e => by unfold D.nk at e; cases e
  | _, _, _, .dK _ _, e => by unfold D.nk at e; cases e
  | _, _, _, .dT _ _, e => by unfold D.nk at e; cases e
  | _, _, _, .dX _ _, e => by unfold D.nk at e; cases e
  | _, _, _, .exn0 _ _ _ _, e => by unfold D.nk at e; cases e
  | _, _, _, .exn1 _ _ _ _ _ _, e => by unfold D.nk at e; cases e
  | _, _, _, .ins _ _ _, e => by unfold D.nk at e; cases e
  | _, _, _, .pk _ _, e => by unfold D.nk at e; cases e
  | _, _, _, .ty _, e => by unfold D.nk at e; cases e
  | _, _, _, .cls _, e => by unfold D.nk at e; cases e
theorem Rps.nks : ∀ {vs : List V} {ds : List D} {ks : List NestedKey}, Rps K mg H vs ds → D.nks ds = some ks → KeysN H vs ks
  | _, _, _, .nil, e => by
    unfold D.nks at e
    cases e
    intro P w h us ok r
    cases r
    exact .nil
  | _, d :: ds, _, .cons hd r, e => by
    unfold D.nks at e
    cases e1 : D.nk d with
    | none => rw [e1] at e; cases e
    | some k =>
      cases e2 : D.nks ds with
      | none => rw [e1, e2] at e; cases e
      | some ks =>
        rw [e1, e2] at e
        cases e
        have q1 := Rp.nk hd e1
        have q2 := Rps.nks r e2
        intro P w h us ok rr
        cases rr with
        | cons a t => exact .cons (q1 P w h _ ok a) (q2 P w h _ ok t)
end
end

abbrev NE := NestedKey × Addr × V
def valX (xs : List NE) (k : NestedKey) : Option V := (xs.find? fun x => decide (x.1 = k)).map (·.2.2)
def putX (xs : List NE) (k : NestedKey) (b : Addr) (v : V) : List NE :=
  if (xs.any fun x => decide (x.1 = k)) = true then xs.map (fun x => if x.1 = k then (x.1, x.2.1, v) else x) else xs ++ [(k, b, v)]
abbrev RX : List NE → List (NestedKey × Addr × Value) → Prop := Paired fun (p : NE) (q : NestedKey × Addr × Value) => p.1 = q.1 ∧ p.2.1 = q.2.1 ∧ RelV p.2.2 q.2.2
theorem RX.val {xs : List NE} {us : List (NestedKey × Addr × Value)} (r : RX xs us) (k : NestedKey) : RelO (valX xs k) ((atKey us k).map (·.2)) := by
  unfold RX at r
  induction r with
  | nil => exact True.intro
  | @cons p q ps qs h t ih =>
    by_cases c : p.1 = k
    · have c2 : q.1 = k := by rw [← h.1]; exact c
      have e1 : valX (p :: ps) k = some p.2.2 := by simp [valX, c]
      have e2 : (atKey (q :: qs) k).map (·.2) = some q.2.2 := by simp [atKey, c2]
      rw [e1, e2]; exact h.2.2
    · have c2 : ¬ q.1 = k := by rw [← h.1]; exact c
      have e1 : valX (p :: ps) k = valX ps k := by simp [valX, c]
      have e2 : (atKey (q :: qs) k).map (·.2) = (atKey qs k).map (·.2) := by simp [atKey, c2]
      rw [e1, e2]; exact ih
theorem RX.any {xs : List NE} {us : List (NestedKey × Addr × Value)} (r : RX xs us) (k : NestedKey) : (xs.any fun x => decide (x.1 = k)) = (atKey us k).isSome := by
  unfold RX at r
  induction r with
  | nil => rfl
  | @cons p q ps qs h t ih =>
    by_cases c : p.1 = k
    · have c2 : q.1 = k := by rw [← h.1]; exact c
      simp [atKey, c, c2]
    · have c2 : ¬ q.1 = k := by rw [← h.1]; exact c
      have e2 : atKey (q :: qs) k = atKey qs k := by simp [atKey, c2]
      rw [e2, ← ih]; simp [c]
theorem RX.repl {v : V} {u : Value} (rv : RelV v u) {xs : List NE} {us : List (NestedKey × Addr × Value)} (r : RX xs us) (k : NestedKey) : RX (xs.map fun x => if x.1 = k then (x.1, x.2.1, v) else x) (us.map (putAt k u)) := by
  unfold RX at r ⊢
  induction r with
  | nil => exact .nil
  | @cons p q ps qs h t ih =>
    rw [List.map_cons, List.map_cons]
    refine .cons ?_ ih
    unfold putAt
    by_cases c : p.1 = k
    · have c2 : q.1 = k := by rw [← h.1]; exact c
      rw [if_pos c, if_pos c2]; exact ⟨h.1, h.2.1, rv⟩
    · have c2 : ¬ q.1 = k := by rw [← h.1]; exact c
      rw [if_neg c, if_neg c2]; exact h
theorem RX.snoc {p : NE} {q : NestedKey × Addr × Value} (h : p.1 = q.1 ∧ p.2.1 = q.2.1 ∧ RelV p.2.2 q.2.2) {xs : List NE} {us : List (NestedKey × Addr × Value)} (r : RX xs us) : RX (xs ++ [p]) (us ++ [q]) := by
  unfold RX at r ⊢
  induction r with
  | nil => exact .cons h .nil
  | @cons a b ps qs h t ih => exact .cons h ih
theorem RX.put {v : V} {u : Value} (rv : RelV v u) {xs : List NE} {us : List (NestedKey × Addr × Value)} (r : RX xs us) (k : NestedKey) (b : Addr) : RX (putX xs k b v) (storedH us k b u) := by
  unfold putX storedH
  rw [r.any k]
  split
  · exact r.repl rv k
  · exact r.snoc ⟨rfl, rfl, rv⟩
theorem RX.keys {xs : List NE} {us : List (NestedKey × Addr × Value)} (r : RX xs us) : xs.map (·.1) = us.map (·.1) := by
  unfold RX at r
  induction r with
  | nil => rfl
  | @cons p q ps qs h t ih => rw [List.map_cons, List.map_cons, ih, h.1]
/-- the entries' keys stand -/
def KeysX (H : Hp) (xs : List NE) : Prop := ∀ x ∈ xs, KeyN H (.ref x.2.1) x.1
section
variable {P : Program} {w : World} {H : Hp} {h : Heap} {a b : Addr} {k : NestedKey}
theorem dx_of {xs : List NE} (ok : HOk P w H h) (e : H a = some (.ext (nX w a xs))) (ks : KeysX H xs) : xs.length ≤ sizeLine ∧ (a == sysModules) = false ∧ ∃ us, RX xs us ∧ h.DictOfH (nestedKind P w) a us := by
  obtain ⟨⟨z, y, nd, dp, us, r, o, es, ep, h1, h2, h3, h4⟩, _, _⟩ := (show ObjOk P w H h a (.ext (nX w a xs)) from ok a _ e)
  refine ⟨z, y, us, r, o, es, ep, h1, h2, h3, h4, fun x hx => ?_, by rw [← RX.keys r]; exact nd⟩
  have all : ∀ {l : List NE} {m : List (NestedKey × Addr × Value)}, RX l m → (∀ x ∈ l, KeyN H (.ref x.2.1) x.1) → (∀ x ∈ l, x.1.depth ≤ 8) → ∀ x ∈ m, (nestedKind P w).is h x.1 x.2.1 := by
    intro l m q
    unfold RX at q
    induction q with
    | nil => intro _ _ x hx; exact nomatch hx
    | @cons p q ps qs hq t ih =>
      intro hk hd x hx
      rcases List.mem_cons.mp hx with e | hx
      · subst e
        refine ⟨?_, by rw [← hq.1]; exact hd p List.mem_cons_self⟩
        rw [← hq.1, ← hq.2.1]
        exact hk p List.mem_cons_self P w h _ ok rfl
      · exact ih (fun x hx => hk x (List.mem_cons_of_mem _ hx)) (fun x hx => hd x (List.mem_cons_of_mem _ hx)) x hx
  exact all r ks dp x hx
theorem dx_new {xs : List NE} {us : List (NestedKey × Addr × Value)} {H' : Hp} (z : xs.length ≤ sizeLine) (y : (a == sysModules) = false) (dp : ∀ x ∈ xs, x.1.depth ≤ 8) (r : RX xs us) (dd : h.DictOfH (nestedKind P w) a us) : ObjOk P w H' h a (.ext (nX w a xs)) := by
  obtain ⟨o, es, ep, h1, h2, h3, h4, _, nd⟩ := dd
  refine ⟨⟨z, y, by rw [RX.keys r]; exact nd, dp, us, r, o, es, ep, h1, h2, h3, h4⟩, ⟨o, h1⟩, fun g1 g2 q k => ?_⟩
  obtain ⟨z, y, nd, dp, us, r, o, es, ep, h1, h2, h3, h4⟩ := q
  exact ⟨z, y, nd, dp, us, r, o, es, ep, k o h1, h2, h3, h4⟩
end
/-- what the dict at a holds at the key y -/
def DGetX (w : World) (H : Hp) (a : Addr) (y : V) (r : Option V) : Prop :=
  ∃ xs k b, H a = some (.ext (nX w a xs)) ∧ KeysX H xs ∧ y = .ref b ∧ KeyN H (.ref b) k ∧ k.depth ≤ 8 ∧ r = valX xs k
/-- the heap behind a[y] = v -/
def DPutX (w : World) (H : Hp) (a : Addr) (y v : V) (H' : Hp) : Prop :=
  ∃ xs k b, H a = some (.ext (nX w a xs)) ∧ KeysX H xs ∧ y = .ref b ∧ KeyN H (.ref b) k ∧ k.depth ≤ 8 ∧ xs.length < sizeLine ∧ H' = upd H a (.ext (nX w a (putX xs k b v)))
theorem putX_length {xs : List NE} {k : NestedKey} {b : Addr} {v : V} : (putX xs k b v).length ≤ xs.length + 1 := by
  unfold putX
  split
  · rw [List.length_map]; omega
  · rw [List.length_append]; simp
theorem putX_mem {xs : List NE} {k : NestedKey} {b : Addr} {v : V} {x : NE} (h : x ∈ putX xs k b v) : (∃ y ∈ xs, x.1 = y.1 ∧ x.2.1 = y.2.1) ∨ (x.1 = k ∧ x.2.1 = b) := by
  unfold putX at h
  split at h
  · obtain ⟨y, hy, rfl⟩ := List.mem_map.mp h
    refine .inl ⟨y, hy, ?_⟩
    split <;> exact ⟨rfl, rfl⟩
  · rcases List.mem_append.mp h with h | h
    · exact .inl ⟨x, h, rfl, rfl⟩
    · rw [List.mem_singleton] at h
      subst h
      exact .inr ⟨rfl, rfl⟩
theorem room_nk {X : Cx} {A : Around} (hu : A.units + 65 < cLine) : (nestedKind X.prog X.w).room A.in1 := by
  show A.units + 1 + 8 < cLine
  omega
section
variable {X : Cx} {pins : List (Addr × Obj)} {σ : L2.St} {H : Hp} {s : Shared} {a : Addr} {y v : V} {u r : Value} {o : Option V} {A : Around} {E : Value → Shared → Prop}
theorem dx_typeIs (I : Inv X pins σ H s) (g : DGetX X.w H a y o) : s.TypeIs (.ref a) "dict" := by
  obtain ⟨xs, k, b, e, ks, _⟩ := g
  obtain ⟨_, _, us, _, dd⟩ := dx_of I.hok e ks
  exact dd.typeIs
theorem dx_getItem {Q : Value → Shared → Prop} (hu : A.units + 65 < cLine) (I : Inv X pins σ H s) (g : DGetX X.w H a y (some v)) (ry : RelV y u) (h : ∀ w' s', Inv X pins σ H s' → RelV v w' → Q w' s') :
    wpAny (model X.prog X.w) A (getItem (.ref a) u) Q E s := by
  obtain ⟨xs, k, b, e, ks, ey, kb, dk, l⟩ := g
  subst ey
  cases (show u = Value.ref b from ry)
  obtain ⟨z, hd, us, rel, dd⟩ := dx_of I.hok e ks
  obtain ⟨w', hw, rw'⟩ := RelO.some_of (v := v) (o := (atKey us k).map (·.2)) (by rw [l]; exact rel.val k)
  obtain ⟨p, hp, hp2⟩ := Option.map_eq_some_iff.mp hw
  refine wpAny_getItem_heap (knd := nestedKind X.prog X.w) (room_nk hu) ⟨kb _ _ _ _ I.hok rfl, dk⟩ dd hp ?_
  rw [hp2]
  exact h w' _ (I.tok _) rw'
theorem dx_in {Q : Value → Shared → Prop} (hu : A.units + 65 < cLine) (I : Inv X pins σ H s) (g : DGetX X.w H a y o) (ry : RelV y u) (h : ∀ s', Inv X pins σ H s' → Q (.bool o.isSome) s') :
    wpAny (model X.prog X.w) A (compareOp .In u (.ref a)) Q E s := by
  obtain ⟨xs, k, b, e, ks, ey, kb, dk, l⟩ := g
  subst ey
  cases (show u = Value.ref b from ry)
  obtain ⟨z, hd, us, rel, dd⟩ := dx_of I.hok e ks
  refine wpAny_in_heap (knd := nestedKind X.prog X.w) (room_nk hu) ⟨kb _ _ _ _ I.hok rfl, dk⟩ hd dd ?_
  have q := (rel.val k).isSome_eq
  rw [Option.isSome_map] at q
  rw [← q, ← l]
  exact h _ (I.tok _)
theorem dx_notIn {Q : Value → Shared → Prop} (hu : A.units + 65 < cLine) (I : Inv X pins σ H s) (g : DGetX X.w H a y o) (ry : RelV y u) (h : ∀ s', Inv X pins σ H s' → Q (.bool (!o.isSome)) s') :
    wpAny (model X.prog X.w) A (compareOp .NotIn u (.ref a)) Q E s := by
  obtain ⟨xs, k, b, e, ks, ey, kb, dk, l⟩ := g
  subst ey
  cases (show u = Value.ref b from ry)
  obtain ⟨z, hd, us, rel, dd⟩ := dx_of I.hok e ks
  refine notIn_keyed (knd := nestedKind X.prog X.w) (room_nk hu) ⟨kb _ _ _ _ I.hok rfl, dk⟩ hd ⟨us, dd, rfl⟩ ?_
  have q := (rel.val k).isSome_eq
  rw [valueAt_pairsH]
  rw [← q, ← l]
  exact h _ (I.tok _)
theorem dx_setItem {H' : Hp} {Q : Unit → Shared → Prop} (hu : A.units + 65 < cLine) (I : Inv X pins σ H s) (g : DPutX X.w H a y v H') (ry : RelV y u) (rv : RelV v r) (h : ∀ s', Inv X pins σ H' s' → Q () s') :
    wpAny (model X.prog X.w) A (setItem (.ref a) u r) Q E s := by
  obtain ⟨xs, k, b, e, ks, ey, kb, dk, l, eH⟩ := g
  subst ey eH
  cases (show u = Value.ref b from ry)
  obtain ⟨z, hd, us, rel, dd⟩ := dx_of I.hok e ks
  have hz : us.length ≤ sizeLine := by rw [← Paired.length rel]; exact z
  have dpx : ∀ x ∈ xs, x.1.depth ≤ 8 := by
    obtain ⟨⟨_, _, _, dp, _⟩, _, _⟩ := (show ObjOk X.prog X.w H s.heap a (.ext (nX X.w a xs)) from I.hok a _ e)
    exact dp
  refine wpAny_setItem_heap (knd := nestedKind X.prog X.w) (hsz := hz) (room_nk hu) ⟨kb _ _ _ _ I.hok rfl, dk⟩ dd fun h' dd' hs => h _ ?_
  have he : ∃ q, h'.get? a = some q := let ⟨q, _, _, hq, _⟩ := dd'; ⟨q, hq⟩
  refine d_write I (by rw [e]; exact True.intro) hs he (dx_new ?_ hd (fun x hx => ?_) (rel.put rv k b) dd')
  · have := putX_length (xs := xs) (k := k) (b := b) (v := v); omega
  · rcases putX_mem hx with ⟨y, hy, e1, _⟩ | ⟨e1, _⟩
    · rw [e1]; exact dpx y hy
    · rw [e1]; exact dk
end
section
variable {K : PySem.W.Frag} {mg : MG} {F H : Hp}
theorem RpX.keysX (s : Same F H) : ∀ {xs : List NE} {ps : List (DKey × D)}, RpX K mg F xs ps → KeysX H xs := by
  intro xs
  induction xs with
  | nil => intro ps h x hx; cases hx
  | cons x xs ih =>
    intro ps h y hy
    cases h with
    | cons hk e hv t =>
      rcases List.mem_cons.mp hy with rfl | hy
      · exact Rp.nk (hk.mono s) e
      · exact ih t y hy
end
end R

/-! R3b: more steps by values: products, membership, subscripts, slices, builtins. -/
namespace R
open PySem PySem.Spec PyProof.Rows L2

theorem foldl_cps (a : Array Nat) : ∀ (n : Nat) (acc : Array Nat), ((List.replicate n a).foldl (· ++ ·) acc).toList = acc.toList ++ (List.replicate n a.toList).flatten := by
  intro n
  induction n with
  | zero => intro acc; simp
  | succ n ih =>
    intro acc
    rw [List.replicate_succ, List.foldl_cons, ih, List.replicate_succ, List.flatten_cons, Array.toList_append, List.append_assoc]
theorem txt_mul (a : Str) (j : Int) : Txt.mul a j = strMul a j.toNat := by
  unfold Txt.mul strMul
  by_cases h1 : j < 1
  · rw [if_pos h1, show j.toNat = 0 by omega]; rfl
  · rw [if_neg h1]
    by_cases h2 : (j == 1 || a.length == 0) = true
    · rw [if_pos h2]
      rw [Bool.or_eq_true, beq_iff_eq, beq_iff_eq] at h2
      obtain ⟨c⟩ := a
      rcases h2 with h2 | h2
      · subst h2
        show Str.mk c = _
        congr 1
        simp
      · have hc : c = #[] := Array.eq_empty_of_size_eq_zero h2
        subst hc
        simp
    · rw [if_neg h2]
      congr 1
      apply Array.ext'
      rw [foldl_cps]
      simp
section
variable {X : Cx}
theorem op_mul_str : OpR X (binaryOp .Mult) (fun x y H Q => ∃ a j, x = .str a ∧ y = .int j ∧ (a.length ≤ 100 ∧ j ≤ 1000 ∧ -1000 ≤ j) ∧ Q (.str (strMul a j.toNat)) H) := by
  intro pins s σ H x y v u Q I rx ry h
  obtain ⟨a, j, rfl, rfl, ⟨h1, h2, h3⟩, q⟩ := h
  obtain ⟨t, rfl⟩ := rx
  obtain ⟨t', rfl⟩ := ry
  have e : sizeLine = 16777216 := sizeLine_eq
  refine SB.mul ⟨?_, fun h4 h5 => ?_, fun h4 h5 => ?_⟩ fun t k => ?_
  · rw [decide_eq_false (by omega), decide_eq_false (by omega)]; rfl
  · have hj : 0 < j := by omega
    have : (100 : Int) ≤ (2 ^ 63 - 1) / j := Int.le_ediv_of_mul_le hj (by omega)
    omega
  · refine decide_eq_false ?_
    have : a.length * j.toNat ≤ 100 * 1000 := Nat.mul_le_mul h1 (by omega)
    omega
  · rw [txt_mul]
    exact ⟨.str _, H, I.tok _, ⟨_, rfl⟩, q⟩
theorem rps_rep {K : PySem.W.Frag} {mg : MG} {F : Hp} {vs : List V} {ds : List D} (r : Rps K mg F vs ds) : ∀ n : Nat, Rps K mg F (List.replicate n vs).flatten (List.replicate n ds).flatten
  | 0 => .nil
  | n + 1 => by
    rw [List.replicate_succ, List.flatten_cons, List.replicate_succ, List.flatten_cons]
    exact r.append (rps_rep r n)
theorem og_mul : OpG X (OpR X (binaryOp .Mult)) gMul := by
  intro Pr F H x y v w fx fy z Q s p rx ry e k
  unfold gMul at e
  split at e
  · rename_i i j ex ey
    split at e
    · rename_i c
      cases e
      exact ⟨_, op_mulW, i, j, rx.int ex, ry.int ey, (by unfold cMul at c; show i.natAbs.log2 + j.natAbs.log2 < 1000000; exact of_decide_eq_true c), give rfl rfl s k⟩
    · cases e
  · rename_i a j ex ey
    split at e
    · rename_i c
      cases e
      exact ⟨_, op_mul_str, a, j, rx.str ex, ry.int ey, c, give rfl rfl s k⟩
    · cases e
  · rename_i a j ex ey
    split at e
    · rename_i c
      cases e
      obtain ⟨ra, p1, vs, rfl, h1, r1⟩ := rx.tup ex
      have hl := Rps.length r1
      refine ⟨_, op_repT, p1, j, vs, rfl, ry.int ey, .inl (.inl (s _ _ h1)), fun z => ?_, c.2.2.1, by omega, by omega, give_tup rfl ?_ s k⟩
      · subst z
        have : a = [] := List.eq_nil_of_length_eq_zero hl.symm
        exact c.2.2.2 (by rw [this]; rfl)
      · exact rps_rep r1 j.toNat
    · cases e
  · rename_i a j ex ey
    split at e
    · rename_i c
      cases e
      obtain ⟨p1, vs, rfl, h1, r1⟩ := rx.list p s ex
      have hl := Rps.length r1
      have e : sizeLine = 16777216 := sizeLine_eq
      refine ⟨_, op_rep, p1, j, vs, rfl, ry.int ey, h1, by omega, by omega, ?_, give_lst rfl (rps_rep r1 j.toNat) s k⟩
      have : vs.length * j.toNat ≤ 100 * 1000 := Nat.mul_le_mul (by omega) (by omega)
      omega
    · cases e
  · cases e

/-! ### in, not in -/
/-- the items of a list or tuple -/
def D.items : D → Option (List D)
  | .lst ds => some ds | .tup ds => some ds | .kt ds => some ds | .scr ns => some (ns.map D.int) | _ => none
theorem rps_ints {K : PySem.W.Frag} {mg : MG} {F : Hp} : ∀ ns : List Int, Rps K mg F (ns.map V.int) (ns.map D.int)
  | [] => .nil
  | n :: ns => .cons (.int n) (rps_ints ns)
theorem Rp.items {K : PySem.W.Frag} {mg : MG} {F : Hp} {v : V} {d : D} {ds : List D} (h : Rp K mg F v d) (e : d.items = some ds) : ∃ a vs, v = .ref a ∧ (SqL K F a vs ∨ SqT K F a vs) ∧ Rps K mg F vs ds := by
  cases h with
  | lst h r => cases e; exact ⟨_, _, rfl, .inl (.inl (.inl h)), r⟩
  | tup h r => cases e; exact ⟨_, _, rfl, .inr (.inl (.inl h)), r⟩
  | kt h r => cases e; exact ⟨_, _, rfl, .inr h, r⟩
  | scr h => cases e; exact ⟨_, _, rfl, .inl h, rps_ints _⟩
  | _ => cases e
/-- a value as a dict's key -/
def D.key : D → Option Key
  | .int i => some (.inl i) | .str x => some (.inr x) | _ => none
def D.keys : List D → Option (List Key)
  | [] => some []
  | d :: ds => match d.key, D.keys ds with | some k, some ks => some (k :: ks) | _, _ => none
/-- data as a key of a dict of kind t -/
def D.dkey (t : Nat) : D → Option DKey
  | .int i => if t = 0 then some (.inl (.inl i)) else none
  | .str x => if t = 0 then some (.inl (.inr x)) else none
  | .tup ds => if t = 1 then (D.keys ds).map fun ks => .inr (.inl ks) else if t = 2 then (match D.nks ds with | some ks => if (NestedKey.tup ks).depth ≤ 8 then some (.inr (.inr (.tup ks))) else none | none => none) else none
  | _ => none
def dget (ps : List (DKey × D)) (k : DKey) : Option D := (ps.find? fun p => decide (p.1 = k)).map (·.2)
def dput (ps : List (DKey × D)) (k : DKey) (d : D) : List (DKey × D) :=
  if (ps.any fun p => decide (p.1 = k)) = true then ps.map (fun p => if p.1 = k then (p.1, d) else p) else ps ++ [(k, d)]
section
variable {K : PySem.W.Frag} {mg : MG} {F H : Hp}
theorem Rp.key {v : V} {d : D} {k : Key} (h : Rp K mg F v d) (e : d.key = some k) : v = kV k := by
  cases h <;> first | (cases e; rfl) | cases e
theorem Rps.keys {vs : List V} : ∀ {ds : List D} {ks : List Key}, Rps K mg F vs ds → D.keys ds = some ks → vs = ks.map kV := by
  induction vs with
  | nil => intro ds us h e; cases h; cases e; rfl
  | cons v vs ih =>
    intro ds us h e
    cases h with
    | @cons _ _ d ds h r =>
      unfold D.keys at e
      cases e1 : d.key with
      | none => rw [e1] at e; cases e
      | some u =>
        cases e2 : D.keys ds with
        | none => rw [e1, e2] at e; cases e
        | some us' =>
          rw [e1, e2] at e
          cases e
          rw [List.map_cons, h.key e1, ih r e2]
theorem RpK.get {k : Key} {kvs : List (Key × V)} : ∀ {ps : List (DKey × D)}, RpK K mg F kvs ps → (valV kvs k = none ∧ dget ps (.inl k) = none) ∨ ∃ v d, valV kvs k = some v ∧ dget ps (.inl k) = some d ∧ Rp K mg F v d := by
  induction kvs with
  | nil => intro ps h; cases h; exact .inl ⟨rfl, rfl⟩
  | cons p r ih =>
    intro ps h
    cases h with
    | @cons k1 v d r ps h t =>
      by_cases c : k1 = k
      · subst c
        refine .inr ⟨v, d, valV_pos rfl, ?_, h⟩
        simp [dget]
      · have c2 : ¬ (Sum.inl k1 : DKey) = .inl k := fun z => c (Sum.inl.inj z)
        rw [valV_neg (show ¬ (k1, v).1 = k from c)]
        have : dget ((Sum.inl k1, d) :: ps) (.inl k) = dget ps (.inl k) := by simp [dget, List.find?_cons, c]
        rw [this]
        exact ih t
theorem RpT.get {k : List Key} {kvs : List (List Key × V)} : ∀ {ps : List (DKey × D)}, RpT K mg F kvs ps → (valV kvs k = none ∧ dget ps (.inr (.inl k)) = none) ∨ ∃ v d, valV kvs k = some v ∧ dget ps (.inr (.inl k)) = some d ∧ Rp K mg F v d := by
  induction kvs with
  | nil => intro ps h; cases h; exact .inl ⟨rfl, rfl⟩
  | cons p r ih =>
    intro ps h
    cases h with
    | @cons k1 v d r ps h t =>
      by_cases c : k1 = k
      · subst c
        refine .inr ⟨v, d, valV_pos rfl, ?_, h⟩
        simp [dget]
      · rw [valV_neg (show ¬ (k1, v).1 = k from c)]
        have : dget ((Sum.inr (Sum.inl k1), d) :: ps) (.inr (.inl k)) = dget ps (.inr (.inl k)) := by simp [dget, List.find?_cons, c]
        rw [this]
        exact ih t
theorem RpK.any {k : Key} {kvs : List (Key × V)} {ps : List (DKey × D)} (h : RpK K mg F kvs ps) : (kvs.any fun p => decide (p.1 = k)) = ps.any fun p => decide (p.1 = .inl k) := by
  have : ∀ kvs ps, RpK K mg F kvs ps → (kvs.any fun p => decide (p.1 = k)) = ps.any fun p => decide (p.1 = .inl k) := by
    intro kvs
    induction kvs with
    | nil => intro ps h; cases h; rfl
    | cons p r ih =>
      intro ps h
      cases h with
      | cons h t => rw [List.any_cons, List.any_cons, ih _ t]; congr 1; simp
  exact this _ _ h
theorem RpT.any {k : List Key} {kvs : List (List Key × V)} {ps : List (DKey × D)} (h : RpT K mg F kvs ps) : (kvs.any fun p => decide (p.1 = k)) = ps.any fun p => decide (p.1 = .inr (.inl k)) := by
  have : ∀ kvs ps, RpT K mg F kvs ps → (kvs.any fun p => decide (p.1 = k)) = ps.any fun p => decide (p.1 = .inr (.inl k)) := by
    intro kvs
    induction kvs with
    | nil => intro ps h; cases h; rfl
    | cons p r ih =>
      intro ps h
      cases h with
      | cons h t => rw [List.any_cons, List.any_cons, ih _ t]; congr 1; simp
  exact this _ _ h
theorem RpK.repl {k : Key} {v : V} {d : D} (hv : Rp K mg F v d) : ∀ {kvs : List (Key × V)} {ps : List (DKey × D)}, RpK K mg F kvs ps → RpK K mg F (kvs.map fun p => if p.1 = k then (p.1, v) else p) (ps.map fun p => if p.1 = .inl k then (p.1, d) else p) := by
  intro kvs
  induction kvs with
  | nil => intro ps h; cases h; exact .nil
  | cons p r ih =>
    intro ps h
    cases h with
    | @cons k1 v1 d1 r ps h t =>
      rw [List.map_cons, List.map_cons]
      by_cases c : k1 = k
      · subst c; simp only [if_true]; exact .cons hv (ih t)
      · have c2 : ¬ (Sum.inl k1 : DKey) = .inl k := fun z => c (Sum.inl.inj z)
        simp only [c, c2, if_false]; exact .cons h (ih t)
theorem RpT.repl {k : List Key} {v : V} {d : D} (hv : Rp K mg F v d) : ∀ {kvs : List (List Key × V)} {ps : List (DKey × D)}, RpT K mg F kvs ps → RpT K mg F (kvs.map fun p => if p.1 = k then (p.1, v) else p) (ps.map fun p => if p.1 = .inr (.inl k) then (p.1, d) else p) := by
  intro kvs
  induction kvs with
  | nil => intro ps h; cases h; exact .nil
  | cons p r ih =>
    intro ps h
    cases h with
    | @cons k1 v1 d1 r ps h t =>
      rw [List.map_cons, List.map_cons]
      by_cases c : k1 = k
      · subst c; simp only [if_true]; exact .cons hv (ih t)
      · have c2 : ¬ (Sum.inr (Sum.inl k1) : DKey) = .inr (.inl k) := fun z => c (Sum.inl.inj (Sum.inr.inj z))
        simp only [c, c2, if_false]; exact .cons h (ih t)
theorem RpK.snoc {k : Key} {v : V} {d : D} (hv : Rp K mg F v d) : ∀ {kvs : List (Key × V)} {ps : List (DKey × D)}, RpK K mg F kvs ps → RpK K mg F (kvs ++ [(k, v)]) (ps ++ [(.inl k, d)]) := by
  intro kvs
  induction kvs with
  | nil => intro ps h; cases h; exact .cons hv .nil
  | cons p r ih => intro ps h; cases h with | cons h t => exact .cons h (ih t)
theorem RpT.snoc {k : List Key} {v : V} {d : D} (hv : Rp K mg F v d) : ∀ {kvs : List (List Key × V)} {ps : List (DKey × D)}, RpT K mg F kvs ps → RpT K mg F (kvs ++ [(k, v)]) (ps ++ [(.inr (.inl k), d)]) := by
  intro kvs
  induction kvs with
  | nil => intro ps h; cases h; exact .cons hv .nil
  | cons p r ih => intro ps h; cases h with | cons h t => exact .cons h (ih t)
theorem RpK.put {k : Key} {v : V} {d : D} {kvs : List (Key × V)} {ps : List (DKey × D)} (h : RpK K mg F kvs ps) (hv : Rp K mg F v d) : RpK K mg F (putK kvs k v) (dput ps (.inl k) d) := by
  unfold putK dput
  rw [h.any]
  by_cases c : (ps.any fun p => decide (p.1 = .inl k)) = true
  · rw [if_pos c, if_pos c]; exact h.repl hv
  · rw [if_neg c, if_neg c]; exact h.snoc hv
theorem RpT.put {k : List Key} {v : V} {d : D} {kvs : List (List Key × V)} {ps : List (DKey × D)} (h : RpT K mg F kvs ps) (hv : Rp K mg F v d) : RpT K mg F (putK kvs k v) (dput ps (.inr (.inl k)) d) := by
  unfold putK dput
  rw [h.any]
  by_cases c : (ps.any fun p => decide (p.1 = .inr (.inl k))) = true
  · rw [if_pos c, if_pos c]; exact h.repl hv
  · rw [if_neg c, if_neg c]; exact h.snoc hv
theorem RpK.length {kvs : List (Key × V)} {ps : List (DKey × D)} (h : RpK K mg F kvs ps) : kvs.length = ps.length := by
  have : ∀ kvs ps, RpK K mg F kvs ps → kvs.length = ps.length := by
    intro kvs
    induction kvs with
    | nil => intro ps h; cases h; rfl
    | cons p r ih => intro ps h; cases h with | cons h t => rw [List.length_cons, List.length_cons, ih _ t]
  exact this _ _ h
theorem RpT.length {kvs : List (List Key × V)} {ps : List (DKey × D)} (h : RpT K mg F kvs ps) : kvs.length = ps.length := by
  have : ∀ kvs ps, RpT K mg F kvs ps → kvs.length = ps.length := by
    intro kvs
    induction kvs with
    | nil => intro ps h; cases h; rfl
    | cons p r ih => intro ps h; cases h with | cons h t => rw [List.length_cons, List.length_cons, ih _ t]
  exact this _ _ h
theorem RpX.get {k : NestedKey} {xs : List NE} : ∀ {ps : List (DKey × D)}, RpX K mg F xs ps → (valX xs k = none ∧ dget ps (.inr (.inr k)) = none) ∨ ∃ v d, valX xs k = some v ∧ dget ps (.inr (.inr k)) = some d ∧ Rp K mg F v d := by
  induction xs with
  | nil => intro ps h; cases h; exact .inl ⟨rfl, rfl⟩
  | cons p r ih =>
    intro ps h
    cases h with
    | @cons k1 b kd v d r ps hk e h t =>
      by_cases c : k1 = k
      · subst c
        refine .inr ⟨v, d, by simp [valX], by simp [dget], h⟩
      · have e1 : valX ((k1, b, v) :: r) k = valX r k := by simp [valX, c]
        have e2 : dget ((Sum.inr (Sum.inr k1), d) :: ps) (.inr (.inr k)) = dget ps (.inr (.inr k)) := by simp [dget, List.find?_cons, c]
        rw [e1, e2]
        exact ih t
theorem RpX.any {k : NestedKey} : ∀ {xs : List NE} {ps : List (DKey × D)}, RpX K mg F xs ps → (xs.any fun p => decide (p.1 = k)) = ps.any fun p => decide (p.1 = .inr (.inr k)) := by
  intro xs
  induction xs with
  | nil => intro ps h; cases h; rfl
  | cons p r ih =>
    intro ps h
    cases h with
    | cons hk e h t => rw [List.any_cons, List.any_cons, ih t]; congr 1; simp
theorem RpX.repl {k : NestedKey} {v : V} {d : D} (hv : Rp K mg F v d) : ∀ {xs : List NE} {ps : List (DKey × D)}, RpX K mg F xs ps → RpX K mg F (xs.map fun x => if x.1 = k then (x.1, x.2.1, v) else x) (ps.map fun p => if p.1 = .inr (.inr k) then (p.1, d) else p) := by
  intro xs
  induction xs with
  | nil => intro ps h; cases h; exact .nil
  | cons p r ih =>
    intro ps h
    cases h with
    | @cons k1 b kd v1 d1 r ps hk e h t =>
      rw [List.map_cons, List.map_cons]
      by_cases c : k1 = k
      · subst c; simp only [if_true]; exact .cons hk e hv (ih t)
      · have c2 : ¬ (Sum.inr (Sum.inr k1) : DKey) = .inr (.inr k) := fun z => c (Sum.inr.inj (Sum.inr.inj z))
        simp only [c, c2, if_false]; exact .cons hk e h (ih t)
theorem RpX.snoc {k : NestedKey} {b : Addr} {kd : D} {v : V} {d : D} (hk : Rp K mg F (.ref b) kd) (e : kd.nk = some k) (hv : Rp K mg F v d) : ∀ {xs : List NE} {ps : List (DKey × D)}, RpX K mg F xs ps → RpX K mg F (xs ++ [(k, b, v)]) (ps ++ [(.inr (.inr k), d)]) := by
  intro xs
  induction xs with
  | nil => intro ps h; cases h; exact .cons hk e hv .nil
  | cons p r ih => intro ps h; cases h with | cons h1 h2 h3 t => exact .cons h1 h2 h3 (ih t)
theorem RpX.put {k : NestedKey} {b : Addr} {kd : D} {v : V} {d : D} {xs : List NE} {ps : List (DKey × D)} (h : RpX K mg F xs ps) (hk : Rp K mg F (.ref b) kd) (e : kd.nk = some k) (hv : Rp K mg F v d) : RpX K mg F (putX xs k b v) (dput ps (.inr (.inr k)) d) := by
  unfold putX dput
  rw [h.any (k := k)]
  by_cases c : (ps.any fun p => decide (p.1 = .inr (.inr k))) = true
  · rw [if_pos c, if_pos c]; exact h.repl hv
  · rw [if_neg c, if_neg c]; exact h.snoc hk e hv
theorem RpX.length : ∀ {xs : List NE} {ps : List (DKey × D)}, RpX K mg F xs ps → xs.length = ps.length := by
  intro xs
  induction xs with
  | nil => intro ps h; cases h; rfl
  | cons p r ih => intro ps h; cases h with | cons h1 h2 h3 t => rw [List.length_cons, List.length_cons, ih t]
/-- a dict, its values frozen -/
theorem XvR.dict {Pr : Hp} {v : V} {x : SV} {fp : List Addr} {t : Nat} {ps : List (DKey × D)} (p : Same Pr H) (s : Same F H) (h : XvR K mg Pr F H v x fp) (e : x.data = .dic t ps) :
    ∃ a, v = .ref a ∧ ((t = 0 ∧ ∃ kvs, H a = some (.dK kvs) ∧ RpK K mg F kvs ps) ∨ (t = 1 ∧ ∃ kvs, H a = some (.dT kvs) ∧ RpT K mg F kvs ps) ∨ (t = 2 ∧ ∃ xs, H a = some (.ext (nX mg.w a xs)) ∧ RpX K mg F xs ps)) := by
  rcases h.ow p with ⟨d, rfl, hd⟩ | ⟨o, fq, e2, ho⟩
  · cases (show d = .dic t ps from e)
    cases hd with
    | dK h9 r => exact ⟨_, rfl, .inl ⟨rfl, _, s _ _ h9, r⟩⟩
    | dT h9 r => exact ⟨_, rfl, .inr (.inl ⟨rfl, _, s _ _ h9, r⟩)⟩
    | dX h9 r => exact ⟨_, rfl, .inr (.inr ⟨rfl, _, s _ _ h9, r⟩)⟩
  · rw [e2] at e
    cases ho with
    | lst h9 r => cases e
    | dK h9 r => cases e; exact ⟨_, rfl, .inl ⟨rfl, _, h9, r⟩⟩
    | dT h9 r => cases e; exact ⟨_, rfl, .inr (.inl ⟨rfl, _, h9, r⟩)⟩
    | dX h9 r => cases e; exact ⟨_, rfl, .inr (.inr ⟨rfl, _, h9, r⟩)⟩
    | ins c h r => cases e
    | pk h r => cases e
/-- what a dict of any kind holds -/
def DGA (w : World) (H : Hp) (a : Addr) (y : V) (r : Option V) : Prop := DGet H a y r ∨ DGetX w H a y r
/-- what a look-up finds -/
theorem dget_of {Pr : Hp} {v w : V} {x y : SV} {fx fy : List Addr} {t : Nat} {ps : List (DKey × D)} {k : DKey} (p : Same Pr H) (s : Same F H) (hx : XvR K mg Pr F H v x fx) (hy : XvR K mg Pr F H w y fy) (ex : x.data = .dic t ps) (ey : y.data.dkey t = some k) :
    ∃ a o, v = .ref a ∧ DGA mg.w H a w o ∧ ((o = none ∧ dget ps k = none) ∨ ∃ u d, o = some u ∧ dget ps k = some d ∧ Rp K mg F u d) := by
  obtain ⟨a, rfl, h⟩ := hx.dict p s ex
  have ry := hy.rp s p
  cases ed : y.data with
  | int i =>
    rw [ed] at ey
    have ey : (if t = 0 then some (.inl (.inl i)) else none : Option DKey) = some k := ey
    rcases h with ⟨rfl, kvs, hk, r⟩ | ⟨rfl, _⟩ | ⟨rfl, _⟩
    · cases ey
      cases hy.int ed
      refine ⟨a, valV kvs (.inl i), rfl, .inl (DGet.k (k := .inl i) hk), ?_⟩
      rcases r.get (k := .inl i) with ⟨e1, e2⟩ | ⟨u, d, e1, e2, e3⟩
      · exact .inl ⟨e1, e2⟩
      · exact .inr ⟨u, d, e1, e2, e3⟩
    · cases ey
    · cases ey
  | str i =>
    rw [ed] at ey
    have ey : (if t = 0 then some (.inl (.inr i)) else none : Option DKey) = some k := ey
    rcases h with ⟨rfl, kvs, hk, r⟩ | ⟨rfl, _⟩ | ⟨rfl, _⟩
    · cases ey
      cases hy.str ed
      refine ⟨a, valV kvs (.inr i), rfl, .inl (DGet.k (k := .inr i) hk), ?_⟩
      rcases r.get (k := .inr i) with ⟨e1, e2⟩ | ⟨u, d, e1, e2, e3⟩
      · exact .inl ⟨e1, e2⟩
      · exact .inr ⟨u, d, e1, e2, e3⟩
    · cases ey
    · cases ey
  | tup ds =>
    rw [ed] at ey
    have ey : (if t = 1 then (D.keys ds).map fun ks => .inr (.inl ks) else if t = 2 then (match D.nks ds with | some ks => if (NestedKey.tup ks).depth ≤ 8 then some (.inr (.inr (.tup ks))) else none | none => none) else none : Option DKey) = some k := ey
    obtain ⟨rt, b, vs, rfl, hb, rs⟩ := hy.tup ed
    rcases h with ⟨rfl, _⟩ | ⟨rfl, kvs, hk, r⟩ | ⟨rfl, xs, hk, r⟩
    · cases ey
    · have ey : ((D.keys ds).map fun ks => .inr (.inl ks) : Option DKey) = some k := ey
      cases ek : D.keys ds with
      | none => rw [ek] at ey; cases ey
      | some ks =>
        rw [ek] at ey
        cases ey
        cases rs.keys ek
        refine ⟨a, valV kvs ks, rfl, .inl (DGet.t hk (s _ _ hb)), ?_⟩
        rcases r.get (k := ks) with ⟨e1, e2⟩ | ⟨u, d, e1, e2, e3⟩
        · exact .inl ⟨e1, e2⟩
        · exact .inr ⟨u, d, e1, e2, e3⟩
    · have ey : (match D.nks ds with | some ks => if (NestedKey.tup ks).depth ≤ 8 then some (.inr (.inr (.tup ks))) else none | none => none : Option DKey) = some k := ey
      cases ek : D.nks ds with
      | none => rw [ek] at ey; cases ey
      | some ks =>
        rw [ek] at ey
        have ey : (if (NestedKey.tup ks).depth ≤ 8 then some (.inr (.inr (.tup ks))) else none : Option DKey) = some k := ey
        by_cases c : (NestedKey.tup ks).depth ≤ 8
        · rw [if_pos c] at ey
          cases ey
          have kb : KeyN H (.ref b) (.tup ks) := Rp.nk (d := .tup ds) (Rp.tup (s _ _ hb) (rs.mono s)) (by unfold D.nk; rw [ek])
          refine ⟨a, valX xs (.tup ks), rfl, .inr ⟨xs, _, b, hk, r.keysX s, rfl, kb, c, rfl⟩, ?_⟩
          rcases r.get (k := .tup ks) with ⟨e1, e2⟩ | ⟨u, d, e1, e2, e3⟩
          · exact .inl ⟨e1, e2⟩
          · exact .inr ⟨u, d, e1, e2, e3⟩
        · rw [if_neg c] at ey; cases ey
  | _ => rw [ed] at ey; cases ey
end
/-- whether x is in y -/
def inD (x y : D) : Option Bool := match y with
  | .str z => match x with
    | .str c => match c.cps.toList with
      | [k] => some (decide (k ∈ z.cps.toList))
      | _ => none
    | _ => none
  | _ => match y.items with
    | some ds => match x.sc, D.scs ds with
      | some v, some vs => some (inV v vs)
      | _, _ => match x.py, D.pys ds with
        | some e, some es => if SeqAt.shaped e = true ∧ SeqAt.shaped (.list es) = true then some (es.any fun z => PyData.eqv z e) else none
        | _, _ => none
    | none => none
theorem reads_seq {pins : List (Addr × Obj)} {σ : L2.St} {s : Shared} {H : Hp} {v : V} {u : Value} {es : List PyData} (I : Inv X pins σ H s) (h : Dp X.K H v (.list es) ∨ Dp X.K H v (.tuple es)) (r : RelV v u) : ∃ as, Reads s.heap u (.list es) as ∨ Reads s.heap u (.tuple es) as := by
  rcases h with h | h
  · obtain ⟨as, q⟩ := Dp.reads I _ v u h r; exact ⟨as, .inl q⟩
  · obtain ⟨as, q⟩ := Dp.reads I _ v u h r; exact ⟨as, .inr q⟩
theorem op_inSeq (hu : X.A.units + 65 < cLine) : OpR X (compareOp .In) (fun x y H Q => ∃ d ds, Dp X.K H x d ∧ (Dp X.K H y (.list ds) ∨ Dp X.K H y (.tuple ds)) ∧ SeqAt.shaped d = true ∧ SeqAt.shaped (.list ds) = true ∧ Q (.bl (ds.any fun z => PyData.eqv z d)) H) := by
  intro pins s σ H x y v u Q I rx ry h
  obtain ⟨d, ds, hd, he, sd, se, q⟩ := h
  obtain ⟨as, r1⟩ := Dp.reads I d x v hd rx
  obtain ⟨bs, r2⟩ := reads_seq I he ry
  rcases r2 with r2 | r2
  · exact SeqAt.in_list_reads r2 r1 (SeqAt.canLay_of_shaped se) (SeqAt.canLay_of_shaped sd) (room_in_shaped sd hu) ⟨.bl _, H, I, rfl, q⟩
  · exact SeqAt.in_tuple_reads r2 r1 (SeqAt.canLay_of_shaped se) (SeqAt.canLay_of_shaped sd) (room_in_shaped sd hu) ⟨.bl _, H, I, rfl, q⟩
theorem op_notInSeq (hu : X.A.units + 65 < cLine) : OpR X (compareOp .NotIn) (fun x y H Q => ∃ d ds, Dp X.K H x d ∧ (Dp X.K H y (.list ds) ∨ Dp X.K H y (.tuple ds)) ∧ SeqAt.shaped d = true ∧ SeqAt.shaped (.list ds) = true ∧ Q (.bl (!ds.any fun z => PyData.eqv z d)) H) := by
  intro pins s σ H x y v u Q I rx ry h
  obtain ⟨d, ds, hd, he, sd, se, q⟩ := h
  obtain ⟨as, r1⟩ := Dp.reads I d x v hd rx
  obtain ⟨bs, r2⟩ := reads_seq I he ry
  rcases r2 with r2 | r2
  · exact SeqAt.notIn_list_reads r2 r1 (SeqAt.canLay_of_shaped se) (SeqAt.canLay_of_shaped sd) (room_in_shaped sd hu) ⟨.bl _, H, I, rfl, q⟩
  · exact SeqAt.notIn_tuple_reads r2 r1 (SeqAt.canLay_of_shaped se) (SeqAt.canLay_of_shaped sd) (room_in_shaped sd hu) ⟨.bl _, H, I, rfl, q⟩
theorem Rp.seq_dp {K : PySem.W.Frag} {mg : MG} {H : Hp} {v : V} {d : D} {ds : List D} {es : List PyData} (h : Rp K mg H v d) (e : d.items = some ds) (q : D.pys ds = some es) : Dp K H v (.list es) ∨ Dp K H v (.tuple es) := by
  cases h with
  | lst h r => cases e; exact .inl (.lst (.inl (.inl h)) (Rps.dp r q))
  | tup h r => cases e; exact .inr (.tup (.inl (.inl h)) (Rps.dp r q))
  | kt h r => cases e; exact .inr (.tup h (Rps.dp r q))
  | scr h => cases e; exact .inl (.lst h (Rps.dp (mg := mg) (rps_ints _) q))
  | _ => cases e
def gInf (f : Bool → Bool) (x y : SV) : Option SV := (inD x.data y.data).map fun b => .sh (.bl (f b))
theorem og_inf {op : CmpOp} {f : Bool → Bool} (h1 : OpR X (compareOp op) fun x y H Q => ∃ (c : Nat) (z : Str), x = .str ⟨#[c]⟩ ∧ y = .str z ∧ Q (.bl (f (decide (c ∈ z.cps.toList)))) H)
    (h2 : OpR X (compareOp op) fun x y H Q => ∃ p xs, y = .ref p ∧ (SqL X.K H p xs ∨ SqT X.K H p xs) ∧ flatV x = true ∧ xs.all flatV = true ∧ Q (.bl (f (inV x xs))) H)
    (h3 : OpR X (compareOp op) fun x y H Q => ∃ d ds, Dp X.K H x d ∧ (Dp X.K H y (.list ds) ∨ Dp X.K H y (.tuple ds)) ∧ SeqAt.shaped d = true ∧ SeqAt.shaped (.list ds) = true ∧ Q (.bl (f (ds.any fun z => PyData.eqv z d))) H) : OpG X (OpR X (compareOp op)) (gInf f) := by
  intro Pr F H x y v w fx fy z Q s p rx ry e k
  unfold gInf inD at e
  have rx' := rx.rp s p
  have ry' := ry.rp s p
  split at e
  · rename_i zz ey
    split at e
    · rename_i c ex
      split at e
      · rename_i k1 ec
        cases e
        refine ⟨_, h1, k1, zz, ?_, ry.str ey, give rfl rfl s k⟩
        rw [rx.str ex]
        obtain ⟨c⟩ := c
        congr 2
        apply Array.ext'
        exact ec
      · cases e
    · cases e
  · split at e
    · rename_i ds ei
      obtain ⟨a, vs, ev, hs, hr⟩ := ry'.items ei
      have deep : (match x.data.py, D.pys ds with
        | some e, some es => if SeqAt.shaped e = true ∧ SeqAt.shaped (.list es) = true then some (es.any fun z => PyData.eqv z e) else none
        | _, _ => none).map (fun b => SV.sh (.bl (f b))) = some z → ∃ r, OpR X (compareOp op) r ∧ r v w H Q := fun e => by
        cases e1 : x.data.py with
        | none => rw [e1] at e; cases e
        | some a1 =>
          cases e2 : D.pys ds with
          | none => rw [e1, e2] at e; cases e
          | some es =>
            rw [e1, e2] at e
            have e' : (if SeqAt.shaped a1 = true ∧ SeqAt.shaped (.list es) = true then some (es.any fun z => PyData.eqv z a1) else none).map (fun b => SV.sh (.bl (f b))) = some z := e
            by_cases c : SeqAt.shaped a1 = true ∧ SeqAt.shaped (.list es) = true
            · rw [if_pos c] at e'
              cases e'
              exact ⟨_, h3, a1, es, rx'.dp e1, ry'.seq_dp ei e2, c.1, c.2, give rfl rfl s k⟩
            · rw [if_neg c] at e'
              cases e'
      cases e1 : x.data.sc with
      | none => rw [e1] at e; exact deep e
      | some a1 =>
        cases e2 : D.scs ds with
        | none => rw [e1, e2] at e; exact deep e
        | some vs2 =>
          rw [e1, e2] at e
          cases e
          cases rx'.scv e1
          cases hr.scv e2
          exact ⟨_, h2, a, _, ev, hs, sc_flat e1, scs_flat e2, give rfl rfl s k⟩
    · cases e
/-- .. dicts too -/
def gInD (f : Bool → Bool) (x y : SV) : Option SV := match y.data with
  | .dic t ps => match x.data.dkey t with
    | some k => some (.sh (.bl (f (dget ps k).isSome)))
    | none => none
  | _ => gInf f x y
def gIn := gInD fun b => b
def gNotIn := gInD fun b => !b
theorem op_inDict (hu : X.A.units + 65 < cLine) : OpR X (compareOp .In) (fun x y H Q => ∃ a o, y = .ref a ∧ DGA X.w H a x o ∧ Q (.bl o.isSome) H) := by
  intro pins s σ H x y v u Q I rx ry h
  obtain ⟨a, o, rfl, g, q⟩ := h
  cases (show u = Value.ref a from ry)
  rcases g with g | g
  · exact d_in (by omega) I g rx fun s' I' => ⟨.bl _, H, I', rfl, q⟩
  · exact dx_in hu I g rx fun s' I' => ⟨.bl _, H, I', rfl, q⟩
theorem op_notInDict (hu : X.A.units + 65 < cLine) : OpR X (compareOp .NotIn) (fun x y H Q => ∃ a o, y = .ref a ∧ DGA X.w H a x o ∧ Q (.bl (!o.isSome)) H) := by
  intro pins s σ H x y v u Q I rx ry h
  obtain ⟨a, o, rfl, g, q⟩ := h
  cases (show u = Value.ref a from ry)
  rcases g with g | g
  · exact d_notIn (by omega) I g rx fun s' I' => ⟨.bl _, H, I', rfl, q⟩
  · exact dx_notIn hu I g rx fun s' I' => ⟨.bl _, H, I', rfl, q⟩
theorem og_inD {op : CmpOp} {f : Bool → Bool} (h0 : OpG X (OpR X (compareOp op)) (gInf f)) (h1 : OpR X (compareOp op) fun x y H Q => ∃ a o, y = .ref a ∧ DGA X.w H a x o ∧ Q (.bl (f o.isSome)) H) : OpG X (OpR X (compareOp op)) (gInD f) := by
  intro Pr F H x y v w fx fy z Q s p rx ry e k
  unfold gInD at e
  split at e
  · rename_i t ps ey
    split at e
    · rename_i kk ek
      cases e
      obtain ⟨a, o, ev, g, h⟩ := dget_of p s ry rx ey ek
      refine ⟨_, h1, a, o, ev, g, ?_⟩
      rcases h with ⟨e1, e2⟩ | ⟨u, d, e1, e2, _⟩
      · rw [e2] at k; subst e1; exact give rfl rfl s k
      · rw [e2] at k; subst e1; exact give rfl rfl s k
    · cases e
  · exact h0 Pr F H x y v w fx fy z Q s p rx ry e k
theorem og_in (hu : X.A.units + 65 < cLine) : OpG X (OpR X (compareOp .In)) gIn := og_inD (f := fun b => b) (og_inf (f := fun b => b) op_in_sign op_in_seq (op_inSeq hu)) (op_inDict hu)
theorem og_notIn (hu : X.A.units + 65 < cLine) : OpG X (OpR X (compareOp .NotIn)) gNotIn := og_inD (f := fun b => !b) (og_inf (f := fun b => !b) op_notIn_sign op_notIn_seq (op_notInSeq hu)) (op_notInDict hu)
end
end R

/-! R3c: subscripts, slices, builtins by values. -/
namespace R
open PySem PySem.Spec PyProof.Rows L2

/-- x[y] -/
def gIx (x y : SV) : Option SV := match x.data with
  | .dic t ps => match y.data.dkey t with
    | some k => (dget ps k).map .sh
    | none => none
  | .str z => match y.data with
    | .int i => if z.length ≤ sizeLine then (atI z.cps.toList i).map fun c => .sh (.str ⟨#[c]⟩) else none
    | _ => none
  | _ => match x.data.items, y.data with
    | some ds, .int i => (atI ds i).map .sh
    | _, _ => none
theorem Rps.at {K : PySem.W.Frag} {mg : MG} {F : Hp} {vs : List V} {d : D} : ∀ {ds : List D} {j : Nat}, Rps K mg F vs ds → ds[j]? = some d → ∃ v, vs[j]? = some v ∧ Rp K mg F v d := by
  induction vs with
  | nil => intro ds j h e; cases h; simp at e
  | cons v vs ih =>
    intro ds j h e
    cases h with
    | @cons _ _ d' ds h r =>
      cases j with
      | zero => simp at e; subst e; exact ⟨v, rfl, h⟩
      | succ j => exact ih r (by simpa using e)
theorem Rps.atI {K : PySem.W.Frag} {mg : MG} {F : Hp} {vs : List V} {d : D} {ds : List D} {i : Int} (h : Rps K mg F vs ds) (e : L2.atI ds i = some d) : ∃ v, L2.atI vs i = some v ∧ Rp K mg F v d := by
  unfold L2.atI at e ⊢
  rw [Rps.length h]
  cases q : ixN ds.length i with
  | none => rw [q] at e; cases e
  | some j => rw [q] at e; exact h.at e
/-- a sequence: its items are frozen -/
theorem XvR.seq {K : PySem.W.Frag} {mg : MG} {Pr F H : Hp} {v : V} {x : SV} {fp : List Addr} {ds : List D} (p : Same Pr H) (s : Same F H) (h : XvR K mg Pr F H v x fp) (e : x.data.items = some ds) : ∃ a vs, v = .ref a ∧ (SqL K H a vs ∨ SqT K H a vs) ∧ Rps K mg F vs ds := by
  rcases h.ow p with ⟨d, rfl, hd⟩ | ⟨o, fq, e2, ho⟩
  · obtain ⟨a, vs, e1, h1, r⟩ := hd.items (show d.items = some ds from e)
    exact ⟨a, vs, e1, h1.elim (fun z => .inl (L2.Same.seq s z)) fun z => .inr (Same.seqT s z), r⟩
  · rw [e2] at e
    cases ho with
    | lst h9 r => cases e; exact ⟨_, _, rfl, .inl (.inl (.inl h9)), r⟩
    | dK h9 r => cases e
    | dT h9 r => cases e
    | dX h9 r => cases e
    | ins c h r => cases e
    | pk h r => cases e
theorem XvR.scr {K : PySem.W.Frag} {mg : MG} {Pr F H : Hp} {v : V} {x : SV} {fp : List Addr} {ns : List Int} (p : Same Pr H) (s : Same F H) (h : XvR K mg Pr F H v x fp) (e : x.data = .scr ns) : ∃ a, v = .ref a ∧ SqL K H a (ns.map V.int) := by
  have r := h.rp s p
  rw [e] at r
  cases r with
  | scr h => exact ⟨_, rfl, h⟩
section
variable {X : Cx}
theorem ix_dict (hu : X.A.units + 65 < cLine) : IxR X (fun x y H Q => ∃ a v, x = .ref a ∧ DGA X.w H a y (some v) ∧ Q v H) := by
  intro value slice pins s σ H x y v u Q I rx ry h hs
  obtain ⟨a, w, rfl, g, q⟩ := h
  cases (show v = Value.ref a from rx)
  rcases g with g | g
  · exact tail_any (dict_typeIs I g) PySem.F.slot_dict_getitem.lookup (d_getItem (by omega) I g ry fun w' s' I' r => ⟨w, H, I', r, q⟩) hs
  · exact tail_any (dx_typeIs I g) PySem.F.slot_dict_getitem.lookup (dx_getItem hu I g ry fun w' s' I' r => ⟨w, H, I', r, q⟩) hs
theorem og_ix (hu : X.A.units + 65 < cLine) : OpG X (IxR X) gIx := by
  intro Pr F H x y v w fx fy z Q s p rx ry e k
  unfold gIx at e
  have fin : ∀ {d : D} {u : V}, z = .sh d → Rp X.K X.wg F u d → Q u H := fun ez r => by
    subst ez
    exact k F H _ [] (Grow.refl s) (.sh r) (by intro p hp; cases hp)
  split at e
  · rename_i t ps ex
    split at e
    · rename_i kk ek
      obtain ⟨a, o, ev, g, h⟩ := dget_of p s rx ry ex ek
      rcases h with ⟨e1, e2⟩ | ⟨u, d, e1, e2, r⟩
      · rw [e2] at e; cases e
      · rw [e2] at e
        cases e
        subst e1
        exact ⟨_, ix_dict hu, a, u, ev, g, fin rfl r⟩
    · cases e
  · rename_i zz ex
    split at e
    · rename_i i ey
      split at e
      · rename_i c
        cases ea : atI zz.cps.toList i with
        | none => rw [ea] at e; cases e
        | some cc =>
          rw [ea] at e
          cases e
          exact ⟨_, ix_str, zz, i, cc, rx.str ex, ry.int ey, c, ea, fin rfl (.str _)⟩
      · cases e
    · cases e
  · split at e
    · rename_i ds i ei ey
      cases ea : atI ds i with
      | none => rw [ea] at e; cases e
      | some d =>
        rw [ea] at e
        cases e
        obtain ⟨a, vs, ev, hs, r⟩ := rx.seq p s ei
        obtain ⟨u, eu, ru⟩ := r.atI ea
        rcases hs with hs | hs
        · exact ⟨_, ix_list, a, vs, i, u, ev, ry.int ey, hs, eu, fin rfl ru⟩
        · exact ⟨_, ix_tup, a, vs, i, u, ev, ry.int ey, hs, eu, fin rfl ru⟩
    · cases e
end

/-! ### slices -/
abbrev POs (X : Cx) (W : WX) (e : Option Expr) (m : M (Option Int)) : Prop := PO X e (T X.K X.wg relO W true m)
def oNone : M (Option Int) := fun ρ => .ok none ρ
def oSome (m : M SV) : M (Option Int) := fun ρ => (m ρ).bind fun x ρ1 => match x.data with
  | .int i => .ok (some i) ρ1 | _ => .bad
def cutD (xs : List D) (lo hi : Option Int) : List D := (xs.drop (HT.sIx xs.length 0 lo)).take (HT.sIx xs.length xs.length hi - HT.sIx xs.length 0 lo)
def gSl (x : SV) (lo hi : Option Int) : Option SV := match x.data with
  | .str z => if z.length ≤ sizeLine then some (.sh (.str (cutS z lo hi))) else none
  | .lst ds => some (.own (.lst (cutD ds lo hi)))
  | .scr ns => some (.own (.lst (cutD (ns.map .int) lo hi)))
  | .tup ds => some (.sh (.tup (cutD ds lo hi)))
  | _ => none
def slM (m : M SV) (lo hi : M (Option Int)) : M SV := fun ρ => (m ρ).bind fun x ρ1 => (lo ρ1).bind fun l ρ2 => (hi ρ2).bind fun h ρ3 => match gSl x l h with
  | some z => .ok z ρ3 | none => .bad
theorem Rps.cut {K : PySem.W.Frag} {mg : MG} {F : Hp} {vs : List V} {ds : List D} (h : Rps K mg F vs ds) (lo hi : Option Int) : Rps K mg F (cutV vs lo hi) (cutD ds lo hi) := by
  have dr : ∀ (n : Nat) (vs : List V) (ds : List D), Rps K mg F vs ds → Rps K mg F (vs.drop n) (ds.drop n) := by
    intro n
    induction n with
    | zero => intro vs ds h; exact h
    | succ n ih => intro vs ds h; cases h with | nil => exact .nil | cons h r => exact ih _ _ r
  have tk : ∀ (n : Nat) (vs : List V) (ds : List D), Rps K mg F vs ds → Rps K mg F (vs.take n) (ds.take n) := by
    intro n
    induction n with
    | zero => intro vs ds h; exact .nil
    | succ n ih => intro vs ds h; cases h with | nil => exact .nil | cons h r => exact .cons h (ih _ _ r)
  unfold cutV cutD
  rw [Rps.length h]
  exact tk _ _ _ (dr _ _ _ h)
theorem cutD_whole {ds : List D} {lo hi : Option Int} (h : HT.sIx ds.length 0 lo = 0 ∧ HT.sIx ds.length ds.length hi = ds.length) : cutD ds lo hi = ds := by
  unfold cutD
  rw [h.1, h.2]
  simp
section
variable {X : Cx} {W : WX} {q : Bool} {a : Expr} {m : M SV} {pos p2 : Pos} {lo hi : Option Expr} {ml mh : M (Option Int)}
theorem pos_none : POs X W none oNone := ⟨fun pins s σ H Q I ⟨G, F, ρ, ok, z⟩ => po_none.run pins s σ H Q I (z F H none [] (Same.refl F) (fun _ => Same.refl H) ok ⟨rfl, rfl⟩)⟩
theorem PO.imp {e : Option Expr} {t t' : TO} (h : PO X e t) (k : ∀ σ H Q, t' σ H Q → t σ H Q) : PO X e t' := ⟨fun pins s σ H Q I z => h.run pins s σ H Q I (k σ H Q z)⟩
theorem pos_some {e : Expr} (h : PX X W e true m) : POs X W (some e) (oSome m) := PO.imp (po_some h) fun σ H Q ⟨G, F, ρ, ok, z⟩ => by
  unfold oSome at z
  refine T.bind ok z fun x ρ1 F1 H1 v fp0 e1 s1 s2 k1 rx z => ?_
  cases ex : x.data with
  | int i =>
    rw [ex] at z
    exact ⟨i, rx.int ex, z F1 H1 (some i) [] s1 s2 k1.drop ⟨rfl, rfl⟩⟩
  | _ => rw [ex] at z; exact z.elim
theorem px_sl (ha : PX X W a q m) (hl : POs X W lo ml) (hh : POs X W hi mh) : PX X W (.Subscript a (.Slice lo hi none p2) pos) q (slM m ml mh) :=
  PE.imp (pe_slice (r := fun x l u H Q => rSlA X.K x l u H Q ∨ rSlL X.K x l u H Q ∨ rSlS x l u H Q) (sl_tupA.or (sl_list.or sl_str)) ha hl hh) fun σ H Q ⟨G, F, ρ, ok, z⟩ => by
    unfold slM at z
    refine T.bind ok z fun x ρ1 F1 H1 v fp0 e1 s1 s2 k1 rx z => ?_
    refine T.bind k1.drop (Post.adv s1 s2 z) fun l ρ2 F2 H2 lv fp2 e2 s3 s4 k2 rl z => ?_
    refine T.bind k2.drop (Post.adv s3 (fun _ => s4 rfl) z) fun u ρ3 F3 H3 uv fp3 e3 s5 s6 k3 ru z => ?_
    obtain ⟨rfl, rfl⟩ := rl
    obtain ⟨rfl, rfl⟩ := ru
    have rx3 := (rx.same s3 (s4 rfl)).same s5 (s6 rfl)
    cases eg : gSl x lv uv with
    | none => rw [eg] at z; exact z.elim
    | some zz =>
    rw [eg] at z
    have k : ∀ F' H' u fz, Grow F3 H3 F' H' → XvR X.K X.wg G.Pr F' H' u zz fz → (∀ p ∈ fz, F' p = none ∧ H3 p = none) → Q u H' := fun F' H' t fz gr rz nz =>
      z F' H' t fz (s5.trans gr.sub) (fun _ => (s6 rfl).trans gr.same) (Ok.growX k3 gr nz) rz
    unfold gSl at eg
    split at eg
    · rename_i z1 ex
      split at eg
      · rename_i c
        cases eg
        exact .inr (.inr ⟨z1, rx3.str ex, c, give rfl rfl k3.sub k⟩)
      · cases eg
    · rename_i ds ex
      cases eg
      obtain ⟨a, vs, ev, h, r⟩ := rx3.list k3.pr k3.sub ex
      exact .inr (.inl ⟨a, vs, ev, .inl (.inl h), give_lst rfl (r.cut lv uv) k3.sub k⟩)
    · rename_i ns ex
      cases eg
      obtain ⟨a, ev, h⟩ := rx3.scr k3.pr k3.sub ex
      exact .inr (.inl ⟨a, _, ev, h, give_lst rfl ((rps_ints ns).cut lv uv) k3.sub k⟩)
    · rename_i ds ex
      cases eg
      obtain ⟨rt, a, vs, ev, h, r⟩ := rx3.tup ex
      refine .inl ⟨a, vs, ev, .inl (.inl (k3.sub _ _ h)), fun hw => ?_, fun hw => give_tup rfl (r.cut lv uv) k3.sub k⟩
      rw [Rps.length r] at hw
      rw [cutD_whole hw] at k
      subst ev
      exact k F3 H3 _ [] (Grow.refl k3.sub) (.sh rt) (by intro p hp; cases hp)
    · cases eg
end
end R

/-! R3d: builtins by values. -/
namespace R
open PySem PySem.Spec PyProof.Rows L2
section
variable {X : Cx}
theorem xs1 {K : PySem.W.Frag} {mg : MG} {Pr F H : Hp} {vs : List V} {x : SV} (h : XsR K mg Pr F H vs [x]) : ∃ v, vs = [v] ∧ XvR K mg Pr F H v x [] := by
  cases h with | cons h r => cases r; exact ⟨_, rfl, h⟩
theorem xs2 {K : PySem.W.Frag} {mg : MG} {Pr F H : Hp} {vs : List V} {x y : SV} (h : XsR K mg Pr F H vs [x, y]) : ∃ v w, vs = [v, w] ∧ XvR K mg Pr F H v x [] ∧ XvR K mg Pr F H w y [] := by
  cases h with | cons h r => cases r with | cons h2 r => cases r; exact ⟨_, _, rfl, h, h2⟩
def un1 (f : SV → Option SV) : List SV → Option SV
  | [x] => f x | _ => none
def un2 (f : SV → SV → Option SV) : List SV → Option SV
  | [x, y] => f x y | _ => none
theorem cg1 {P : (List V → Hp → VK → Prop) → Prop} {f : SV → Option SV} (h : ∀ (Pr F H : Hp) (x : SV) (v : V) (z : SV) (Q : VK), Same F H → Same Pr H → XvR X.K X.wg Pr F H v x [] → f x = some z →
    (∀ F' H' u fz, Grow F H F' H' → XvR X.K X.wg Pr F' H' u z fz → (∀ p ∈ fz, F' p = none ∧ H p = none) → Q u H') → ∃ r, P r ∧ r [v] H Q) : CallG X P (un1 f) := by
  intro Pr F H xs vs z Q s p r e k
  cases r with
  | nil => cases e
  | cons h1 r =>
    cases r with
    | nil => exact h Pr F H _ _ z Q s p h1 e k
    | cons h2 r => cases e
theorem cg2 {P : (List V → Hp → VK → Prop) → Prop} {f : SV → SV → Option SV} (h : ∀ (Pr F H : Hp) (x y : SV) (v w : V) (z : SV) (Q : VK), Same F H → Same Pr H → XvR X.K X.wg Pr F H v x [] → XvR X.K X.wg Pr F H w y [] → f x y = some z →
    (∀ F' H' u fz, Grow F H F' H' → XvR X.K X.wg Pr F' H' u z fz → (∀ p ∈ fz, F' p = none ∧ H p = none) → Q u H') → ∃ r, P r ∧ r [v, w] H Q) : CallG X P (un2 f) := by
  intro Pr F H xs vs z Q s p r e k
  cases r with
  | nil => cases e
  | cons h1 r =>
    cases r with
    | nil => cases e
    | cons h2 r =>
      cases r with
      | nil => exact h Pr F H _ _ _ _ z Q s p h1 h2 e k
      | cons h3 r => cases e
def gLen1 (x : SV) : Option SV := match x.data with
    | .str z => if z.length ≤ sizeLine then some (.sh (.int z.length)) else none
    | .dic t ps => if t = 0 then some (.sh (.int ps.length)) else none
    | _ => x.data.items.map fun ds => .sh (.int ds.length)
abbrev gLen := un1 gLen1
theorem call_len_dK : CallR X (.builtin "len") (fun xs H Q => ∃ a kvs, xs = [.ref a] ∧ H a = some (.dK kvs) ∧ Q (.int (kvs : List (Key × V)).length) H) := by
  intro pins s σ H xs us Q I r h
  obtain ⟨a, kvs, rfl, hd, q⟩ := h
  obtain ⟨u, rfl, ru⟩ := vals1 r
  cases (show u = Value.ref a from ru)
  exact d_len I (.inl hd) fun t s' I' => ⟨.int _, H, I', ⟨_, rfl⟩, q⟩
theorem cg_len : CallG X (CallR X (.builtin "len")) gLen := by
  refine cg1 fun Pr F H x v z Q s p rx e k => ?_
  unfold gLen1 at e
  split at e
  · rename_i a ex
    split at e
    · rename_i c
      cases e
      exact ⟨_, call_len_str, a, by rw [rx.str ex], c, give rfl rfl s k⟩
    · cases e
  · rename_i t ps ex
    split at e
    · rename_i c
      cases e
      obtain ⟨a, hv, h⟩ := rx.dict p s ex
      subst hv
      rcases h with ⟨_, kvs, h, r⟩ | ⟨c2, _⟩ | ⟨c2, _⟩
      · exact ⟨_, call_len_dK, a, kvs, rfl, h, by rw [r.length]; exact give rfl rfl s k⟩
      · rw [c] at c2; cases c2
      · rw [c] at c2; cases c2
    · cases e
  · cases ei : x.data.items with
    | none => rw [ei] at e; cases e
    | some ds =>
      rw [ei] at e
      cases e
      obtain ⟨a, ws, rfl, hs, rs⟩ := rx.seq p s ei
      exact ⟨_, call_len_seq, a, ws, rfl, hs, by rw [Rps.length rs]; exact give rfl rfl s k⟩
def gInt11 (x : SV) : Option SV := match x.data with
    | .int i => some (.sh (.int i)) | .bl b => some (.sh (.int (if b = true then 1 else 0))) | _ => none
abbrev gInt1 := un1 gInt11
theorem cg_int : CallG X (CallR X (.type "int")) gInt1 := by
  refine cg1 fun Pr F H x v z Q s p rx e k => ?_
  unfold gInt11 at e
  split at e
  · rename_i i ex
    cases e
    exact ⟨_, call_int1, .inl ⟨i, by rw [rx.int ex], give rfl rfl s k⟩⟩
  · rename_i b ex
    cases e
    exact ⟨_, call_int1, .inr ⟨b, by rw [rx.bl ex], give rfl rfl s k⟩⟩
  · cases e
def gMax21 (x : SV) (y : SV) : Option SV := match x.data, y.data with
    | .int i, .int j => some (.sh (.int (if j > i then j else i))) | _, _ => none
abbrev gMax2 := un2 gMax21
def gMin21 (x : SV) (y : SV) : Option SV := match x.data, y.data with
    | .int i, .int j => some (.sh (.int (if j < i then j else i))) | _, _ => none
abbrev gMin2 := un2 gMin21
theorem cg_max2 (hc : X.calm = true) : CallG X (CallR X (.builtin "max")) gMax2 := by
  refine cg2 fun Pr F H x y v w z Q s p rx ry e k => ?_
  unfold gMax21 at e
  split at e
  · rename_i i j ex ey
    cases e
    exact ⟨_, call_max2 hc, i, j, by rw [rx.int ex, ry.int ey], give rfl rfl s k⟩
  · cases e
theorem cg_min2 (hc : X.calm = true) : CallG X (CallR X (.builtin "min")) gMin2 := by
  refine cg2 fun Pr F H x y v w z Q s p rx ry e k => ?_
  unfold gMin21 at e
  split at e
  · rename_i i j ex ey
    cases e
    exact ⟨_, call_min2 hc, i, j, by rw [rx.int ex, ry.int ey], give rfl rfl s k⟩
  · cases e
def gAbs1 (x : SV) : Option SV := match x.data with
    | .int i => some (.sh (.int (if i < 0 then -i else i))) | _ => none
abbrev gAbs := un1 gAbs1
theorem cg_abs : CallG X (CallR X (.builtin "abs")) gAbs := by
  refine cg1 fun Pr F H x v z Q s p rx e k => ?_
  unfold gAbs1 at e
  split at e
  · rename_i i ex
    cases e
    exact ⟨_, call_abs, i, by rw [rx.int ex], give rfl rfl s k⟩
  · cases e
def gStr11 (x : SV) : Option SV := match x.data with
    | .int i => if i.natAbs.log2 < 1920 then some (.sh (.str (toString i))) else none
    | .str a => some (.sh (.str a)) | _ => none
abbrev gStr1 := un1 gStr11
theorem cg_str : CallG X (CallR X (.type "str")) gStr1 := by
  refine cg1 fun Pr F H x v z Q s p rx e k => ?_
  unfold gStr11 at e
  split at e
  · rename_i i ex
    split at e
    · rename_i c
      cases e
      exact ⟨_, call_str_int, i, by rw [rx.int ex], c, give rfl rfl s k⟩
    · cases e
  · rename_i i ex
    cases e
    exact ⟨_, SkE.call_str_str, i, by rw [rx.str ex], give rfl rfl s k⟩
  · cases e
def gList11 (x : SV) : Option SV := x.data.items.map fun ds => .own (.lst ds)
abbrev gList1 := un1 gList11
theorem cg_list : CallG X (CallR X (.type "list")) gList1 := by
  refine cg1 fun Pr F H x v z Q s p rx e k => ?_
  unfold gList11 at e
  cases ei : x.data.items with
  | none => rw [ei] at e; cases e
  | some ds =>
    rw [ei] at e
    cases e
    obtain ⟨a, ws, rfl, hs, rs⟩ := rx.seq p s ei
    exact ⟨_, call_list_of, a, ws, rfl, hs, give_lst rfl rs s k⟩
def gTuple11 (x : SV) : Option SV := match x.data with
    | .tup ds => some (.sh (.tup ds))
    | .lst ds => some (.sh (.tup ds))
    | _ => none
abbrev gTuple1 := un1 gTuple11
theorem cg_tuple : CallG X (CallR X (.type "tuple")) gTuple1 := by
  refine cg1 fun Pr F H x v z Q s p rx e k => ?_
  unfold gTuple11 at e
  split at e
  · rename_i ds ex
    cases e
    obtain ⟨rt, a, ws, rfl, h, rs⟩ := rx.tup ex
    exact ⟨_, call_tuple_of, a, ws, rfl, .inr ⟨.inl (.inl (s _ _ h)), k F H _ [] (Grow.refl s) (.sh rt) (by intro p hp; cases hp)⟩⟩
  · rename_i ds ex
    cases e
    obtain ⟨a, ws, rfl, h, rs⟩ := rx.list p s ex
    exact ⟨_, call_tuple_of, a, ws, rfl, .inl ⟨.inl (.inl h), give_tup rfl rs s k⟩⟩
  · cases e
/-! isinstance of a built-in class -/
def D.tyName : D → Option String
  | .non => some "NoneType" | .bl _ => some "bool" | .int _ => some "int" | .str _ => some "str" | .tup _ => some "tuple" | .lst _ => some "list" | .dic t _ => if t = 2 then none else some "dict" | _ => none
def gIsi1 (x : SV) (y : SV) : Option SV := match x.data.tyName, y.data with
    | some t, .ty n => (kitB t n).map fun b => .sh (.bl b)
    | _, _ => none
abbrev gIsi := un2 gIsi1
theorem Rp.tyx {K : PySem.W.Frag} {mg : MG} {H : Hp} {v : V} {d : D} {t : String} (h : Rp K mg H v d) (e : d.tyName = some t) : TyX K H v (.type t) := by
  cases h with
  | non => cases e; exact .base .non
  | bl b => cases e; exact .base (.bl b)
  | int i => cases e; exact .base (.int i)
  | str x => cases e; exact .base (.str x)
  | tup h r => cases e; exact .base (.tup h)
  | lst h r => cases e; exact .base (.lst h)
  | dK h r => cases e; exact .base (.dK h)
  | dT h r => cases e; exact .base (.dT h)
  | _ => cases e
theorem cg_isi : CallG X (CallR X (.builtin "isinstance")) gIsi := by
  refine cg2 fun Pr F H x y v w z Q s p rx ry e k => ?_
  unfold gIsi1 at e
  split at e
  · rename_i t n et ey
    cases eb : kitB t n with
    | none => rw [eb] at e; cases e
    | some b =>
      rw [eb] at e
      cases e
      have hw : w = .ty n := by
        have q := ry.rp s p
        rw [ey] at q
        cases q
        rfl
      subst hw
      exact ⟨_, call_isi, v, .ty n, .type t, .type n, b, rfl, .ty n, (rx.rp s p).tyx et, kit_ty eb, give rfl rfl s k⟩
  · cases e
end
end R

/-! R4: statements, loops, comprehensions. -/
namespace R
open PySem PySem.Spec PyProof.Rows L2

/-- how a statement ends -/
inductive Out where
  | nx (ρ : Nv) | rt (x : SV) (ρ : Nv) | bk (ρ : Nv) | ct (ρ : Nv) | exc (e : Ex) (ρ : Nv) | bad
abbrev MS := Nv → Out
def Res.bindS {A : Type} (r : Res Nv A) (f : A → Nv → Out) : Out :=
  match r with
  | .ok a ρ => f a ρ | .exc e ρ => .exc e ρ | .bad => .bad
/-- the loop's turn goes on, or it is left -/
def Out.turn (o : Out) (f : Nv → Out) : Out := match o with
  | .nx ρ => f ρ | .ct ρ => f ρ | .bk ρ => .nx ρ | .rt x ρ => .rt x ρ | .exc e ρ => .exc e ρ | .bad => .bad
section
variable (K : PySem.W.Frag) (mg : MG) (W : WX)
def PostS (G : Gh) (F : Hp) (D : Ends) : Out → Prop
  | .nx ρ' => ∀ F' H' σ', Same F F' → Ok K mg G F' H' σ' ρ' → D.nx σ' H'
  | .rt x ρ' => ∀ F' H' σ' v fp0, Same F F' → OkX K mg G F' H' σ' ρ' fp0 → XvR K mg G.Pr F' H' v x fp0 → D.rt v H'
  | .bk ρ' => ∀ F' H' σ', Same F F' → Ok K mg G F' H' σ' ρ' → D.bk σ' H'
  | .ct ρ' => ∀ F' H' σ', Same F F' → Ok K mg G F' H' σ' ρ' → D.ct σ' H'
  | .exc e ρ' => ∀ F' H' σ' c d, Same F F' → Ok K mg G F' H' σ' ρ' → ExR K mg F' H' c d e → W c d σ' H'
  | .bad => False
def TSt (ms : MS) : TS := fun D σ H => ∃ G F ρ, Ok K mg G F H σ ρ ∧ PostS K mg W G F D (ms ρ)
end
abbrev PSt (X : Cx) (W : WX) (st : Stmt) (ms : MS) : Prop := PS X st (TSt X.K X.wg W ms)
abbrev PSts (X : Cx) (W : WX) (sts : List Stmt) (ms : MS) : Prop := PSs X sts (TSt X.K X.wg W ms)
/-! the mirrors -/
def nxS : MS := fun ρ => .nx ρ
def bkS : MS := fun ρ => .bk ρ
def ctS : MS := fun ρ => .ct ρ
def seqS (a b : MS) : MS := fun ρ => match a ρ with | .nx ρ1 => b ρ1 | .rt x ρ1 => .rt x ρ1 | .bk ρ1 => .bk ρ1 | .ct ρ1 => .ct ρ1 | .exc e ρ1 => .exc e ρ1 | .bad => .bad
def ifS (t : M Bool) (a b : MS) : MS := fun ρ => (t ρ).bindS fun c ρ1 => if c = true then a ρ1 else b ρ1
def SV.ret : SV → Bool
  | .sh _ => true | .own _ => true | _ => false
def retS (m : M SV) : MS := fun ρ => (m ρ).bindS fun x ρ1 => if x.ret = true then .rt x ρ1 else .bad
def retN : MS := fun ρ => .rt (.sh .non) ρ
def exprS (m : M SV) : MS := fun ρ => (m ρ).bindS fun _ ρ1 => .nx ρ1
def setS (i : Nat) (m : M SV) : MS := fun ρ => (m ρ).bindS fun x ρ1 => if x.ret = true ∧ i < ρ1.length then .nx (ρ1.set i (some x)) else .bad
/-- x op= e at a name that holds data -/
def augS (i : Nat) (g : SV → SV → Option SV) (m : M SV) : MS := fun ρ => match ρ[i]? with
  | some (some (.sh d)) => (m ρ).bindS fun y ρ1 => match g (.sh d) y with
      | some z => if z.ret = true ∧ i < ρ1.length then .nx (ρ1.set i (some z)) else .bad
      | none => .bad
  | _ => .bad

section
variable {K : PySem.W.Frag} {mg : MG} {W : WX} {G : Gh} {F F1 H H1 : Hp} {σ σ1 : St} {ρ : Nv} {D D' : Ends} {o : Out}
theorem PostS.adv (s : Same F F1) (h : PostS K mg W G F D o) : PostS K mg W G F1 D o := by
  cases o with
  | nx ρ' => exact fun F' H' σ' a b => h F' H' σ' (s.trans a) b
  | rt x ρ' => exact fun F' H' σ' v fp a b c => h F' H' σ' v fp (s.trans a) b c
  | bk ρ' => exact fun F' H' σ' a b => h F' H' σ' (s.trans a) b
  | ct ρ' => exact fun F' H' σ' a b => h F' H' σ' (s.trans a) b
  | exc e ρ' => exact fun F' H' σ' c d a b => h F' H' σ' c d (s.trans a) b
  | bad => exact h
/-- an expression, then a statement's end -/
theorem T.bindS {A B : Type} {rel : Rel A B} {q : Bool} {m : M A} {f : A → Nv → Out} {Q1 : B → Hp → Prop} (ok : Ok K mg G F H σ ρ)
    (h : PostS K mg W G F D ((m ρ).bindS f))
    (k : ∀ x ρ1 F1 H1 v fp0, m ρ = .ok x ρ1 → Same F F1 → (q = true → Same H H1) → OkX K mg G F1 H1 σ ρ1 fp0 → rel G F1 H1 v x fp0 → PostS K mg W G F1 D (f x ρ1) → Q1 v H1) : T K mg rel W q m σ H Q1 := by
  refine ⟨G, F, ρ, ok, ?_⟩
  cases e : m ρ with
  | ok x ρ1 =>
    rw [e] at h
    exact fun F1 H1 v fp0 a b c d => k x ρ1 F1 H1 v fp0 e a b c d (PostS.adv a h)
  | exc e ρ1 =>
    rw [e] at h
    exact fun F' H' c d a b z => h F' H' σ c d a b z
  | bad =>
    rw [e] at h
    exact h
end
section
variable {X : Cx} {W : WX} {q : Bool} {st : Stmt} {rest : List Stmt} {a b ms : MS} {e c : Expr} {m : M SV} {t : M Bool} {pos : Pos} {sa sb : List Stmt}
theorem sts_nil : PSts X W [] nxS := PSs.imp pss_nil fun D σ H ⟨G, F, ρ, ok, z⟩ => z F H σ (Same.refl F) ok
theorem sts_cons (h1 : PSt X W st a) (h2 : PSts X W rest b) : PSts X W (st :: rest) (seqS a b) := PSs.imp (pss_cons h1 h2) fun D σ H ⟨G, F, ρ, ok, z⟩ => by
  refine ⟨G, F, ρ, ok, ?_⟩
  unfold seqS at z
  cases ea : a ρ with
  | nx ρ1 => rw [ea] at z; exact fun F' H' σ' s k => ⟨G, F', ρ1, k, PostS.adv s z⟩
  | rt x ρ1 => rw [ea] at z; exact z
  | bk ρ1 => rw [ea] at z; exact z
  | ct ρ1 => rw [ea] at z; exact z
  | exc e ρ1 => rw [ea] at z; exact z
  | bad => rw [ea] at z; exact z
theorem sts_one (h1 : PSt X W st a) : PSts X W [st] a := pss_one h1
theorem st_pass : PSt X W (.Pass pos) nxS := PS.imp ps_pass fun D σ H ⟨G, F, ρ, ok, z⟩ => z F H σ (Same.refl F) ok
theorem st_doc {x j pos'} : PSt X W (.Expr (.Constant (.str x) j pos) pos') nxS := PS.imp ps_doc fun D σ H ⟨G, F, ρ, ok, z⟩ => z F H σ (Same.refl F) ok
theorem st_break : PSt X W (.Break pos) bkS := PS.imp ps_break fun D σ H ⟨G, F, ρ, ok, z⟩ => z F H σ (Same.refl F) ok
theorem st_cont : PSt X W (.Continue pos) ctS := PS.imp ps_continue fun D σ H ⟨G, F, ρ, ok, z⟩ => z F H σ (Same.refl F) ok
/-- a statement that is never come to -/
theorem st_never : PSt X W st (fun _ => .bad) := PS.imp ps_never fun D σ H ⟨G, F, ρ, ok, z⟩ => z.elim
theorem st_if (hc : PB X W c q t) (ha : PSts X W sa a) (hb : PSts X W sb b) : PSt X W (.If c sa sb pos) (ifS t a b) := PS.imp (ps_if hc ha hb) fun D σ H ⟨G, F, ρ, ok, z⟩ => by
  unfold ifS at z
  refine T.bindS ok z fun x ρ1 F1 H1 v fp0 e1 s1 s2 k1 r z => ?_
  obtain ⟨rfl, rfl⟩ := r
  by_cases c : v = true
  · rw [if_pos c] at z ⊢; exact ⟨G, F1, ρ1, k1, z⟩
  · rw [if_neg c] at z ⊢; exact ⟨G, F1, ρ1, k1, z⟩
theorem st_ret (h : PX X W e q m) : PSt X W (.Return (some e) pos) (retS m) := PS.imp (ps_ret h) fun D σ H ⟨G, F, ρ, ok, z⟩ => by
  unfold retS at z
  refine T.bindS ok z fun x ρ1 F1 H1 v fp0 e1 s1 s2 k1 r z => ?_
  by_cases c : x.ret = true
  · rw [if_pos c] at z; exact z F1 H1 σ v fp0 (Same.refl F1) k1 r
  · rw [if_neg c] at z; exact z.elim
theorem st_retN : PSt X W (.Return none pos) retN := PS.imp ps_retN fun D σ H ⟨G, F, ρ, ok, z⟩ => z F H σ .non [] (Same.refl F) ok (.sh .non)
theorem st_expr (h : PX X W e q m) (hs : swapsWith e none pos.line X.env = pure false := by rfl) : PSt X W (.Expr e pos) (exprS m) := PS.imp (ps_expr h hs) fun D σ H ⟨G, F, ρ, ok, z⟩ => by
  unfold exprS at z
  refine T.bindS ok z fun x ρ1 F1 H1 v fp0 e1 s1 s2 k1 r z => ?_
  exact z F1 H1 σ (Same.refl F1) k1.drop
theorem XvR.sv {K : PySem.W.Frag} {mg : MG} {Pr F H : Hp} {v : V} {x : SV} {fp : List Addr} (h : XvR K mg Pr F H v x fp) (c : x.ret = true) : SvR K mg Pr F H v x fp ∧ fp.Nodup ∧ ∀ o, x ≠ .io o ∧ x ≠ .bo o := by
  cases h with
  | sh h => exact ⟨.sh h, List.nodup_nil, fun o => ⟨(fun z => by cases z), (fun z => by cases z)⟩⟩
  | own h n => exact ⟨.own h, n, fun o => ⟨(fun z => by cases z), (fun z => by cases z)⟩⟩
  | bo h => cases c
  | tr h => cases c
theorem st_set {i : Nat} {x : Str} {pos' : Pos} (hN : X.N.Nodup) (hi : X.N[i]? = some x) (hx : Loc X.env.scope x) (h : PX X W e q m) (hs : swapsWith e (some (.Name x pos')) pos.line X.env = pure false := by rfl) (hf : X.fn x = true ∨ X.env.scope.names.lookup x = some .local := by first | exact .inl rfl | exact .inr rfl | assumption) :
    PSt X W (.Assign [.Name x pos'] e pos) (setS i m) := PS.imp (ps_set hN hi hx h hs hf) fun D σ H ⟨G, F, ρ, ok, z⟩ => by
  unfold setS at z
  refine T.bindS ok z fun x ρ1 F1 H1 v fp0 e1 s1 s2 k1 r z => ?_
  by_cases c : x.ret = true ∧ i < ρ1.length
  · rw [if_pos c] at z
    obtain ⟨r2, nd, nx⟩ := XvR.sv r c.1
    exact z F1 H1 _ (Same.refl F1) (OkX.set k1 c.2 r2 nd nx)
  · rw [if_neg c] at z; exact z.elim
theorem PIp.any {op : Operator} : PIp X op (anyR (OpR X (inplaceOp op))) := fun pins s σ H x y v u Q I rx ry ⟨_, hr, h⟩ => hr pins s σ H x y v u Q I rx ry h
theorem st_aug {i : Nat} {x : Str} {op : Operator} {g : SV → SV → Option SV} {pos' : Pos} (hN : X.N.Nodup) (hi : X.N[i]? = some x) (hx : Loc X.env.scope x) (hg : OpG X (OpR X (inplaceOp op)) g) (h : PX X W e q m) (hf : X.fn x = true ∨ X.env.scope.names.lookup x = some .local := by first | exact .inl rfl | exact .inr rfl | assumption) :
    PSt X W (.AugAssign (.Name x pos') op e pos) (augS i g m) := PS.imp (ps_aug hN hi hx h PIp.any hf) fun D σ H ⟨G, F, ρ, ok, z⟩ => by
  unfold augS at z
  cases hp : ρ[i]? with
  | none => rw [hp] at z; exact z.elim
  | some s =>
    cases s with
    | none => rw [hp] at z; exact z.elim
    | some s =>
      cases s with
      | sh d =>
        rw [hp] at z
        obtain ⟨v, fp, ev, r⟩ := ok.slot hp
        cases r with
        | sh rd =>
        refine ⟨v, ev, ?_⟩
        refine T.bindS ok z fun y ρ1 F1 H1 w fp0 e1 s1 s2 k1 r z => ?_
        cases eg : g (.sh d) y with
        | none => rw [eg] at z; exact z.elim
        | some u =>
          rw [eg] at z
          have z : PostS X.K X.wg W G F1 D (if u.ret = true ∧ i < ρ1.length then .nx (ρ1.set i (some u)) else .bad) := z
          by_cases c : u.ret = true ∧ i < ρ1.length
          · rw [if_pos c] at z
            refine hg G.Pr F1 H1 (.sh d) y v w [] fp0 u _ k1.sub k1.pr (.sh (rd.mono s1)) r eg fun F' H' t fz gr rz nz => ?_
            obtain ⟨r2, nd, nx⟩ := XvR.sv rz c.1
            exact z F' H' _ gr.sub (OkX.set (Ok.growX k1.drop gr nz) c.2 r2 nd nx)
          · rw [if_neg c] at z; exact z.elim
      | own o => rw [hp] at z; exact z.elim
      | io o => rw [hp] at z; exact z.elim
      | bo o => rw [hp] at z; exact z.elim
      | tr o => rw [hp] at z; exact z.elim
theorem og_iadd : OpG X (OpR X (inplaceOp .Add)) (gInt (fun _ _ => true) fun i j => i + j) := by
  intro Pr F H x y v w fx fy z Q s p rx ry e k
  unfold gInt at e
  split at e
  · rename_i i j ex ey
    rw [if_pos rfl] at e
    cases e
    exact ⟨_, iop_add, i, j, rx.int ex, ry.int ey, give rfl rfl s k⟩
  · cases e
end

/-! ### targets -/
inductive Tg where
  | nm (i : Nat) | tp (ts : List Tg)
mutual
def Tg.slots : Tg → List Nat
  | .nm i => [i]
  | .tp ts => Tg.slotsL ts
def Tg.slotsL : List Tg → List Nat
  | [] => []
  | t :: ts => t.slots ++ Tg.slotsL ts
end
mutual
def Tg.put : Tg → D → Nv → Option Nv
  | .nm i, d, ρ => if i < ρ.length then some (ρ.set i (some (.sh d))) else none
  | .tp ts, d, ρ => match d with
    | .tup ds => Tg.putL ts ds ρ
    | _ => none
def Tg.putL : List Tg → List D → Nv → Option Nv
  | [], [], ρ => some ρ
  | t :: ts, d :: ds, ρ => match t.put d ρ with
    | some ρ1 => Tg.putL ts ds ρ1
    | none => none
  | _, _, _ => none
end
section
variable (K : PySem.W.Frag) (mg : MG)
def TGm (sl : List Nat) (t : D → Nv → Option Nv) : TG := fun v σ H Q => ∃ G F ρ d ρ', Ok K mg G F H σ ρ ∧ Rp K mg F v d ∧ t d ρ = some ρ' ∧ ∀ σ', Ok K mg G F H σ' ρ' → (∀ j, j ∉ sl → σ'[j]? = σ[j]?) → Q σ' H
def TGms (sl : List Nat) (t : List D → Nv → Option Nv) : TGs := fun vs σ H Q => ∃ G F ρ ds ρ', Ok K mg G F H σ ρ ∧ Rps K mg F vs ds ∧ t ds ρ = some ρ' ∧ ∀ σ', Ok K mg G F H σ' ρ' → (∀ j, j ∉ sl → σ'[j]? = σ[j]?) → Q σ' H
end
abbrev PGt (X : Cx) (e : Expr) (t : Tg) : Prop := PG X e (TGm X.K X.wg t.slots t.put)
abbrev PGts (X : Cx) (es : List Expr) (ts : List Tg) : Prop := PGs X es (TGms X.K X.wg (Tg.slotsL ts) (Tg.putL ts))
section
variable {X : Cx} {W : WX} {q : Bool} {e : Expr} {es : List Expr} {t : Tg} {ts : List Tg} {m : M SV} {pos : Pos}
theorem PG.imp {t t' : TG} (h : PG X e t) (k : ∀ v σ H Q, t' v σ H Q → t v σ H Q) : PG X e t' := ⟨fun pins s σ H v u Q I r z => h.run pins s σ H v u Q I r (k v σ H Q z)⟩
theorem PGs.imp {t t' : TGs} (h : PGs X es t) (k : ∀ v σ H Q, t' v σ H Q → t v σ H Q) : PGs X es t' := ⟨fun pins s σ H v u Q I r z => h.run pins s σ H v u Q I r (k v σ H Q z)⟩
theorem tg_name {i : Nat} {x : Str} (hN : X.N.Nodup) (hi : X.N[i]? = some x) (hx : Loc X.env.scope x) (hf : X.fn x = true ∨ X.env.scope.names.lookup x = some .local := by first | exact .inl rfl | exact .inr rfl | assumption) : PGt X (.Name x pos) (.nm i) :=
  PG.imp (pg_name hN hi hx hf) fun v σ H Q ⟨G, F, ρ, d, ρ', ok, r, e, z⟩ => by
    unfold Tg.put at e
    by_cases c : i < ρ.length
    · rw [if_pos c] at e
      cases e
      refine z _ (OkX.set ok c (.sh r) List.nodup_nil fun o => ⟨(fun z => by cases z), (fun z => by cases z)⟩) fun j hj => ?_
      unfold Tg.slots at hj
      rw [List.getElem?_set_ne]
      intro c; subst c; exact hj (by simp)
    · rw [if_neg c] at e; cases e
theorem tgs_nil : PGts X [] [] := PGs.imp pgs_nil fun v σ H Q ⟨G, F, ρ, ds, ρ', ok, r, e, z⟩ => by
  cases r with
  | nil => unfold Tg.putL at e; cases e; exact ⟨rfl, z σ ok fun _ _ => rfl⟩
  | cons h r => unfold Tg.putL at e; cases e
theorem tgs_cons (h1 : PGt X e t) (h2 : PGts X es ts) (hs : (assignEach (e :: es) X.env).map (·.2) = assign e X.env :: (assignEach es X.env).map (·.2) := by rfl) : PGts X (e :: es) (t :: ts) :=
  PGs.imp (pgs_cons h1 h2 hs) fun v σ H Q ⟨G, F, ρ, ds, ρ', ok, r, e, z⟩ => by
    cases r with
    | nil => unfold Tg.putL at e; cases e
    | @cons v1 vs d ds h r =>
      unfold Tg.putL at e
      cases e1 : t.put d ρ with
      | none => rw [e1] at e; cases e
      | some ρ1 =>
        rw [e1] at e
        refine ⟨v1, vs, rfl, G, F, ρ, d, ρ1, ok, h, e1, fun σ1 k1 s1 => ⟨G, F, ρ1, ds, ρ', k1, r, e, fun σ2 k2 s2 => z σ2 k2 fun j hj => ?_⟩⟩
        unfold Tg.slotsL at hj
        rw [List.mem_append, not_or] at hj
        exact (s2 j hj.2).trans (s1 j hj.1)
theorem putL_length : ∀ {ts : List Tg} {ds : List D} {ρ ρ' : Nv}, Tg.putL ts ds ρ = some ρ' → ts.length = ds.length
  | [], [], _, _, _ => rfl
  | [], _ :: _, _, _, e => by unfold Tg.putL at e; cases e
  | _ :: _, [], _, _, e => by unfold Tg.putL at e; cases e
  | t :: ts, d :: ds, ρ, ρ', e => by
    unfold Tg.putL at e
    cases e1 : t.put d ρ with
    | none => rw [e1] at e; cases e
    | some ρ1 => rw [e1] at e; rw [List.length_cons, List.length_cons, putL_length e]
theorem tg_tup {k : Nat} (hc : X.calm = true) (h : PGts X es ts) (hn : (assignEach es X.env).length = ts.length := by rfl) (hst : (assignEach es X.env).findIdx? (·.1) = none := by rfl) : PGt X (.Tuple es k pos) (.tp ts) :=
  PG.imp (pg_tup hc h hn hst) fun v σ H Q ⟨G, F, ρ, d, ρ', ok, r, e, z⟩ => by
    unfold Tg.put at e
    cases r with
    | @tup a vs ds h r =>
      refine ⟨a, vs, rfl, .inl (.inl (ok.sub _ _ h)), ?_, G, F, ρ, ds, ρ', ok, r, e, z⟩
      rw [Rps.length r]; exact (putL_length e).symm
    | _ => cases e
/-- a, b = e -/
def unpS (t : Tg) (m : M SV) : MS := fun ρ => (m ρ).bindS fun x ρ1 => match x with
    | .sh d => match t.put d ρ1 with
      | some ρ2 => .nx ρ2 | none => .bad
    | _ => .bad
theorem st_unp {tg : Expr} (hg : PGt X tg t) (h : PX X W e q m) (hs : swapsWithSole [tg] e pos.line X.env = pure false := by rfl) (hw : swappedStores [tg] e X.env = pure none := by rfl)
    (h1 : (assignEach [tg] X.env).map (·.2) = [assign tg X.env] := by rfl) : PSt X W (.Assign [tg] e pos) (unpS t m) := PS.imp (ps_asg h hg hs hw h1) fun D σ H ⟨G, F, ρ, ok, z⟩ => by
  unfold unpS at z
  refine T.bindS ok z fun x ρ1 F1 H1 v fp0 e1 s1 s2 k1 r z => ?_
  cases r with
  | @sh d r =>
    have z : PostS X.K X.wg W G F1 D (match t.put d ρ1 with | some ρ2 => .nx ρ2 | none => .bad) := z
    cases e2 : t.put d ρ1 with
    | none => rw [e2] at z; exact z.elim
    | some ρ2 =>
      rw [e2] at z
      exact ⟨G, F1, ρ1, d, ρ2, k1, r, e2, fun σ' k _ => z F1 H1 σ' (Same.refl F1) k⟩
  | own r n => exact z.elim
  | bo r => exact z.elim
  | tr r => exact z.elim
end

/-! ### what is walked -/
section
variable (K : PySem.W.Frag) (mg : MG)
/-- where S holds, J walks the data ds -/
structure ItR (S : Hp → Hp → Prop) (J : It) (ds : List D) : Prop where
  go : ∀ i F H, S F H → i < ds.length → J.go i H
  yld : ∀ i F H x H' d, S F H → ds[i]? = some d → J.yld i H x H' → ∃ F', Grow F H F' H' ∧ Rp K mg F' x d
  stop : ∀ F H, S F H → J.stop ds.length H
/-- qs: only while the heap grows -/
def relI (qs : Bool) : Rel (List D) It := fun G F H J ds fp => fp = [] ∧ ItR K mg (fun F' H' => Same F F' ∧ Same F' H' ∧ Same G.Pr H' ∧ (qs = true → Same H H')) J ds
end
abbrev PIt (X : Cx) (W : WX) (tg e : Expr) (q qs : Bool) (m : M (List D)) : Prop := PI X tg e (T X.K X.wg (relI X.K X.wg qs) W q m)
/-! for -/
def forL (t : Tg) (b : MS) : List D → MS
  | [], ρ => .nx ρ
  | d :: ds, ρ => match t.put d ρ with
    | some ρ1 => (b ρ1).turn fun ρ2 => forL t b ds ρ2
    | none => .bad
def forS (t : Tg) (m : M (List D)) (b : MS) : MS := fun ρ => (m ρ).bindS fun ds ρ1 => forL t b ds ρ1
section
variable {X : Cx} {W : WX} {q : Bool} {tg iter : Expr} {body : List Stmt} {t : Tg} {m : M (List D)} {b : MS} {pos : Pos}
theorem st_for (hp : PassesOwn (model X.prog X.w) X.A X.env X.xe) (hc : X.calm = true) (hi : PIt X W tg iter q false m) (hg : PGt X tg t) (hb : PSts X W body b)
    (hs : ∀ x, foldedSetIterable iter X.env x = pure x := by intro _; rfl) : PSt X W (.For tg iter body [] pos) (forS t m b) := PS.imp (ps_for hp hc hi hg hb hs) fun D σ H ⟨G, F, ρ, ok, z⟩ => by
  unfold forS at z
  refine T.bindS ok z fun ds ρ1 F1 H1 J fp0 e1 s1 s2 k1 r z => ?_
  obtain ⟨rfl, r⟩ := r
  refine ⟨fun i n σ H => n = ds.length - i ∧ i ≤ ds.length ∧ ∃ F ρ, Same F1 F ∧ Ok X.K X.wg G F H σ ρ ∧ PostS X.K X.wg W G F D (forL t b (ds.drop i) ρ), ⟨ds.length, by simp, Nat.zero_le _, F1, ρ1, Same.refl F1, k1, z⟩, ?_⟩
  rintro i n σ H ⟨rfl, hi, F2, ρ2, s3, k2, z2⟩
  have hS : Same F1 F2 ∧ Same F2 H ∧ Same G.Pr H ∧ (false = true → Same H1 H) := ⟨s3, k2.sub, k2.pr, fun e => nomatch e⟩
  by_cases hlt : i < ds.length
  · have ed : ds[i]? = some ds[i] := List.getElem?_eq_getElem hlt
    rw [List.drop_eq_getElem_cons hlt] at z2
    unfold forL at z2
    refine .inr ⟨r.go i F2 H hS hlt, fun σ' H' => ∃ F ρ, Same F1 F ∧ Ok X.K X.wg G F H' σ' ρ ∧ PostS X.K X.wg W G F D (forL t b (ds.drop (i + 1)) ρ), fun σ' H' hN => ⟨ds.length - (i + 1), by omega, rfl, hlt, hN⟩, fun x H' hy => ?_⟩
    obtain ⟨F3, gr, rx⟩ := r.yld i F2 H x H' _ hS ed hy
    cases e2 : t.put ds[i] ρ2 with
    | none => rw [e2] at z2; exact z2.elim
    | some ρ3 =>
      rw [e2] at z2
      have z2 : PostS X.K X.wg W G F2 D ((b ρ3).turn fun ρ2 => forL t b (ds.drop (i + 1)) ρ2) := z2
      refine ⟨G, F3, ρ2, ds[i], ρ3, Ok.grow k2 gr, rx, e2, fun σ3 k3 _ => ⟨G, F3, ρ3, k3, ?_⟩⟩
      cases e3 : b ρ3 with
      | nx ρ4 => rw [e3] at z2; exact fun F' H' σ' s k => ⟨F', ρ4, s3.trans (gr.sub.trans s), k, PostS.adv (gr.sub.trans s) z2⟩
      | ct ρ4 => rw [e3] at z2; exact fun F' H' σ' s k => ⟨F', ρ4, s3.trans (gr.sub.trans s), k, PostS.adv (gr.sub.trans s) z2⟩
      | bk ρ4 => rw [e3] at z2; exact fun F' H' σ' s k => z2 F' H' σ' (gr.sub.trans s) k
      | rt x ρ4 => rw [e3] at z2; exact fun F' H' σ' v fp s k r => z2 F' H' σ' v fp (gr.sub.trans s) k r
      | exc e ρ4 => rw [e3] at z2; exact fun F' H' σ' c d s k r => z2 F' H' σ' c d (gr.sub.trans s) k r
      | bad => rw [e3] at z2; exact z2
  · have e : i = ds.length := by omega
    subst e
    rw [List.drop_length] at z2
    unfold forL at z2
    exact .inl ⟨r.stop F2 H hS, z2 F2 H σ (Same.refl F2) k2⟩
end
/-! while -/
def whileL (t : M Bool) (b : MS) : Nat → MS
  | 0, _ => .bad
  | n + 1, ρ => (t ρ).bindS fun c ρ1 => if c = true then (b ρ1).turn fun ρ2 => whileL t b n ρ2 else .nx ρ1
section
variable {X : Cx} {W : WX} {q : Bool} {c : Expr} {body : List Stmt} {t : M Bool} {b : MS} {pos : Pos}
theorem st_while (fuel : Nat) (hp : PassesOwn (model X.prog X.w) X.A X.env X.xe) (hc : PB X W c q t) (hb : PSts X W body b) : PSt X W (.While c body [] pos) (whileL t b fuel) := PS.imp (ps_while hp hc hb) fun D σ H ⟨G, F, ρ, ok, z⟩ => by
  refine ⟨fun n σ H => ∃ F ρ, Ok X.K X.wg G F H σ ρ ∧ PostS X.K X.wg W G F D (whileL t b n ρ), ⟨fuel, F, ρ, ok, z⟩, ?_⟩
  rintro n σ H ⟨F, ρ, ok, z⟩
  cases n with
  | zero => exact z.elim
  | succ n =>
    unfold whileL at z
    refine T.bindS ok z fun x ρ1 F1 H1 v fp0 e1 s1 s2 k1 r z => ?_
    obtain ⟨rfl, rfl⟩ := r
    by_cases c : v = true
    · rw [if_pos c] at z ⊢
      refine ⟨fun σ' H' => ∃ F ρ, Ok X.K X.wg G F H' σ' ρ ∧ PostS X.K X.wg W G F D (whileL t b n ρ), fun σ' H' hN => ⟨n, Nat.lt_succ_self n, hN⟩, G, F1, ρ1, k1, ?_⟩
      cases e3 : b ρ1 with
      | nx ρ4 => rw [e3] at z; exact fun F' H' σ' s k => ⟨F', ρ4, k, PostS.adv s z⟩
      | ct ρ4 => rw [e3] at z; exact fun F' H' σ' s k => ⟨F', ρ4, k, PostS.adv s z⟩
      | bk ρ4 => rw [e3] at z; exact z
      | rt x ρ4 => rw [e3] at z; exact z
      | exc e ρ4 => rw [e3] at z; exact z
      | bad => rw [e3] at z; exact z
    · rw [if_neg c] at z ⊢
      exact z F1 H1 σ (Same.refl F1) k1
end
end R

/-! R5: what is walked; comprehensions. -/
namespace R
open PySem PySem.Spec PyProof.Rows L2

section
variable {K : PySem.W.Frag} {mg : MG} {G : Gh} {F F1 H : Hp} {σ σ' : St} {ρ ρ' : Nv} {fp0 : List Addr}
/-- other slots: each as it was, or without a claim, or data -/
theorem OkX.re (k : OkX K mg G F H σ' ρ' fp0) (hl : σ.length = ρ.length) (h : ∀ j : Nat, (ρ[j]? = ρ'[j]? ∧ σ[j]? = σ'[j]?) ∨ (ρ[j]? = none ∨ ρ[j]? = some none) ∨ ∃ d v, ρ[j]? = some (some (.sh d)) ∧ σ[j]? = some (some v) ∧ Rp K mg F v d) : OkX K mg G F H σ ρ fp0 := by
  obtain ⟨fp, e1, e2, e3, e4⟩ := k.env
  have pick : ∀ j : Nat, ∃ f, SlotR K mg G.Pr F H σ[j]? ρ[j]? f ∧ (f = fp j ∨ f = []) := fun j => by
    rcases h j with ⟨a, b⟩ | a | ⟨d, v, a, b, r⟩
    · refine ⟨fp j, ?_, .inl rfl⟩
      rw [a, b]; exact e1 j
    · refine ⟨[], ?_, .inr rfl⟩
      unfold SlotR
      rcases a with a | a <;> rw [a]
    · refine ⟨[], ?_, .inr rfl⟩
      rw [a, b]
      exact ⟨v, rfl, .sh r⟩
  have sub : ∀ j p, p ∈ (pick j).choose → p ∈ fp j := fun j p hp => by
    rcases (pick j).choose_spec.2 with q | q
    · rw [q] at hp; exact hp
    · rw [q] at hp; cases hp
  refine ⟨⟨fun j => (pick j).choose, fun j => (pick j).choose_spec.1, fun j => ?_, fun i j p hi hj => e3 i j p (sub i p hi) (sub j p hj), fun i p hp => e4 i p (sub i p hp)⟩, k.own, k.sub, k.pr, k.f0, k.fz, fun j o hj => ?_, hl, k.nft⟩
  · rcases (pick j).choose_spec.2 with q | q
    · show (pick j).choose.Nodup
      rw [q]; exact e2 j
    · show (pick j).choose.Nodup
      rw [q]; exact List.nodup_nil
  · rcases h j with ⟨a, b⟩ | a | ⟨d, v, a, b, r⟩
    · rw [b]; rw [a] at hj; exact k.pin j o hj
    · rcases a with a | a <;> (rw [a] at hj; rcases hj with hj | hj <;> cases hj)
    · rw [a] at hj; rcases hj with hj | hj <;> cases hj
def wipeN (ρ : Nv) : List Nat → Nv
  | [] => ρ
  | v :: vs => (wipeN ρ vs).set v none
theorem wipeN_length (ρ : Nv) : ∀ vs, (wipeN ρ vs).length = ρ.length
  | [] => rfl
  | v :: vs => by unfold wipeN; rw [List.length_set, wipeN_length ρ vs]
theorem wipeN_out {ρ : Nv} {j : Nat} : ∀ {vs : List Nat}, j ∉ vs → (wipeN ρ vs)[j]? = ρ[j]?
  | [], _ => rfl
  | v :: vs, h => by
    unfold wipeN
    rw [List.mem_cons, not_or] at h
    rw [List.getElem?_set_ne (Ne.symm h.1), wipeN_out h.2]
theorem wipe_out {σ : St} {j : Nat} : ∀ {vs : List Nat}, j ∉ vs → (wipe σ vs)[j]? = σ[j]?
  | [], _ => rfl
  | v :: vs, h => by
    unfold wipe
    rw [List.mem_cons, not_or] at h
    rw [List.getElem?_set_ne (Ne.symm h.1), wipe_out h.2]
theorem wipeN_in {ρ : Nv} {j : Nat} : ∀ {vs : List Nat}, j ∈ vs → (wipeN ρ vs)[j]? = none ∨ (wipeN ρ vs)[j]? = some none
  | v :: vs, h => by
    unfold wipeN
    by_cases c : j = v
    · subst c
      by_cases hl : j < (wipeN ρ vs).length
      · rw [List.getElem?_set_self hl]; exact .inr rfl
      · rw [List.getElem?_eq_none (by rw [List.length_set]; omega)]; exact .inl rfl
    · rw [List.getElem?_set_ne (Ne.symm c)]
      rcases List.mem_cons.mp h with h | h
      · exact absurd h c
      · exact wipeN_in h
theorem Ok.wiped (k : OkX K mg G F H σ ρ fp0) (vs : List Nat) : OkX K mg G F H (wipe σ vs) (wipeN ρ vs) fp0 := by
  refine k.re (by rw [wipe_length, wipeN_length]; exact k.len) fun j => ?_
  by_cases c : j ∈ vs
  · exact .inr (.inl (wipeN_in c))
  · exact .inl ⟨wipeN_out c, wipe_out c⟩
/-- the slots hold data, or nothing -/
def plainAt (ρ : Nv) : List Nat → Bool
  | [] => true
  | v :: vs => (match ρ[v]? with | some (some (.sh _)) => true | some none => true | none => true | _ => false) && plainAt ρ vs
def putBack (ρ ρ' : Nv) : List Nat → Nv
  | [] => ρ'
  | v :: vs => (putBack ρ ρ' vs).set v (ρ[v]?.getD none)
theorem putBack_length (ρ ρ' : Nv) : ∀ vs, (putBack ρ ρ' vs).length = ρ'.length
  | [] => rfl
  | v :: vs => by unfold putBack; rw [List.length_set, putBack_length ρ ρ' vs]
theorem putBack_out {j : Nat} : ∀ {vs : List Nat}, j ∉ vs → (putBack ρ ρ' vs)[j]? = ρ'[j]?
  | [], _ => rfl
  | v :: vs, h => by
    unfold putBack
    rw [List.mem_cons, not_or] at h
    rw [List.getElem?_set_ne (Ne.symm h.1), putBack_out h.2]
theorem putBack_in {j : Nat} (hl : j < ρ'.length) : ∀ {vs : List Nat}, j ∈ vs → (putBack ρ ρ' vs)[j]? = some (ρ[j]?.getD none)
  | v :: vs, h => by
    unfold putBack
    by_cases c : j = v
    · subst c
      rw [List.getElem?_set_self (by rw [putBack_length]; exact hl)]
    · rw [List.getElem?_set_ne (Ne.symm c)]
      rcases List.mem_cons.mp h with h | h
      · exact absurd h c
      · exact putBack_in hl h
theorem plainAt_mem {j : Nat} {x : SV} : ∀ {vs : List Nat}, plainAt ρ vs = true → j ∈ vs → ρ[j]? = some (some x) → ∃ d, x = .sh d
  | v :: vs, h, hj, e => by
    unfold plainAt at h
    rw [Bool.and_eq_true] at h
    rcases List.mem_cons.mp hj with c | hj
    · subst c
      have h1 := h.1
      rw [e] at h1
      cases x with
      | sh d => exact ⟨d, rfl⟩
      | _ => cases h1
    · exact plainAt_mem h.2 hj e
/-- back from a block: k0 ahead of it, k behind it -/
theorem Ok.unwiped {H0 : Hp} {fq : List Addr} (k0 : OkX K mg G F1 H0 σ ρ fq) (s : Same F1 F) {vs : List Nat} (hp : plainAt ρ vs = true) (k : OkX K mg G F H (wipe σ vs) ρ' fp0) : OkX K mg G F H σ (putBack ρ ρ' vs) fp0 := by
  refine k.re (by rw [putBack_length, ← k.len, wipe_length]) fun j => ?_
  by_cases c : j ∈ vs
  · by_cases hl : j < ρ'.length
    · rw [putBack_in hl c]
      cases e : ρ[j]? with
      | none => exact .inr (.inl (.inr rfl))
      | some x =>
        cases x with
        | none => exact .inr (.inl (.inr rfl))
        | some x =>
          obtain ⟨d, rfl⟩ := plainAt_mem hp c e
          obtain ⟨v, fp, ev, r⟩ := k0.slot e
          cases r with
          | sh r => exact .inr (.inr ⟨d, v, rfl, ev, r.mono s⟩)
    · exact .inr (.inl (.inl (List.getElem?_eq_none (by rw [putBack_length]; omega))))
  · exact .inl ⟨putBack_out c, (wipe_out c).symm⟩
/-- a new own object at p, kept aside -/
theorem OkX.aside {p : Addr} {o : HO} (k : OkX K mg G F H σ ρ [p]) (h : H p = some o) : Ok K mg ⟨G.Pr, G.F0, G.pin, fun a => G.nf a ∨ a = p⟩ F H σ ρ := by
  obtain ⟨fp, e1, e2, e3, e4⟩ := k.env
  obtain ⟨o1, o2, o3⟩ := k.own p (by simp)
  refine ⟨⟨fp, e1, e2, e3, fun i q hq => ⟨(e4 i q hq).1, ⟨(e4 i q hq).2.1.1, fun z => ?_⟩, by simp⟩⟩, (by intro p hp; cases hp), k.sub, k.pr, k.f0, fun q hq => ?_, k.pin, k.len, fun q hq => ?_⟩
  · rcases z with z | z
    · exact (e4 i q hq).2.1.2 z
    · subst z; exact (e4 i q hq).2.2 (by simp)
  · by_cases c : q = p
    · subst c
      rw [o1]; exact (Same.free k.f0 o1).symm
    · refine k.fz q fun z => hq ⟨z.1, fun w => ?_⟩
      rcases w with w | w
      · exact z.2 w
      · exact c w
  · rcases hq with hq | hq
    · exact k.nft q hq
    · subst hq; exact ⟨o, h⟩
theorem Ok.unaside {p : Addr} (k : Ok K mg ⟨G.Pr, G.F0, G.pin, fun a => G.nf a ∨ a = p⟩ F H σ ρ) (hf : G.free p) (hF : G.F0 p = none) : OkX K mg G F H σ ρ [p] := by
  obtain ⟨fp, e1, e2, e3, e4⟩ := k.env
  refine ⟨⟨fp, e1, e2, e3, fun i q hq => ⟨(e4 i q hq).1, ⟨(e4 i q hq).2.1.1, fun z => (e4 i q hq).2.1.2 (.inl z)⟩, fun z => ?_⟩⟩, fun q hq => ?_, k.sub, k.pr, k.f0, fun q hq => k.fz q fun z => hq ⟨z.1, fun w => z.2 (.inl w)⟩, k.pin, k.len, fun q hq => k.nft q (.inl hq)⟩
  · rw [List.mem_singleton] at z
    subst z
    exact (e4 i q hq).2.1.2 (.inr rfl)
  · rw [List.mem_singleton] at hq
    subst hq
    refine ⟨?_, hf⟩
    rw [k.fz q fun z => z.2 (.inr rfl)]
    exact hF
/-- .. it is written -/
theorem OkX.wr {p : Addr} {o : HO} (k : OkX K mg G F H σ ρ fp0) (hp : p ∈ fp0) (ht : ∃ u, H p = some u) : OkX K mg G F (upd H p o) σ ρ fp0 := by
  obtain ⟨fp, e1, e2, e3, e4⟩ := k.env
  obtain ⟨o1, o2, o3⟩ := k.own p hp
  refine ⟨⟨fp, fun i => (e1 i).mono (Same.refl F) fun q hq => upd_ne fun c => ?_, e2, e3, e4⟩, k.own, fun b u e => ?_, fun b u e => ?_, k.f0, k.fz, k.pin, k.len, fun q hq => ?_⟩
  · subst c; exact (e4 i q hq).2.2 hp
  · rw [upd_ne (ne_of_none e o1)]; exact k.sub _ _ e
  · rw [upd_ne (ne_of_none e o2)]; exact k.pr _ _ e
  · by_cases c : q = p
    · subst c; exact ⟨o, upd_same⟩
    · obtain ⟨u, e⟩ := k.nft q hq
      exact ⟨u, by rw [upd_ne c]; exact e⟩
end

/-! ### the walked -/
/-- an iterator of a value -/
def ItV (X : Cx) (tg : Expr) (r : V → Hp → (It → Hp → Prop) → Prop) : Prop :=
  ∀ (pins : List (Addr × Obj)) (s : Shared) (σ : St) (H : Hp) (x : V) (v : Value) (R : It → Hp → Prop), Inv X pins σ H s → RelV x v → r x H R → wpAny (model X.prog X.w) X.A (pyIter v) (PIE X pins σ tg R) X.xe s
theorem pi_of {X : Cx} {tg e : Expr} {te : TE} {r : V → Hp → (It → Hp → Prop) → Prop} (hr : ItV X tg r) (he : PE X e te) : PI X tg e (fun σ H R => te σ H fun x H1 => r x H1 R) :=
  ⟨fun pins s σ H R I h => thn (he.run pins s σ H _ I h) fun v s1 ⟨x, H1, I1, r1, q1⟩ => hr pins s1 σ H1 x v R I1 r1 q1⟩
def ItR0 (K : PySem.W.Frag) (x : V) (H : Hp) (R : It → Hp → Prop) : Prop :=
  (∃ a, x = .ref a ∧ (∃ xs, SqL K H a xs) ∧ R (Itl K a) H) ∨ (∃ a, x = .ref a ∧ (∃ xs, SqT K H a xs) ∧ R (Itt K a) H) ∨ ∃ z, x = .str z ∧ R (Its z) H
theorem itv_seq {X : Cx} {tg : Expr} : ItV X tg (ItR0 X.K) := by
  intro pins s σ H x v R I rx h
  rcases h with ⟨a, rfl, ⟨xs, hq⟩, q⟩ | ⟨a, rfl, ⟨xs, hq⟩, q⟩ | ⟨z, rfl, q⟩
  · cases (show v = Value.ref a from rx)
    obtain ⟨its, rv, p, hz⟩ := I.list hq
    refine wpAny_pyIter_list p.isList ?_
    refine ⟨s.heap.objs.size, [s.heap.objs.size], _, _, H, rfl, I.kept (t' := s.toks) fun b o e => Heap.get?_push_of_some _ e, turn_list a _, ⟨_, Heap.get?_push_size _ rfl, rfl, rfl⟩, fun b hb => ?_, q⟩
    have e : b = s.heap.objs.size := by simpa using hb
    subst e
    exact I.fpOk (Nat.le_refl _) (I.hok.fresh (Nat.le_refl _))
  · cases (show v = Value.ref a from rx)
    obtain ⟨its, rv, p, hz⟩ := I.tuple hq
    refine wpAny_pyIter_tuple (show s.heap.IsTuple a its.toArray from p) ?_
    refine ⟨s.heap.objs.size, [s.heap.objs.size], _, _, H, rfl, I.kept (t' := s.toks) fun b o e => Heap.get?_push_of_some _ e, turn_tuple a _, ⟨_, Heap.get?_push_size _ rfl, rfl, rfl⟩, fun b hb => ?_, q⟩
    have e : b = s.heap.objs.size := by simpa using hb
    subst e
    exact I.fpOk (Nat.le_refl _) (I.hok.fresh (Nat.le_refl _))
  · obtain ⟨t, rfl⟩ := (show ∃ t, v = Value.str z t from rx)
    cases ha : z.cps.all (· < 128)
    · exact wpAny_pyIter_wide ha (pi_one (tk := s.toks) I _ (turn_str _ z t "str_iterator" (.inr rfl)) ⟨_, Heap.get?_push_size _ rfl, rfl, rfl⟩ q)
    · exact wpAny_pyIter_ascii ha (pi_one (tk := s.toks) I _ (turn_str _ z t "str_ascii_iterator" (.inl rfl)) ⟨_, Heap.get?_push_size _ rfl, rfl, rfl⟩ q)
/-- what a value walks -/
def D.walk : D → Option (List D)
  | .str z => some (z.cps.toList.map fun c => .str ⟨#[c]⟩)
  | d => d.items
/-- the walk of a value that stays -/
def itM (m : M SV) : M (List D) := fun ρ => (m ρ).bind fun x ρ1 => match x.data.walk with
  | some ds => if x.st = true then .ok ds ρ1 else .bad
  | none => .bad
/-- .. of one that stays while the heap only grows -/
def itT (m : M SV) : M (List D) := fun ρ => (m ρ).bind fun x ρ1 => match x.data.walk with
  | some ds => .ok ds ρ1 | none => .bad
theorem gi_same {F H : Hp} {F' H' : Hp} (s : Same F' H') : Grow F' H' F' H' := Grow.refl s
section
variable {K : PySem.W.Frag} {mg : MG} {F H : Hp} {S : Hp → Hp → Prop}
theorem itr_list {a : Addr} {vs : List V} {ds : List D} (hs : ∀ F' H', S F' H' → Same F F' ∧ Same F' H' ∧ SqL K H' a vs) (inj : True) (r : Rps K mg F vs ds) : ItR K mg S (Itl K a) ds where
  go := fun i F' H' h hi => by
    obtain ⟨_, _, q⟩ := hs F' H' h
    have : i < vs.length := by rw [Rps.length r]; exact hi
    exact ⟨vs, vs[i], q, List.getElem?_eq_getElem this⟩
  yld := fun i F' H' x H2 d h e y => by
    obtain ⟨s1, s2, q⟩ := hs F' H' h
    obtain ⟨rfl, y⟩ := y
    obtain ⟨v, ev, rv⟩ := r.at e
    have := (y vs q).symm.trans ev
    cases this
    exact ⟨F', Grow.refl s2, rv.mono s1⟩
  stop := fun F' H' h => by
    obtain ⟨_, _, q⟩ := hs F' H' h
    exact ⟨vs, q, by rw [Rps.length r]; exact Nat.le_refl _⟩
theorem itr_tup {a : Addr} {vs : List V} {ds : List D} (hs : ∀ F' H', S F' H' → Same F F' ∧ Same F' H' ∧ SqT K H' a vs) (r : Rps K mg F vs ds) : ItR K mg S (Itt K a) ds where
  go := fun i F' H' h hi => by
    obtain ⟨_, _, q⟩ := hs F' H' h
    have : i < vs.length := by rw [Rps.length r]; exact hi
    exact ⟨vs, vs[i], q, List.getElem?_eq_getElem this⟩
  yld := fun i F' H' x H2 d h e y => by
    obtain ⟨s1, s2, q⟩ := hs F' H' h
    obtain ⟨rfl, y⟩ := y
    obtain ⟨v, ev, rv⟩ := r.at e
    have := (y vs q).symm.trans ev
    cases this
    exact ⟨F', Grow.refl s2, rv.mono s1⟩
  stop := fun F' H' h => by
    obtain ⟨_, _, q⟩ := hs F' H' h
    exact ⟨vs, q, by rw [Rps.length r]; exact Nat.le_refl _⟩
theorem itr_str {z : Str} (hs : ∀ F' H', S F' H' → Same F' H') : ItR K mg S (Its z) (z.cps.toList.map fun c => .str ⟨#[c]⟩) where
  go := fun i F' H' h hi => by
    rw [List.length_map, Array.length_toList] at hi
    exact hi
  yld := fun i F' H' x H2 d h e y => by
    obtain ⟨rfl, c, ec, rfl⟩ := y
    rw [List.getElem?_map, Array.getElem?_toList, ec] at e
    cases e
    exact ⟨F', Grow.refl (hs F' H2 h), .str _⟩
  stop := fun F' H' h => by
    show z.cps.size ≤ _
    rw [List.length_map, Array.length_toList]; exact Nat.le_refl _
theorem itr_range {lo c : Int} {n : Nat} (hs : ∀ F' H', S F' H' → Same F' H') : ItR K mg S (Itc lo c n) ((List.range n).map fun i : Nat => .int (lo + (i : Int) * c)) where
  go := fun i F' H' h hi => by
    rw [List.length_map, List.length_range] at hi
    exact hi
  yld := fun i F' H' x H2 d h e y => by
    obtain ⟨rfl, rfl⟩ := y
    rw [List.getElem?_map] at e
    cases e2 : (List.range n)[i]? with
    | none => rw [e2] at e; cases e
    | some j =>
      rw [e2] at e
      cases e
      obtain ⟨h1, h2⟩ := List.getElem?_eq_some_iff.mp e2
      rw [List.getElem_range] at h2
      subst h2
      exact ⟨F', Grow.refl (hs F' H2 h), .int _⟩
  stop := fun F' H' h => by
    show n ≤ _
    rw [List.length_map, List.length_range]; exact Nat.le_refl _
end
def rangeD (lo : Int) (n : Nat) : List D := (List.range n).map fun i : Nat => .int (lo + (i : Int))
section
variable {K : PySem.W.Frag} {mg : MG} {F H : Hp} {S : Hp → Hp → Prop}
theorem itr_range1 {lo : Int} {n : Nat} (hs : ∀ F' H', S F' H' → Same F' H') : ItR K mg S (Itr lo n) (rangeD lo n) where
  go := fun i F' H' h hi => by
    unfold rangeD at hi
    rw [List.length_map, List.length_range] at hi
    exact hi
  yld := fun i F' H' x H2 d h e y => by
    obtain ⟨rfl, rfl⟩ := y
    unfold rangeD at e
    rw [List.getElem?_map] at e
    cases e2 : (List.range n)[i]? with
    | none => rw [e2] at e; cases e
    | some j =>
      rw [e2] at e
      cases e
      obtain ⟨h1, h2⟩ := List.getElem?_eq_some_iff.mp e2
      rw [List.getElem_range] at h2
      subst h2
      exact ⟨F', Grow.refl (hs F' H2 h), .int _⟩
  stop := fun F' H' h => by
    show n ≤ _
    unfold rangeD
    rw [List.length_map, List.length_range]; exact Nat.le_refl _
end
section
variable {X : Cx} {W : WX} {q : Bool} {tg e : Expr} {m : M SV} {ms : M (List SV)} {pos : Pos}
theorem PI.imp {t t' : TI} (h : PI X tg e t) (k : ∀ σ H R, t' σ H R → t σ H R) : PI X tg e t' := ⟨fun pins s σ H R I z => h.run pins s σ H R I (k σ H R z)⟩
/-- the iterator of a value -/
theorem seq_it {G : Gh} {F H : Hp} {v : V} {x : SV} {fp : List Addr} {ds : List D} {qs : Bool} {R : It → Hp → Prop} (s : Same F H) (p : Same G.Pr H) (r : XvR X.K X.wg G.Pr F H v x fp) (e : x.data.walk = some ds) (hst : x.st = true ∨ qs = true)
    (k : ∀ J, ItR X.K X.wg (fun F' H' => Same F F' ∧ Same F' H' ∧ Same G.Pr H' ∧ (qs = true → Same H H')) J ds → R J H) : ItR0 X.K v H R := by
  cases ed : x.data with
  | str z =>
    rw [ed] at e
    cases e
    exact .inr (.inr ⟨z, r.str ed, k _ (itr_str fun F' H' h => h.2.1)⟩)
  | lst es =>
    rw [ed] at e
    cases e
    rcases hst with hst | hq
    · cases r with
      | sh r =>
        cases (show _ = D.lst ds from ed)
        cases r with
        | lst h r => exact .inl ⟨_, rfl, ⟨_, .inl (.inl (s _ _ h))⟩, k _ (itr_list (fun F' H' hS => ⟨hS.1, hS.2.1, .inl (.inl (hS.2.1 _ _ (hS.1 _ _ h)))⟩) True.intro r)⟩
      | bo r =>
        cases r with
        | lst h r => cases ed; exact .inl ⟨_, rfl, ⟨_, .inl (.inl (p _ _ h))⟩, k _ (itr_list (fun F' H' hS => ⟨hS.1, hS.2.1, .inl (.inl (hS.2.2.1 _ _ h))⟩) True.intro r)⟩
        | dK h r => cases ed
        | dT h r => cases ed
        | dX h r => cases ed
        | ins c h r => cases ed
        | pk h r => cases ed
      | own r n => cases hst
      | tr r => cases hst
    · obtain ⟨a, vs, rfl, h, rr⟩ := r.list p s ed
      exact .inl ⟨a, rfl, ⟨vs, .inl (.inl h)⟩, k _ (itr_list (fun F' H' hS => ⟨hS.1, hS.2.1, .inl (.inl (hS.2.2.2 hq _ _ h))⟩) True.intro rr)⟩
  | tup es =>
    rw [ed] at e
    cases e
    obtain ⟨_, a, vs, rfl, h, rr⟩ := r.tup ed
    exact .inr (.inl ⟨a, rfl, ⟨vs, .inl (.inl (s _ _ h))⟩, k _ (itr_tup (fun F' H' hS => ⟨hS.1, hS.2.1, .inl (.inl (hS.2.1 _ _ (hS.1 _ _ h)))⟩) rr)⟩)
  | kt es =>
    rw [ed] at e
    cases e
    have key : Rp X.K X.wg F v (.kt ds) := by
      have bad : ∀ {o : O} {fq : List Addr} {H : Hp}, Ow X.K X.wg F H v o fq → o.data = .kt ds → False := fun {o fq H} h e => by cases h <;> cases e
      cases r with
      | sh r => cases (show _ = D.kt ds from ed); exact r
      | own r n => exact (bad r ed).elim
      | bo r => exact (bad r ed).elim
      | tr r => exact (bad r ed).elim
    cases key with
    | kt h rr => exact .inr (.inl ⟨_, rfl, ⟨_, Same.seqT s h⟩, k _ (itr_tup (fun F' H' hS => ⟨hS.1, hS.2.1, Same.seqT hS.2.1 (Same.seqT hS.1 h)⟩) rr)⟩)
  | scr ns =>
    rw [ed] at e
    cases e
    have key : Rp X.K X.wg F v (.scr ns) := by
      have bad : ∀ {o : O} {fq : List Addr} {H : Hp}, Ow X.K X.wg F H v o fq → o.data = .scr ns → False := fun {o fq H} h e => by cases h <;> cases e
      cases r with
      | sh r => cases (show _ = D.scr ns from ed); exact r
      | own r n => exact (bad r ed).elim
      | bo r => exact (bad r ed).elim
      | tr r => exact (bad r ed).elim
    cases key with
    | scr h => exact .inl ⟨_, rfl, ⟨_, L2.Same.seq s h⟩, k _ (itr_list (fun F' H' hS => ⟨hS.1, hS.2.1, L2.Same.seq hS.2.1 (L2.Same.seq hS.1 h)⟩) True.intro (rps_ints ns))⟩
  | _ => rw [ed] at e; cases e
theorem it_seq (h : PX X W e q m) : PIt X W tg e q false (itM m) := PI.imp (pi_of itv_seq h) fun σ H R ⟨G, F, ρ, ok, z⟩ => by
  unfold itM at z
  refine T.bind ok z fun x ρ1 F1 H1 v fp0 e1 s1 s2 k1 r z => ?_
  cases e2 : x.data.walk with
  | none => rw [e2] at z; exact z.elim
  | some ds =>
    rw [e2] at z
    have z : Post X.K X.wg (relI X.K X.wg false) W G F H σ q R (if x.st = true then .ok ds ρ1 else .bad) := z
    by_cases c : x.st = true
    · rw [if_pos c] at z
      exact seq_it k1.sub k1.pr r e2 (.inl c) fun J hJ => z F1 H1 J [] s1 s2 k1.drop ⟨rfl, hJ⟩
    · rw [if_neg c] at z; exact z.elim
theorem it_seqT (h : PX X W e q m) : PIt X W tg e q true (itT m) := PI.imp (pi_of itv_seq h) fun σ H R ⟨G, F, ρ, ok, z⟩ => by
  unfold itT at z
  refine T.bind ok z fun x ρ1 F1 H1 v fp0 e1 s1 s2 k1 r z => ?_
  cases e2 : x.data.walk with
  | none => rw [e2] at z; exact z.elim
  | some ds =>
    rw [e2] at z
    exact seq_it k1.sub k1.pr r e2 (.inr rfl) fun J hJ => z F1 H1 J [] s1 s2 k1.drop ⟨rfl, hJ⟩
/-! range -/
def inLo (i : Int) : Bool := decide (-(2 ^ 62) ≤ i ∧ i < 2 ^ 62)
def SV.int? (x : SV) : Option Int := match x.data with | .int i => some i | _ => none
def range1 (xs : List SV) : Option (List D) := match xs with
  | [x] => match x.int? with
    | some j => if inLo j = true then some (rangeD 0 j.toNat) else none
    | none => none
  | _ => none
def range2 (xs : List SV) : Option (List D) := match xs with
  | [x, y] => match x.int?, y.int? with
    | some i, some j => if inLo i = true ∧ inLo j = true then some (rangeD i (j - i).toNat) else none
    | _, _ => none
  | _ => none
def itA (g : List SV → Option (List D)) (ms : M (List SV)) : M (List D) := fun ρ => (ms ρ).bind fun xs ρ1 => match g xs with
  | some ds => .ok ds ρ1 | none => .bad
theorem SV.int_of {K : PySem.W.Frag} {mg : MG} {Pr F H : Hp} {v : V} {x : SV} {fp : List Addr} {i : Int} (h : XvR K mg Pr F H v x fp) (e : x.int? = some i) : v = .int i := by
  unfold SV.int? at e
  cases ed : x.data with
  | int j => rw [ed] at e; cases e; exact h.int ed
  | _ => rw [ed] at e; cases e
theorem it_range1 {a : Expr} {qs : Bool} {p : Pos} (hg : Gl X "range") (hm : X.mg "range" = none) (ha : PAs X W [a] q ms) (hs : starEach [a] X.env = [(false, eval a X.env)] := by rfl) : PIt X W tg (.Call (.Name "range" p) [a] [] pos) q qs (itA range1 ms) :=
  PI.imp (pi_range1 hg hm ha hs) fun σ H R ⟨G, F, ρ, ok, z⟩ => by
    unfold itA at z
    refine T.bind ok z fun xs ρ1 F1 H1 vs fp0 e1 s1 s2 k1 r z => ?_
    obtain ⟨r, rfl⟩ := r
    cases e2 : range1 xs with
    | none => rw [e2] at z; exact z.elim
    | some ds =>
      rw [e2] at z
      cases r with
      | nil => cases e2
      | cons r1 r2 =>
        cases r2 with
        | cons r3 r4 => cases e2
        | nil =>
          rename_i v x
          have e2 : (match x.int? with | some j => if inLo j = true then some (rangeD 0 j.toNat) else none | none => none) = some ds := e2
          cases e3 : x.int? with
          | none => rw [e3] at e2; cases e2
          | some j =>
            rw [e3] at e2
            have e2 : (if inLo j = true then some (rangeD 0 j.toNat) else none) = some ds := e2
            by_cases c : inLo j = true
            · rw [if_pos c] at e2
              cases e2
              have c2 := of_decide_eq_true c
              exact ⟨j, by rw [SV.int_of r1 e3], c2.1, c2.2, z F1 H1 _ [] s1 s2 k1 ⟨rfl, itr_range1 fun F' H' h => h.2.1⟩⟩
            · rw [if_neg c] at e2; cases e2
theorem it_range2 {a b : Expr} {qs : Bool} {p : Pos} (hg : Gl X "range") (hm : X.mg "range" = none) (ha : PAs X W [a, b] q ms) (hs : starEach [a, b] X.env = [(false, eval a X.env), (false, eval b X.env)] := by rfl) (hs2 : starEach [b] X.env = [(false, eval b X.env)] := by rfl) : PIt X W tg (.Call (.Name "range" p) [a, b] [] pos) q qs (itA range2 ms) :=
  PI.imp (pi_range2 hg hm ha hs hs2) fun σ H R ⟨G, F, ρ, ok, z⟩ => by
    unfold itA at z
    refine T.bind ok z fun xs ρ1 F1 H1 vs fp0 e1 s1 s2 k1 r z => ?_
    obtain ⟨r, rfl⟩ := r
    cases e2 : range2 xs with
    | none => rw [e2] at z; exact z.elim
    | some ds =>
      rw [e2] at z
      cases r with
      | nil => cases e2
      | cons r1 r2 =>
        cases r2 with
        | nil => cases e2
        | cons r3 r4 =>
          cases r4 with
          | cons r5 r6 => cases e2
          | nil =>
            rename_i v x w y
            have e2 : (match x.int?, y.int? with | some i, some j => if inLo i = true ∧ inLo j = true then some (rangeD i (j - i).toNat) else none | _, _ => none) = some ds := e2
            cases e3 : x.int? with
            | none => rw [e3] at e2; cases e2
            | some i =>
              cases e4 : y.int? with
              | none => rw [e3, e4] at e2; cases e2
              | some j =>
                rw [e3, e4] at e2
                have e2 : (if inLo i = true ∧ inLo j = true then some (rangeD i (j - i).toNat) else none) = some ds := e2
                by_cases c : inLo i = true ∧ inLo j = true
                · rw [if_pos c] at e2
                  cases e2
                  have c1 := of_decide_eq_true c.1
                  have c2 := of_decide_eq_true c.2
                  exact ⟨i, j, by rw [SV.int_of r1 e3, SV.int_of r3 e4], ⟨c1.1, c1.2, c2.1, c2.2⟩, z F1 H1 _ [] s1 s2 k1 ⟨rfl, itr_range1 fun F' H' h => h.2.1⟩⟩
                · rw [if_neg c] at e2; cases e2
end
end R

/-! R6: comprehensions. -/
namespace R
open PySem PySem.Spec PyProof.Rows L2

def noEx {A : Type} (r : Res Nv A) : Res Nv A := match r with
  | .exc _ _ => .bad | .ok a ρ => .ok a ρ | .bad => .bad
def yesM : M Bool := fun ρ => .ok true ρ
def compL (t : Tg) (c : M Bool) (e : M SV) : List D → List D → Nv → Res Nv (List D)
  | [], acc, ρ => .ok acc ρ
  | d :: ds, acc, ρ => match t.put d ρ with
    | some ρ1 => (noEx (c ρ1)).bind fun b ρ2 => if b = true then (noEx (e ρ2)).bind fun x ρ3 => match x with
        | .sh d' => if acc.length < sizeLine then compL t c e ds (acc ++ [d']) (wipeN ρ3 t.slots) else .bad
        | _ => .bad
      else compL t c e ds acc (wipeN ρ2 t.slots)
    | none => .bad
def compM (t : Tg) (it : M (List D)) (c : M Bool) (e : M SV) : M SV := fun ρ => (it ρ).bind fun ds ρ1 => if plainAt ρ1 t.slots = true then
  (compL t c e ds [] (wipeN ρ1 t.slots)).bind fun acc ρ2 => .ok (.own (.lst acc)) (putBack ρ1 ρ2 t.slots) else .bad

theorem wipe_in {σ : St} {j : Nat} : ∀ {vs : List Nat}, j ∈ vs → (wipe σ vs)[j]? = if j < σ.length then some none else none
  | v :: vs, h => by
    unfold wipe
    by_cases c : j = v
    · subst c
      by_cases hl : j < σ.length
      · rw [List.getElem?_set_self (by rw [wipe_length]; exact hl), if_pos hl]
      · rw [List.getElem?_eq_none (by rw [List.length_set, wipe_length]; omega), if_neg hl]
    · rw [List.getElem?_set_ne (Ne.symm c)]
      rcases List.mem_cons.mp h with h | h
      · exact absurd h c
      · exact wipe_in h
theorem wipe_eq {σ σ' : St} {vs : List Nat} (hl : σ'.length = σ.length) (h : ∀ j : Nat, j ∉ vs → σ'[j]? = (wipe σ vs)[j]?) : wipe σ' vs = wipe σ vs := by
  apply List.ext_getElem?
  intro j
  by_cases c : j ∈ vs
  · rw [wipe_in c, wipe_in c, hl]
  · rw [wipe_out c]; exact h j c
mutual
theorem tgPut_length : ∀ {t : Tg} {d : D} {ρ ρ' : Nv}, t.put d ρ = some ρ' → ρ'.length = ρ.length
  | .nm i, d, ρ, ρ', e => by
    unfold Tg.put at e
    by_cases c : i < ρ.length
    · rw [if_pos c] at e; cases e; rw [List.length_set]
    · rw [if_neg c] at e; cases e
  | .tp ts, d, ρ, ρ', e => by
    unfold Tg.put at e
    cases d with
    | tup ds => exact tgPutL_length e
    | _ => cases e
theorem tgPutL_length : ∀ {ts : List Tg} {ds : List D} {ρ ρ' : Nv}, Tg.putL ts ds ρ = some ρ' → ρ'.length = ρ.length
  | [], [], ρ, ρ', e => by unfold Tg.putL at e; cases e; rfl
  | [], _ :: _, ρ, ρ', e => by unfold Tg.putL at e; cases e
  | _ :: _, [], ρ, ρ', e => by unfold Tg.putL at e; cases e
  | t :: ts, d :: ds, ρ, ρ', e => by
    unfold Tg.putL at e
    cases e1 : t.put d ρ with
    | none => rw [e1] at e; cases e
    | some ρ1 =>
      rw [e1] at e
      rw [tgPutL_length (show Tg.putL ts ds ρ1 = some ρ' from e), tgPut_length e1]
end
abbrev PTt (X : Cx) (W : WX) (ifs : List Expr) (c : M Bool) : Prop := PTs X ifs (T X.K X.wg relB W true c)
section
variable {X : Cx} {W : WX}
theorem PTs.imp {ifs : List Expr} {t t' : TT} (h : PTs X ifs t) (k : ∀ σ H Q, t' σ H Q → t σ H Q) : PTs X ifs t' := ⟨fun pins s σ H Q I z => h.run pins s σ H Q I (k σ H Q z)⟩
theorem ptt_nil : PTt X W [] yesM := PTs.imp pts_nil fun σ H Q ⟨G, F, ρ, ok, z⟩ => z F H true [] (Same.refl F) (fun _ => Same.refl H) ok ⟨rfl, rfl⟩
theorem ptt_one {c : Expr} {t : M Bool} (h : PB X W c true t) : PTt X W [c] t := pts_one h
end
section
variable {X : Cx} {W : WX} {q : Bool}
theorem lc_of {tg : Tg} {it : M (List D)} {c : M Bool} {e : M SV} {σ : St} {H : Hp} {Q : VK} (h : T X.K X.wg (relX X.K X.wg) W q (compM tg it c e) σ H Q) :
    tLc (T X.K X.wg (relI X.K X.wg true) W q it) (TGm X.K X.wg tg.slots tg.put) (T X.K X.wg relB W0 true c) (T X.K X.wg (relX X.K X.wg) W0 true e) tg.slots σ H Q := by
  obtain ⟨G, F, ρ, ok, z⟩ := h
  unfold compM at z
  refine T.bind ok z fun ds ρ1 F1 H1 J fp0 e1 s1 s2 k1 r z => ?_
  obtain ⟨rfl, r⟩ := r
  by_cases hpl : plainAt ρ1 tg.slots = true
  · rw [if_pos hpl] at z
    intro D nD
    have F1D : F1 D = none := Same.free k1.sub nD
    have fr : G.free D := by
      refine ⟨Same.free k1.pr nD, fun w => ?_⟩
      obtain ⟨o, e⟩ := k1.nft D w
      rw [nD] at e; cases e
    have f0 : G.F0 D = none := Same.free k1.f0 F1D
    have start : Ok X.K X.wg ⟨G.Pr, G.F0, G.pin, fun a => G.nf a ∨ a = D⟩ F1 (upd H1 D (.lst [])) (wipe σ tg.slots) (wipeN ρ1 tg.slots) := by
      have := Ok.growX (fp := [D]) k1 (grow_own (o := .lst []) k1.sub nD) fun p hp => by
        rw [List.mem_singleton] at hp; subst hp; exact ⟨F1D, nD⟩
      exact (Ok.wiped this tg.slots).aside upd_same
    refine ⟨fun i n H => n = ds.length - i ∧ i ≤ ds.length ∧ ∃ F ρ acc vs, Same F1 F ∧ Same H1 H ∧ Ok X.K X.wg ⟨G.Pr, G.F0, G.pin, fun a => G.nf a ∨ a = D⟩ F H (wipe σ tg.slots) ρ ∧ H D = some (.lst vs) ∧ Rps X.K X.wg F vs acc ∧
        Post X.K X.wg (relX X.K X.wg) W G F1 H1 σ q Q ((compL tg c e (ds.drop i) acc ρ).bind fun acc ρ2 => .ok (.own (.lst acc)) (putBack ρ1 ρ2 tg.slots)),
      ⟨ds.length, by simp, Nat.zero_le _, F1, wipeN ρ1 tg.slots, [], [], Same.refl F1, (grow_own (o := .lst []) k1.sub nD).same, start, upd_same, .nil, Post.adv s1 s2 z⟩, ?_⟩
    rintro i n H ⟨rfl, hi, F2, ρ2, acc, vs, s3, s4, k2, hD, ra, z2⟩
    have hS : Same F1 F2 ∧ Same F2 H ∧ Same G.Pr H ∧ (true = true → Same H1 H) := ⟨s3, k2.sub, k2.pr, fun _ => s4⟩
    by_cases hlt : i < ds.length
    · have ed : ds[i]? = some ds[i] := List.getElem?_eq_getElem hlt
      rw [List.drop_eq_getElem_cons hlt] at z2
      unfold compL at z2
      refine .inr ⟨r.go i F2 H hS hlt, fun H' => ∃ F ρ acc vs, Same F1 F ∧ Same H1 H' ∧ Ok X.K X.wg ⟨G.Pr, G.F0, G.pin, fun a => G.nf a ∨ a = D⟩ F H' (wipe σ tg.slots) ρ ∧ H' D = some (.lst vs) ∧ Rps X.K X.wg F vs acc ∧
        Post X.K X.wg (relX X.K X.wg) W G F1 H1 σ q Q ((compL tg c e (ds.drop (i + 1)) acc ρ).bind fun acc ρ2 => .ok (.own (.lst acc)) (putBack ρ1 ρ2 tg.slots)), fun H' hN => ⟨ds.length - (i + 1), by omega, rfl, hlt, hN⟩, fun x H' hy => ?_⟩
      obtain ⟨F3, gr, rx⟩ := r.yld i F2 H x H' _ hS ed hy
      cases e2 : tg.put ds[i] ρ2 with
      | none => rw [e2] at z2; exact z2.elim
      | some ρ3 =>
        rw [e2] at z2
        refine ⟨_, F3, ρ2, ds[i], ρ3, Ok.grow k2 gr, rx, e2, fun σ3 k3 hsame => ?_⟩
        have hw : wipe σ3 tg.slots = wipe σ tg.slots := by
          refine wipe_eq ?_ hsame
          have h1 := k3.len
          have h2 := k2.len
          rw [wipe_length] at h2
          have : ρ3.length = ρ2.length := by
            have := k3.len
            have g := tgPut_length e2
            exact g
          omega
        refine ⟨hw, _, F3, ρ3, k3, ?_⟩
        have z2 : Post X.K X.wg (relX X.K X.wg) W G F1 H1 σ q Q (((noEx (c ρ3)).bind fun b ρ2 => if b = true then (noEx (e ρ2)).bind fun x ρ3 => match x with
          | .sh d' => if acc.length < sizeLine then compL tg c e (ds.drop (i + 1)) (acc ++ [d']) (wipeN ρ3 tg.slots) else .bad
          | _ => .bad
          else compL tg c e (ds.drop (i + 1)) acc (wipeN ρ2 tg.slots)).bind fun acc ρ2 => .ok (.own (.lst acc)) (putBack ρ1 ρ2 tg.slots)) := z2
        cases ec : c ρ3 with
        | bad => rw [ec] at z2; exact z2.elim
        | exc ex ρ4 => rw [ec] at z2; exact z2.elim
        | ok b ρ4 =>
          rw [ec] at z2
          intro F4 H4 b' fp4 s5 s6 k4 rb
          obtain ⟨rfl, rfl⟩ := rb
          have sH4 : Same H H4 := gr.same.trans (s6 rfl)
          have hD4 := sH4 _ _ hD
          by_cases cb : b' = true
          · have z2 : Post X.K X.wg (relX X.K X.wg) W G F1 H1 σ q Q ((if b' = true then (noEx (e ρ4)).bind fun x ρ3 => match x with
              | .sh d' => if acc.length < sizeLine then compL tg c e (ds.drop (i + 1)) (acc ++ [d']) (wipeN ρ3 tg.slots) else .bad
              | _ => .bad
              else compL tg c e (ds.drop (i + 1)) acc (wipeN ρ4 tg.slots)).bind fun acc ρ2 => .ok (.own (.lst acc)) (putBack ρ1 ρ2 tg.slots)) := z2
            rw [if_pos cb] at z2 ⊢
            refine ⟨_, F4, ρ4, k4, ?_⟩
            cases ee : e ρ4 with
            | bad => rw [ee] at z2; exact z2.elim
            | exc ex ρ5 => rw [ee] at z2; exact z2.elim
            | ok y ρ5 =>
              rw [ee] at z2
              intro F5 H5 yv fp5 s7 s8 k5 ry
              have hD5 := (s8 rfl) _ _ hD4
              cases ry with
              | @sh d' ry =>
                have z2 : Post X.K X.wg (relX X.K X.wg) W G F1 H1 σ q Q ((if acc.length < sizeLine then compL tg c e (ds.drop (i + 1)) (acc ++ [d']) (wipeN ρ5 tg.slots) else .bad).bind fun acc ρ2 => .ok (.own (.lst acc)) (putBack ρ1 ρ2 tg.slots)) := z2
                by_cases cl : acc.length < sizeLine
                · rw [if_pos cl] at z2
                  have s5' : Same F2 F5 := gr.sub.trans (s5.trans s7)
                  refine ⟨vs, hD5, by rw [Rps.length ra]; exact cl, F5, wipeN ρ5 tg.slots, acc ++ [d'], vs ++ [yv], s3.trans s5', fun b u e => ?_, ?_, upd_same, (ra.mono s5').append (.cons ry .nil), z2⟩
                  · rw [upd_ne (ne_of_none e nD)]
                    exact (s8 rfl) _ _ (sH4 _ _ (s4 _ _ e))
                  · have k6 := Ok.unaside (G := G) k5.drop fr f0
                    have k7 := k6.wr (o := .lst (vs ++ [yv])) (by simp) ⟨_, hD5⟩
                    have k8 := (Ok.wiped k7 tg.slots).aside (upd_same (H := H5) (a := D) (o := .lst (vs ++ [yv])))
                    rw [hw] at k8
                    exact k8
                · rw [if_neg cl] at z2; exact z2.elim
              | own r n => exact z2.elim
              | bo r => exact z2.elim
              | tr r => exact z2.elim
          · have z2 : Post X.K X.wg (relX X.K X.wg) W G F1 H1 σ q Q ((if b' = true then (noEx (e ρ4)).bind fun x ρ3 => match x with
              | .sh d' => if acc.length < sizeLine then compL tg c e (ds.drop (i + 1)) (acc ++ [d']) (wipeN ρ3 tg.slots) else .bad
              | _ => .bad
              else compL tg c e (ds.drop (i + 1)) acc (wipeN ρ4 tg.slots)).bind fun acc ρ2 => .ok (.own (.lst acc)) (putBack ρ1 ρ2 tg.slots)) := z2
            rw [if_neg cb] at z2 ⊢
            have s5' : Same F2 F4 := gr.sub.trans s5
            refine ⟨F4, wipeN ρ4 tg.slots, acc, vs, s3.trans s5', s4.trans sH4, ?_, hD4, ra.mono s5', z2⟩
            have k8 := Ok.wiped k4 tg.slots
            rw [hw] at k8
            exact k8
    · have e : i = ds.length := by omega
      subst e
      rw [List.drop_length] at z2
      unfold compL at z2
      refine .inl ⟨r.stop F2 H hS, z2 F2 H (.ref D) [D] s3 (fun hq => s4) ?_ (.own (.lst hD ra) (by simp))⟩
      exact Ok.unwiped k1 s3 hpl (Ok.unaside (G := G) k2 fr f0)
  · rw [if_neg hpl] at z; exact z.elim
theorem px_lc {elt tg iter : Expr} {ifs : List Expr} {scope : Scope} {own : List (Str × Nat)} {pos : Pos} {t : Tg} {it : M (List D)} {c : M Bool} {e : M SV} (hc : X.calm = true) (hN : X.N.Nodup) (hi : PIt X W tg iter q true it) (ok : BlkOk X.N X.env.scope scope own) (hsl : own.map (·.2) = t.slots)
    (hg : ∀ (s : Shared) (H : Hp) (C : Addr) (cl : List (Str × Addr)) (fp : List Addr), PGt (X.blk s H scope (compEnvC scope cl C X.env) fp) tg t) (ht : ∀ (s : Shared) (H : Hp) (C : Addr) (cl : List (Str × Addr)) (fp : List Addr), PTt (X.blk s H scope (compEnvC scope cl C X.env) fp) W0 ifs c)
    (he : ∀ (s : Shared) (H : Hp) (C : Addr) (cl : List (Str × Addr)) (fp : List Addr), PX (X.blk s H scope (compEnvC scope cl C X.env) fp) W0 elt true e) (hs : ∀ x, foldedSetIterable iter X.env x = pure x := by intro _; rfl) :
    PX X W (.ListComp elt [⟨tg, iter, ifs, 0⟩] scope pos) q (compM t it c e) := PE.imp (pe_lc hc hN hi ok hg ht he hs) fun σ H Q h => by
  rw [hsl]; exact lc_of h
theorem st_setLc {i : Nat} {y : Str} {py : Pos} {elt tg iter : Expr} {ifs : List Expr} {scope : Scope} {own : List (Str × Nat)} {pos spos : Pos} {t : Tg} {it : M (List D)} {c : M Bool} {e : M SV} (hc : X.calm = true) (hN : X.N.Nodup) (hy : X.N[i]? = some y) (hyl : X.env.scope.names.lookup y = some .local)
    (hsw : swapsWith (.ListComp elt [⟨tg, iter, ifs, 0⟩] scope pos) (some (.Name y py)) spos.line X.env = pure true) (hi : PIt X W tg iter q true it) (ok : BlkOk X.N X.env.scope scope own) (hsl : own.map (·.2) = t.slots)
    (hg : ∀ (s : Shared) (H : Hp) (C : Addr) (cl : List (Str × Addr)) (fp : List Addr), PGt (X.blk s H scope (compEnvC scope cl C X.env) fp) tg t) (ht : ∀ (s : Shared) (H : Hp) (C : Addr) (cl : List (Str × Addr)) (fp : List Addr), PTt (X.blk s H scope (compEnvC scope cl C X.env) fp) W0 ifs c)
    (he : ∀ (s : Shared) (H : Hp) (C : Addr) (cl : List (Str × Addr)) (fp : List Addr), PX (X.blk s H scope (compEnvC scope cl C X.env) fp) W0 elt true e) (hs : ∀ x, foldedSetIterable iter X.env x = pure x := by intro _; rfl) :
    PSt X W (.Assign [.Name y py] (.ListComp elt [⟨tg, iter, ifs, 0⟩] scope pos) spos) (setS i (compM t it c e)) := PS.imp (ps_setLc hc hN hy hyl hsw hi ok hg ht he hs) fun D σ H ⟨G, F, ρ, ok, z⟩ => by
  rw [hsl]
  refine lc_of (c := c) (e := e) (Q := fun x H1 => gName i x σ H1 D.nx) ?_
  unfold setS at z
  refine T.bindS ok z fun x ρ1 F1 H1 v fp0 e1 s1 s2 k1 r z => ?_
  by_cases c : x.ret = true ∧ i < ρ1.length
  · rw [if_pos c] at z
    obtain ⟨r2, nd, nx⟩ := XvR.sv r c.1
    exact z F1 H1 _ (Same.refl F1) (OkX.set k1 c.2 r2 nd nx)
  · rw [if_neg c] at z; exact z.elim
end
end R

/-! R7: own objects written. -/
namespace R
open PySem PySem.Spec PyProof.Rows L2

/-- a place that holds an own list or dict: a name, a field of an own object -/
inductive Pl where
  | v (i : Nat) | f (C : Str) (i : Nat) (n : Str)
def FV.cont : FV → Option O
  | .lst ds => some (.lst ds) | .dic t ps => some (.dic t ps) | _ => none
def O.cont : O → Option O
  | .lst ds => some (.lst ds) | .dic t ps => some (.dic t ps) | _ => none
def O.fv : O → FV
  | .lst ds => .lst ds | .dic t ps => .dic t ps | .ins C fs => .sh .non | .pk _ _ => .sh .non
def putFs (n : Str) (x : FV) : List (Str × FV) → List (Str × FV)
  | [] => []
  | (m, y) :: r => if m = n then (m, x) :: r else (m, y) :: putFs n x r
def getPl : Pl → Nv → Option O
  | .v i, ρ => match ρ[i]? with
    | some (some (.own o)) => o.cont
    | some (some (.io o)) => o.cont
    | _ => none
  | .f C i n, ρ => match ρ[i]? with
    | some (some (.own (.ins C' fs))) => if C' = C then (fs.lookup n).bind FV.cont else none
    | some (some (.io (.ins C' fs))) => if C' = C then (fs.lookup n).bind FV.cont else none
    | _ => none
def putPl : Pl → O → Nv → Nv
  | .v i, o, ρ => match ρ[i]? with
    | some (some (.own _)) => ρ.set i (some (.own o))
    | some (some (.io _)) => ρ.set i (some (.io o))
    | _ => ρ
  | .f _ i n, o, ρ => match ρ[i]? with
    | some (some (.own (.ins C fs))) => ρ.set i (some (.own (.ins C (putFs n o.fv fs))))
    | some (some (.io (.ins C fs))) => ρ.set i (some (.io (.ins C (putFs n o.fv fs))))
    | _ => ρ
/-- where the place's object stands -/
def AtPl (mg : MG) (σ : St) (H : Hp) : Pl → Addr → Prop
  | .v i, a => σ[i]? = some (some (.ref a))
  | .f C i n, a => ∃ b c dx vfs, σ[i]? = some (some (.ref b)) ∧ mg C = some (.ref c) ∧ H b = some (.ins c dx vfs) ∧ vfs.lookup n = some (.ref a)
section
variable {K : PySem.W.Frag} {mg : MG} {G : Gh} {F H : Hp} {σ : St} {ρ : Nv} {o : O}
theorem Ow.cont {v : V} {o o' : O} {fp : List Addr} (h : Ow K mg F H v o fp) (e : o.cont = some o') : o' = o ∧ ∃ a, v = .ref a ∧ fp = [a] := by
  cases h with
  | lst h r => cases e; exact ⟨rfl, _, rfl, rfl⟩
  | dK h r => cases e; exact ⟨rfl, _, rfl, rfl⟩
  | dT h r => cases e; exact ⟨rfl, _, rfl, rfl⟩
  | dX h r => cases e; exact ⟨rfl, _, rfl, rfl⟩
  | ins c h r => cases e
  | pk h r => cases e
/-- a field of an own instance, and what stands there instead -/
theorem Fls.at1 {n : Str} {x : FV} {o : O} : ∀ {vfs : List (Str × V)} {fs : List (Str × FV)} {fp : List Addr}, Fls K mg F H vfs fs fp → fs.lookup n = some x → x.cont = some o →
    ∃ a, vfs.lookup n = some (.ref a) ∧ Ow K mg F H (.ref a) o [a] ∧ a ∈ fp ∧ (fp.Nodup → ∀ ho o', (∃ q, o'.cont = some q) → Ow K mg F (upd H a ho) (.ref a) o' [a] → Fls K mg F (upd H a ho) vfs (putFs n o'.fv fs) fp) := by
  intro vfs fs fp h
  induction h with
  | nil => intro e; cases e
  | @cons m v y r fs f1 f2 h t ih =>
    intro e ec
    by_cases c : m = n
    · subst c
      have e : y = x := by
        rw [List.lookup_cons_self] at e
        exact Option.some.inj e
      subst e
      have key : ∃ a, v = .ref a ∧ f1 = [a] ∧ Ow K mg F H (.ref a) o [a] := by
        cases h with
        | sh h => cases ec
        | lst h r => cases ec; exact ⟨_, rfl, rfl, .lst h r⟩
        | dK h r => cases ec; exact ⟨_, rfl, rfl, .dK h r⟩
        | dT h r => cases ec; exact ⟨_, rfl, rfl, .dT h r⟩
        | dX h r => cases ec; exact ⟨_, rfl, rfl, .dX h r⟩
      obtain ⟨a, rfl, rfl, ow⟩ := key
      refine ⟨a, by rw [List.lookup_cons_self], ow, by simp, fun nd ho o' hc hw => ?_⟩
      unfold putFs
      rw [if_pos rfl]
      have na : a ∉ f2 := fun z => by
        rw [List.singleton_append, List.nodup_cons] at nd
        exact nd.1 z
      refine .cons ?_ (t.mono (Same.refl F) fun p hp => upd_ne fun z => na (z ▸ hp))
      cases hw with
      | lst h r => exact .lst h r
      | dK h r => exact .dK h r
      | dT h r => exact .dT h r
      | dX h r => exact .dX h r
      | ins c h r => obtain ⟨q, hc⟩ := hc; cases hc
      | pk h r => obtain ⟨q, hc⟩ := hc; cases hc
    · have cb : (n == m) = false := beq_eq_false_iff_ne.mpr (Ne.symm c)
      rw [List.lookup_cons, cb] at e
      obtain ⟨a, e1, ow, ha, k⟩ := ih e ec
      refine ⟨a, by rw [List.lookup_cons, cb]; exact e1, ow, List.mem_append_right _ ha, fun nd ho o' hc hw => ?_⟩
      unfold putFs
      rw [if_neg c]
      have nd2 := List.nodup_append.mp nd
      refine .cons (h.mono (Same.refl F) fun p hp => upd_ne fun z => ?_) (k nd2.2.1 ho o' hc hw)
      subst z
      exact nd2.2.2 p hp p ha rfl
theorem Ok.pl (k : Ok K mg G F H σ ρ) {p : Pl} (e : getPl p ρ = some o) : ∃ a, AtPl mg σ H p a ∧ Ow K mg F H (.ref a) o [a] ∧ F a = none ∧ ∀ ho o', (∃ q, o'.cont = some q) → Ow K mg F (upd H a ho) (.ref a) o' [a] → Ok K mg G F (upd H a ho) σ (putPl p o' ρ) := by
  cases p with
  | v i =>
    have go : ∀ (x : SV) (o0 : O), ρ[i]? = some (some x) → (x = .own o0 ∨ x = .io o0) → o0.cont = some o → ∃ a, AtPl mg σ H (.v i) a ∧ Ow K mg F H (.ref a) o [a] ∧ F a = none ∧ ∀ ho o', (∃ q, o'.cont = some q) → Ow K mg F (upd H a ho) (.ref a) o' [a] → Ok K mg G F (upd H a ho) σ (putPl (.v i) o' ρ) := by
      intro x o0 ex hx ec
      have hx' : ρ[i]? = some (some (.own o0)) ∨ ρ[i]? = some (some (.io o0)) := by
        rcases hx with rfl | rfl
        · exact .inl ex
        · exact .inr ex
      obtain ⟨v, fp, ev, ow, nd, kx⟩ := OkX.out k hx'
      obtain ⟨rfl, a, rfl, rfl⟩ := ow.cont ec
      obtain ⟨u, hu⟩ := ow.at a (by simp)
      refine ⟨a, ev, ow, (kx.own a (by simp)).1, fun ho o' _ hw => ?_⟩
      have k2 := kx.wr (o := ho) (by simp) ⟨u, hu⟩
      rcases hx with rfl | rfl
      · rw [show putPl (.v i) o' ρ = ρ.set i (some (.own o')) by simp only [putPl, ex]]
        exact OkX.back k2 ev (.own hw) nd fun o h => by rcases h with h | h <;> cases h
      · rw [show putPl (.v i) o' ρ = ρ.set i (some (.io o')) by simp only [putPl, ex]]
        exact OkX.back k2 ev (.io hw) nd fun o h => k.pin i _ (.inl ex)
    simp only [getPl] at e
    split at e
    · rename_i o0 ex; exact go _ o0 ex (.inl rfl) e
    · rename_i o0 ex; exact go _ o0 ex (.inr rfl) e
    · cases e
  | f C i n =>
    have go : ∀ (x : SV) (fs : List (Str × FV)), ρ[i]? = some (some x) → (x = .own (.ins C fs) ∨ x = .io (.ins C fs)) → (fs.lookup n).bind FV.cont = some o → ∃ a, AtPl mg σ H (.f C i n) a ∧ Ow K mg F H (.ref a) o [a] ∧ F a = none ∧ ∀ ho o', (∃ q, o'.cont = some q) → Ow K mg F (upd H a ho) (.ref a) o' [a] → Ok K mg G F (upd H a ho) σ (putPl (.f C i n) o' ρ) := by
      intro x fs ex hx ec
      have hx' : ρ[i]? = some (some (.own (.ins C fs))) ∨ ρ[i]? = some (some (.io (.ins C fs))) := by
        rcases hx with rfl | rfl
        · exact .inl ex
        · exact .inr ex
      obtain ⟨v, fp, ev, ow, nd, kx⟩ := OkX.out k hx'
      cases el : fs.lookup n with
      | none => rw [el] at ec; cases ec
      | some y =>
        rw [el] at ec
        cases ow with
        | @ins b c dx _ vfs _ fp hmg hb hfs =>
          obtain ⟨a, e1, ow, ha, kk⟩ := hfs.at1 el ec
          obtain ⟨u, hu⟩ := ow.at a (by simp)
          have nab : a ≠ b := fun z => by
            subst z
            exact (List.nodup_cons.mp nd).1 ha
          refine ⟨a, ⟨b, c, dx, vfs, ev, hmg, hb, e1⟩, ow, (kx.own a (List.mem_cons_of_mem _ ha)).1, fun ho o' hc hw => ?_⟩
          have k2 := kx.wr (o := ho) (List.mem_cons_of_mem _ ha) ⟨u, hu⟩
          have ow2 : Ow K mg F (upd H a ho) (.ref b) (.ins C (putFs n o'.fv fs)) (b :: fp) := .ins hmg (by rw [upd_ne (Ne.symm nab)]; exact hb) (kk (List.nodup_cons.mp nd).2 ho o' hc hw)
          rcases hx with rfl | rfl
          · rw [show putPl (.f C i n) o' ρ = ρ.set i (some (.own (.ins C (putFs n o'.fv fs)))) by simp only [putPl, ex]]
            exact OkX.back k2 ev (.own ow2) nd fun o h => by rcases h with h | h <;> cases h
          · rw [show putPl (.f C i n) o' ρ = ρ.set i (some (.io (.ins C (putFs n o'.fv fs)))) by simp only [putPl, ex]]
            exact OkX.back k2 ev (.io ow2) nd fun o h => k.pin i _ (.inl ex)
    simp only [getPl] at e
    split at e
    · rename_i C' fs ex
      by_cases c : C' = C
      · subst c; rw [if_pos rfl] at e; exact go _ fs ex (.inl rfl) e
      · rw [if_neg c] at e; cases e
    · rename_i C' fs ex
      by_cases c : C' = C
      · subst c; rw [if_pos rfl] at e; exact go _ fs ex (.inr rfl) e
      · rw [if_neg c] at e; cases e
    · cases e
end

/-! ### methods that change -/
/-- a method of a list or dict, by values: the object, the arguments; what it gives, the object behind it -/
def MutG (X : Cx) (P : (V → List V → Hp → VK → Prop) → Prop) (g : O → List SV → Option (SV × O)) : Prop := ∀ (Pr F H : Hp) (a : Addr) (o : O) (xs : List SV) (vs : List V) (z : SV) (o' : O) (Q : VK), Same F H → Same Pr H → F a = none → Ow X.K X.wg F H (.ref a) o [a] → XsR X.K X.wg Pr F H vs xs → g o xs = some (z, o') →
  (∀ ho u, (∃ q, o'.cont = some q) → Ow X.K X.wg F (upd H a ho) (.ref a) o' [a] → XvR X.K X.wg Pr F (upd H a ho) u z [] → Q u (upd H a ho)) → ∃ r, P r ∧ r (.ref a) vs H Q
def anyM (P : (V → List V → Hp → VK → Prop) → Prop) : V → List V → Hp → VK → Prop := fun x vs H Q => ∃ r, P r ∧ r x vs H Q
theorem MtR.any {X : Cx} {id : String} : MtR X id (anyM (MtR X id)) := fun pins s σ H x xs v us Q I rx rs ⟨_, hr, h⟩ => hr pins s σ H x xs v us Q I rx rs h
def O.ty : O → String
  | .lst _ => "list" | .dic t _ => if t = 2 then "" else "dict" | .ins _ _ => "" | .pk _ _ => ""
def mutM (p : Pl) (Ty : String) (g : O → List SV → Option (SV × O)) (ms : M (List SV)) : M SV := fun ρ => match getPl p ρ with
  | some o => if o.ty = Ty then (ms ρ).bind fun xs ρ1 => match getPl p ρ1 with
    | some o1 => match g o1 xs with
      | some (z, o2) => .ok z (putPl p o2 ρ1)
      | none => .bad
    | none => .bad
    else .bad
  | none => .bad
def mut0 (p : Pl) (Ty : String) (g : O → List SV → Option (SV × O)) : M SV := mutM p Ty g a0
section
variable {X : Cx} {W : WX} {q : Bool}
theorem Ow.tyv {F H : Hp} {a : Addr} {o : O} {fp : List Addr} (h : Ow X.K X.wg F H (.ref a) o fp) (Ty : String) (e : o.ty = Ty) (hT : Ty ≠ "") : tyV X.K Ty (.ref a) H := by
  cases h with
  | lst h r => cases e; exact .inl ⟨rfl, _, .inl (.inl h)⟩
  | dK h r => cases e; exact .inr (.inr (.inl ⟨rfl, .inl ⟨_, h⟩⟩))
  | dT h r => cases e; exact .inr (.inr (.inl ⟨rfl, .inr ⟨_, h⟩⟩))
  | dX h r => cases e; exact absurd rfl hT
  | ins c h r => cases e; exact absurd rfl hT
  | pk h r => cases e; exact absurd rfl hT
/-- the receiver's reading -/
def PlR (K : PySem.W.Frag) (mg : MG) (p : Pl) (to : TE) : Prop := ∀ (σ : St) (H : Hp) (Q : VK) (a : Addr), AtPl mg σ H p a → Q (.ref a) H → to σ H Q
theorem plr_v {i : Nat} {K : PySem.W.Frag} {mg : MG} : PlR K mg (.v i) (tVar i) := fun σ H Q a h z => ⟨.ref a, h, z⟩
theorem plr_f {C : Str} {i : Nat} {n : Str} {K : PySem.W.Frag} {mg : MG} (hc : ∀ c, mg C = some (.ref c) → Cls K c ∧ NoAttr K c n) : PlR K mg (.f C i n) (tFld K (tVar i) n) := fun σ H Q a ⟨b, c, dx, vfs, h1, h2, h3, h4⟩ z => ⟨.ref b, h1, b, c, dx, vfs, .ref a, rfl, h3, (hc c h2).1, (hc c h2).2, h4, z⟩
theorem mut_core {p : Pl} {Ty : String} {g : O → List SV → Option (SV × O)} {ms : M (List SV)} {P : (V → List V → Hp → VK → Prop) → Prop} {σ : St} {H : Hp} {Q : VK} (hT : Ty ≠ "") (hg : MutG X P g) (hp : (∃ i, p = .v i) ∨ q = true)
    (h : T X.K X.wg (relX X.K X.wg) W false (mutM p Ty g ms) σ H Q) : ∃ a, AtPl X.wg σ H p a ∧ tyV X.K Ty (.ref a) H ∧ T X.K X.wg (relA X.K X.wg) W q ms σ H fun vs H2 => anyM P (.ref a) vs H2 Q := by
  obtain ⟨G, F, ρ, ok, z⟩ := h
  unfold mutM at z
  cases e1 : getPl p ρ with
  | none => rw [e1] at z; exact z.elim
  | some o =>
    rw [e1] at z
    have z : Post X.K X.wg (relX X.K X.wg) W G F H σ false Q (if o.ty = Ty then (ms ρ).bind fun xs ρ1 => match getPl p ρ1 with
      | some o1 => match g o1 xs with
        | some (z, o2) => .ok z (putPl p o2 ρ1)
        | none => .bad
      | none => .bad
      else .bad) := z
    by_cases c : o.ty = Ty
    · rw [if_pos c] at z
      obtain ⟨a, hat, how, hF, hback⟩ := Ok.pl ok e1
      refine ⟨a, hat, Ow.tyv how Ty c hT, ?_⟩
      refine T.bind ok z fun xs ρ1 F1 H1 vs fp0 e2 s1 s2 k1 r z => ?_
      obtain ⟨r, rfl⟩ := r
      cases e3 : getPl p ρ1 with
      | none => rw [e3] at z; exact z.elim
      | some o1 =>
        rw [e3] at z
        have z : Post X.K X.wg (relX X.K X.wg) W G F H σ false Q (match g o1 xs with
        | some (z, o2) => .ok z (putPl p o2 ρ1)
        | none => .bad) := z
        cases e4 : g o1 xs with
        | none => rw [e4] at z; exact z.elim
        | some zo =>
          obtain ⟨u, o2⟩ := zo
          rw [e4] at z
          obtain ⟨a1, hat1, how1, hF1, hback1⟩ := Ok.pl k1 e3
          have ea : a1 = a := by
            cases p with
            | v i =>
              have : σ[i]? = some (some (.ref a)) := hat
              have h2 : σ[i]? = some (some (.ref a1)) := hat1
              rw [this] at h2; cases h2; rfl
            | f C i n =>
              obtain ⟨b, cc, dx, vfs, q1, q2, q3, q4⟩ := hat
              obtain ⟨b1, cc1, dx1, vfs1, p1, p2, p3, p4⟩ := hat1
              rw [q1] at p1; cases p1
              rcases hp with ⟨i, z⟩ | hq
              · cases z
              · have := (s2 hq) _ _ q3
                rw [this] at p3; cases p3
                rw [q4] at p4; cases p4; rfl
          subst ea
          exact hg G.Pr F1 H1 a1 o1 xs vs u o2 Q k1.sub k1.pr hF1 how1 r e4 fun ho t hc hw hx => z F1 (upd H1 a1 ho) t [] s1 (fun e => nomatch e) (hback1 ho o2 hc hw) hx
    · rw [if_neg c] at z; exact z.elim
theorem mut_of {p : Pl} {Ty : String} {g : O → List SV → Option (SV × O)} {ms : M (List SV)} {to : TE} {P : (V → List V → Hp → VK → Prop) → Prop} {σ : St} {H : Hp} {Q : VK} (hT : Ty ≠ "") (hto : PlR X.K X.wg p to) (hg : MutG X P g) (hp : (∃ i, p = .v i) ∨ q = true)
    (h : T X.K X.wg (relX X.K X.wg) W false (mutM p Ty g ms) σ H Q) : tBM X.K Ty (anyM P) to (T X.K X.wg (relA X.K X.wg) W q ms) σ H Q :=
  let ⟨a, h1, h2, h3⟩ := mut_core hT hg hp h
  hto σ H _ a h1 ⟨h2, h3⟩
theorem mut_of0 {p : Pl} {Ty : String} {g : O → List SV → Option (SV × O)} {to : TE} {P : (V → List V → Hp → VK → Prop) → Prop} {σ : St} {H : Hp} {Q : VK} (hT : Ty ≠ "") (hto : PlR X.K X.wg p to) (hg : MutG X P g)
    (h : T X.K X.wg (relX X.K X.wg) W false (mut0 p Ty g) σ H Q) : tBM0 X.K Ty (anyM P) to σ H Q := by
  obtain ⟨a, h1, h2, h3⟩ := mut_core (q := true) hT hg (.inr rfl) h
  obtain ⟨G, F, ρ, ok, z⟩ := h3
  exact hto σ H _ a h1 ⟨h2, z F H [] [] (Same.refl F) (fun _ => Same.refl H) ok ⟨.nil, rfl⟩⟩
variable {o e : Expr} {es : List Expr} {name : Str} {apos cpos : Pos} {Ty id : String} {to : TE} {g : O → List SV → Option (SV × O)} {ms : M (List SV)} {p : Pl}
theorem px_mut (hT : Ty ≠ "") (pa : PlainAttrs Ty) (slot : Slot Ty name id) (hty : typeOf (.builtin id) = pure (.type "method_descriptor")) (hg : MutG X (MtR X id) g) (ho : PE X o to) (hto : PlR X.K X.wg p to) (hp : (∃ i, p = .v i) ∨ q = true) (ha : PAs X W (e :: es) q ms)
    (hbase : attributeBase o name X.env (eval o X.env) = eval o X.env := by rfl)
    (hfew : ((backTo cpos (starEach (e :: es) X.env)).all (fun x => !x.1) && (backToKw cpos (keywordEach [] X.env)).all (fun x => x.1.isSome)
      && decide ((e :: es).length + ([] : List Keyword).length + (if ([] : List Keyword).isEmpty then 0 else 1) < 30)) = true := by rfl)
    (hline : (apos.endLine == cpos.line) = true := by rfl) (hs : starEach (e :: es) X.env = (false, eval e X.env) :: starEach es X.env := by rfl) (hplain : (backTo cpos (starEach es X.env)).any (·.1) = false := by rfl) :
    PX X W (.Call (.Attribute o name apos) (e :: es) [] cpos) false (mutM p Ty g ms) := PE.imp (pe_bm pa slot hty MtR.any ho ha hbase hfew hline hs hplain) fun σ H Q h => mut_of hT hto hg hp h
theorem px_mut0 (hT : Ty ≠ "") (pa : PlainAttrs Ty) (slot : Slot Ty name id) (hty : typeOf (.builtin id) = pure (.type "method_descriptor")) (hg : MutG X (MtR X id) g) (ho : PE X o to) (hto : PlR X.K X.wg p to)
    (hbase : attributeBase o name X.env (eval o X.env) = eval o X.env := by rfl) (hline : (apos.endLine == cpos.line) = true := by rfl) :
    PX X W (.Call (.Attribute o name apos) [] [] cpos) false (mut0 p Ty g) := PE.imp (pe_bm0 pa slot hty MtR.any ho hbase hline) fun σ H Q h => mut_of0 hT hto hg h
/-! the methods -/
def gAppend (o : O) (xs : List SV) : Option (SV × O) := match o, xs with
  | .lst ds, [.sh d] => if ds.length < sizeLine then some (.sh .non, .lst (ds ++ [d])) else none
  | _, _ => none
def gPop (o : O) (xs : List SV) : Option (SV × O) := match o, xs with
  | .lst ds, [] => (ds[ds.length - 1]?).map fun d => (.sh d, .lst ds.dropLast)
  | _, _ => none
def gClear (o : O) (xs : List SV) : Option (SV × O) := match o, xs with
  | .lst _, [] => some (.sh .non, .lst [])
  | _, _ => none
theorem Ow.lst_of {K : PySem.W.Frag} {mg : MG} {F H : Hp} {a : Addr} {ds : List D} {fp : List Addr} (h : Ow K mg F H (.ref a) (.lst ds) fp) : ∃ vs, H a = some (.lst vs) ∧ Rps K mg F vs ds := by
  cases h with | lst h r => exact ⟨_, h, r⟩
theorem mg_append : MutG X (MtR X "list.append") gAppend := by
  intro Pr F H a o xs vs z o' Q s p hF how r e k
  unfold gAppend at e
  split at e
  · rename_i ds d
    split at e
    · rename_i c
      cases e
      obtain ⟨ws, h, rs⟩ := Ow.lst_of how
      obtain ⟨v, rfl, rv⟩ := xs1 r
      cases rv with
      | sh rv => exact ⟨_, mt_append, a, ws, v, rfl, rfl, h, by rw [Rps.length rs]; exact c, k _ _ ⟨_, rfl⟩ (.lst upd_same (rs.append (.cons rv .nil))) (.sh .non)⟩
    · cases e
  · cases e
theorem mg_pop : MutG X (MtR X "list.pop") gPop := by
  intro Pr F H a o xs vs z o' Q s p hF how r e k
  unfold gPop at e
  split at e
  · rename_i ds
    cases e1 : ds[ds.length - 1]? with
    | none => rw [e1] at e; cases e
    | some d =>
      rw [e1] at e
      cases e
      obtain ⟨ws, h, rs⟩ := Ow.lst_of how
      cases r
      obtain ⟨v, ev, rv⟩ := rs.at e1
      have dl : ∀ (ws : List V) (ds : List D), Rps X.K X.wg F ws ds → Rps X.K X.wg F ws.dropLast ds.dropLast := by
        intro ws
        induction ws with
        | nil => intro ds h; cases h; exact .nil
        | cons w ws ih =>
          intro ds h
          cases h with
          | cons h t =>
            cases t with
            | nil => exact .nil
            | cons h2 t2 => exact .cons h (ih _ (.cons h2 t2))
      exact ⟨_, mt_pop, a, ws, v, rfl, rfl, h, by rw [Rps.length rs]; exact ev, k _ _ ⟨_, rfl⟩ (.lst upd_same (dl _ _ rs)) (.sh rv)⟩
  · cases e
theorem mg_clear : MutG X (MtR X "list.clear") gClear := by
  intro Pr F H a o xs vs z o' Q s p hF how r e k
  unfold gClear at e
  split at e
  · cases e
    obtain ⟨ws, h, rs⟩ := Ow.lst_of how
    cases r
    exact ⟨_, mt_clear, a, ws, rfl, rfl, h, k _ _ ⟨_, rfl⟩ (.lst upd_same .nil) (.sh .non)⟩
  · cases e

/-! x[i] = v -/
def gSetIx (o : O) (k y : SV) : Option O := match o with
  | .lst ds => match k.data, y with
    | .int i, .sh d => (ixN ds.length i).map fun j => .lst (ds.set j d)
    | _, _ => none
  | .dic t ps => match k.data.dkey t, y with
    | some kk, .sh d => if ps.length < sizeLine then some (.dic t (dput ps kk d)) else none
    | _, _ => none
  | _ => none
def setIxS (p : Pl) (mi me : M SV) : MS := fun ρ => (me ρ).bindS fun y ρ1 => match y with
  | .sh _ => match getPl p ρ1 with
    | some _ => (mi ρ1).bindS fun k ρ2 => match getPl p ρ2 with
      | some o => match gSetIx o k y with
        | some o' => .nx (putPl p o' ρ2)
        | none => .bad
      | none => .bad
    | none => .bad
  | _ => .bad
def anyS (X : Cx) : TSet := fun o i v H Q => ∃ t, PSet X t ∧ t o i v H Q
theorem PSet.any : PSet X (anyS X) := fun pins s σ H o i v ov iv u Q I ro ri rv ⟨_, ht, h⟩ => ht pins s σ H o i v ov iv u Q I ro ri rv h
theorem RpK.len_lt {K : PySem.W.Frag} {mg : MG} {F : Hp} {kvs : List (Key × V)} {ps : List (DKey × D)} (h : RpK K mg F kvs ps) (c : ps.length < sizeLine) : kvs.length < sizeLine := by rw [h.length]; exact c
/-- o[i] = v of a dict with nested keys, by values -/
def rSetX (w : World) : TSet := fun o i v H Q => ∃ a H', o = .ref a ∧ DPutX w H a i v H' ∧ Q H'
theorem set_dictX {X : Cx} (hu : X.A.units + 65 < cLine) : PSet X (rSetX X.w) := by
  intro pins s σ H o i v ov iv u Q I ro ri rv h
  obtain ⟨a, H', eo, g, q⟩ := h
  subst eo
  cases (show ov = Value.ref a from ro)
  exact dx_setItem hu I g ri rv fun s' I' => ⟨H', I', q⟩
theorem setIx_of (hu : X.A.units + 65 < cLine) {Pr F H : Hp} {a : Addr} {o o' : O} {k : SV} {v w : V} {fx : List Addr} {d : D} {Q : Hp → Prop} (s : Same F H) (p : Same Pr H) (how : Ow X.K X.wg F H (.ref a) o [a]) (rk : XvR X.K X.wg Pr F H w k fx) (ry : Rp X.K X.wg F v d) (e : gSetIx o k (.sh d) = some o')
    (kk : ∀ ho, (∃ q, o'.cont = some q) → Ow X.K X.wg F (upd H a ho) (.ref a) o' [a] → Q (upd H a ho)) : anyS X (.ref a) w v H Q := by
  unfold gSetIx at e
  split at e
  · rename_i ds
    split at e
    · rename_i i d1 ek ey
      cases ey
      cases e1 : ixN ds.length i with
      | none => rw [e1] at e; cases e
      | some j =>
        rw [e1] at e
        cases e
        obtain ⟨ws, h, rs⟩ := Ow.lst_of how
        have st : ∀ (j : Nat) (ws : List V) (ds : List D), Rps X.K X.wg F ws ds → Rps X.K X.wg F (ws.set j v) (ds.set j d) := by
          intro j
          induction j with
          | zero => intro ws ds h; cases h with | nil => exact .nil | cons h t => exact .cons ry t
          | succ j ih => intro ws ds h; cases h with | nil => exact .nil | cons h t => exact .cons h (ih _ _ t)
        exact ⟨_, set_list, a, ws, i, j, rfl, rk.int ek, h, by rw [Rps.length rs]; exact e1, kk _ ⟨_, rfl⟩ (.lst upd_same (st _ _ _ rs))⟩
    · cases e
  · rename_i t ps
    split at e
    · rename_i k1 d1 ek ey
      cases ey
      split at e
      · rename_i c
        cases e
        have rk' := rk.rp s p
        cases how with
        | dK h r =>
          cases ed : k.data with
          | int i =>
            rw [ed] at ek
            cases ek
            cases rk.int ed
            exact ⟨_, set_dict (by omega), a, _, rfl, DPut.k (k := .inl i) h (r.len_lt c), kk _ ⟨_, rfl⟩ (.dK upd_same (r.put ry))⟩
          | str i =>
            rw [ed] at ek
            cases ek
            cases rk.str ed
            exact ⟨_, set_dict (by omega), a, _, rfl, DPut.k (k := .inr i) h (r.len_lt c), kk _ ⟨_, rfl⟩ (.dK upd_same (r.put ry))⟩
          | tup es => rw [ed] at ek; cases ek
          | _ => rw [ed] at ek; cases ek
        | dT h r =>
          cases ed : k.data with
          | int i => rw [ed] at ek; cases ek
          | str i => rw [ed] at ek; cases ek
          | tup es =>
            rw [ed] at ek
            have ek : ((D.keys es).map fun ks => .inr (.inl ks) : Option DKey) = some k1 := ek
            cases e9 : D.keys es with
            | none => rw [e9] at ek; cases ek
            | some ks =>
              rw [e9] at ek
              cases ek
              obtain ⟨rt, b, vs, rfl, hb, rs⟩ := rk.tup ed
              cases rs.keys e9
              exact ⟨_, set_dict (by omega), a, _, rfl, DPut.t h (s _ _ hb) (by rw [r.length]; exact c), kk _ ⟨_, rfl⟩ (.dT upd_same (r.put ry))⟩
          | _ => rw [ed] at ek; cases ek
        | dX h r =>
          cases ed : k.data with
          | int i => rw [ed] at ek; cases ek
          | str i => rw [ed] at ek; cases ek
          | tup es =>
            rw [ed] at ek
            have ek : (match D.nks es with | some ks => if (NestedKey.tup ks).depth ≤ 8 then some (.inr (.inr (.tup ks))) else none | none => none : Option DKey) = some k1 := ek
            cases e9 : D.nks es with
            | none => rw [e9] at ek; cases ek
            | some ks =>
              rw [e9] at ek
              have ek : (if (NestedKey.tup ks).depth ≤ 8 then some (.inr (.inr (.tup ks))) else none : Option DKey) = some k1 := ek
              by_cases c2 : (NestedKey.tup ks).depth ≤ 8
              · rw [if_pos c2] at ek
                cases ek
                obtain ⟨rt, b, vs, rfl, hb, rs⟩ := rk.tup ed
                have ent : D.nk (.tup es) = some (.tup ks) := by unfold D.nk; rw [e9]
                have kb : KeyN H (.ref b) (.tup ks) := Rp.nk (d := .tup es) (Rp.tup (s _ _ hb) (rs.mono s)) ent
                exact ⟨_, set_dictX hu, a, _, rfl, ⟨_, _, b, h, r.keysX s, rfl, kb, c2, by rw [r.length]; exact c, rfl⟩, kk _ ⟨_, rfl⟩ (.dX upd_same (r.put (.tup hb rs) ent ry))⟩
              · rw [if_neg c2] at ek; cases ek
          | _ => rw [ed] at ek; cases ek
      · cases e
    · cases e
  · cases e
theorem st_setIx {i : Expr} {me mi : M SV} {spos pos : Pos} (hu : X.A.units + 65 < cLine) (he : PX X W e q me) (ho : PE X o to) (hto : PlR X.K X.wg p to) (hi : PX X W i true mi) (hs : swapsWithSole [.Subscript o i pos] e spos.line X.env = pure false := by rfl) (hw : swappedStores [.Subscript o i pos] e X.env = pure none := by rfl)
    (h1 : (assignEach [.Subscript o i pos] X.env).map (·.2) = [assign (.Subscript o i pos) X.env] := by rfl) (ha : ∀ v, assign (.Subscript o i pos) X.env v = (do
      let ov ← holding [v] (eval o X.env)
      let iv ← holding [v, ov] (eval i X.env)
      standAt pos
      holding [v, ov, iv] (setItem ov iv v)
      release [v, ov, iv] []) := by intro _; rfl) : PSt X W (.Assign [.Subscript o i pos] e spos) (setIxS p mi me) := PS.imp (ps_asg he (pg_sub ho hi PSet.any ha) hs hw h1) fun D σ H ⟨G, F, ρ, ok, z⟩ => by
  unfold setIxS at z
  refine T.bindS ok z fun y ρ1 F1 H1 v fp0 e1 s1 s2 k1 r z => ?_
  cases r with
  | @sh d ry =>
    have z : PostS X.K X.wg W G F1 D (match getPl p ρ1 with
    | some _ => (mi ρ1).bindS fun k ρ2 => match getPl p ρ2 with
      | some o => match gSetIx o k (.sh d) with
        | some o' => .nx (putPl p o' ρ2)
        | none => .bad
      | none => .bad
    | none => .bad) := z
    cases e2 : getPl p ρ1 with
    | none => rw [e2] at z; exact z.elim
    | some o0 =>
      rw [e2] at z
      obtain ⟨a, hat, how, hF, hback⟩ := Ok.pl k1 e2
      refine hto σ H1 _ a hat ?_
      refine T.bindS k1 z fun k ρ2 F2 H2 w fp2 e3 s3 s4 k2 rk z => ?_
      have k2 := k2.drop
      cases e4 : getPl p ρ2 with
      | none => rw [e4] at z; exact z.elim
      | some o1 =>
        rw [e4] at z
        have z : PostS X.K X.wg W G F2 D (match gSetIx o1 k (.sh d) with
        | some o' => .nx (putPl p o' ρ2)
        | none => .bad) := z
        cases e5 : gSetIx o1 k (.sh d) with
        | none => rw [e5] at z; exact z.elim
        | some o2 =>
          rw [e5] at z
          obtain ⟨a1, hat1, how1, hF1, hback1⟩ := Ok.pl k2 e4
          have ea : a1 = a := by
            cases p with
            | v i =>
              have : σ[i]? = some (some (.ref a)) := hat
              have h2 : σ[i]? = some (some (.ref a1)) := hat1
              rw [this] at h2; cases h2; rfl
            | f C i n =>
              obtain ⟨b, cc, dx, vfs, q1, q2, q3, q4⟩ := hat
              obtain ⟨b1, cc1, dx1, vfs1, p1, p2, p3, p4⟩ := hat1
              rw [q1] at p1; cases p1
              have := (s4 rfl) _ _ q3
              rw [this] at p3; cases p3
              rw [q4] at p4; cases p4; rfl
          subst ea
          exact setIx_of hu k2.sub k2.pr how1 rk (ry.mono s3) e5 fun ho hc hw => z F2 (upd H2 a1 ho) σ (Same.refl F2) (hback1 ho o2 hc hw)
  | own r n => exact z.elim
  | bo r => exact z.elim
  | tr r => exact z.elim
end
end R

/-! R8: defs and calls. -/
namespace R
open PySem PySem.Spec PyProof.Rows L2

abbrev MF := List SV → Res (List SV) SV
section
variable (K : PySem.W.Frag) (mg : MG)
/-- a def's promise by its mirror -/
def PostF (G : Gh) (F : Hp) (vs : List V) (Q : VK) (E : XK) : Res (List SV) SV → Prop
  | .ok r as' => ∀ F' H' v fp0, Same F F' → OkX K mg G F' H' (vs.map some) (as'.map some) fp0 → XvR K mg G.Pr F' H' v r fp0 → r.ret = true → Q v H'
  | .exc e as' => ∀ F' H' c d, Same F F' → Ok K mg G F' H' (vs.map some) (as'.map some) → ExR K mg F' H' c d e → E c d H'
  | .bad => False
def spM (n : Nat) (m : MF) : Sp := fun vs H Q E => ∃ (G : Gh) (F : Hp) (as : List SV), Ok K mg G F H (vs.map some) (as.map some) ∧ (∀ x ∈ as, ∀ o, x ≠ .own o ∧ x ≠ .tr o) ∧ as.length = n ∧ PostF K mg G F vs Q E (m as)
end
/-- what the arguments became -/
def outs : List SV → Nv → Option (List SV)
  | [], _ => some []
  | x :: as, [] => none
  | x :: as, y :: ρ => match x with
    | .io _ => match y with
      | some (.io o') => (outs as ρ).map (.io o' :: ·)
      | _ => none
    | _ => (outs as ρ).map (x :: ·)
def Out.fin (as : List SV) : Out → Res (List SV) SV
  | .nx ρ => match outs as ρ with | some bs => .ok (.sh .non) bs | none => .bad
  | .rt x ρ => match outs as ρ with | some bs => if x.ret = true then .ok x bs else .bad | none => .bad
  | .exc e ρ => match outs as ρ with | some bs => .exc e bs | none => .bad
  | _ => .bad
/-- a def's run: nl names more than parameters -/
def runF (np nl : Nat) (ms : MS) : MF := fun as => if as.length = np then (ms (as.map some ++ List.replicate nl none)).fin as else .bad
section
variable {K : PySem.W.Frag} {mg : MG} {G : Gh} {F F' H H' : Hp}
theorem outs_at : ∀ {as : List SV} {ρ : Nv} {bs : List SV}, outs as ρ = some bs → bs.length = as.length ∧ ∀ (i : Nat) (x : SV), as[i]? = some x → (∃ o o', x = .io o ∧ bs[i]? = some (.io o') ∧ ρ[i]? = some (some (.io o'))) ∨ ((∀ o, x ≠ .io o) ∧ bs[i]? = some x)
  | [], ρ, bs, e => by
    unfold outs at e
    cases e
    exact ⟨rfl, fun i x h => by simp at h⟩
  | x :: as, [], bs, e => by
    unfold outs at e
    cases e
  | x :: as, y :: ρ, bs, e => by
    have fin : ∀ (x' : SV), (outs as ρ).map (x' :: ·) = some bs → ((∃ o o', x = .io o ∧ x' = .io o' ∧ y = some (.io o')) ∨ ((∀ o, x ≠ .io o) ∧ x' = x)) → bs.length = (x :: as).length ∧ ∀ (i : Nat) (z : SV), (x :: as)[i]? = some z → (∃ o o', z = .io o ∧ bs[i]? = some (.io o') ∧ (y :: ρ)[i]? = some (some (.io o'))) ∨ ((∀ o, z ≠ .io o) ∧ bs[i]? = some z) := fun x' e h => by
      cases e1 : outs as ρ with
      | none => rw [e1] at e; cases e
      | some cs =>
        rw [e1] at e
        cases e
        obtain ⟨l, q⟩ := outs_at e1
        refine ⟨by rw [List.length_cons, List.length_cons, l], fun i z hz => ?_⟩
        cases i with
        | zero =>
          have hz : x = z := Option.some.inj hz
          subst hz
          rcases h with ⟨o, o', rfl, rfl, rfl⟩ | ⟨h, rfl⟩
          · exact .inl ⟨o, o', rfl, rfl, rfl⟩
          · exact .inr ⟨h, rfl⟩
        | succ i => exact q i z hz
    cases x with
    | io o =>
      unfold outs at e
      cases y with
      | none => cases e
      | some y =>
        cases y with
        | io o' => exact fin _ e (.inl ⟨o, o', rfl, rfl, rfl⟩)
        | _ => cases e
    | sh d => unfold outs at e; exact fin _ e (.inr ⟨(fun o z => by cases z), rfl⟩)
    | own d => unfold outs at e; exact fin _ e (.inr ⟨(fun o z => by cases z), rfl⟩)
    | bo d => unfold outs at e; exact fin _ e (.inr ⟨(fun o z => by cases z), rfl⟩)
    | tr d => unfold outs at e; exact fin _ e (.inr ⟨(fun o z => by cases z), rfl⟩)
theorem map_some_at {α : Type} {l : List α} {i : Nat} {x : Option α} : (l.map some)[i]? = some x → ∃ y, x = some y ∧ l[i]? = some y := fun h => by
  rw [List.getElem?_map] at h
  cases e : l[i]? with
  | none => rw [e] at h; cases h
  | some y => rw [e] at h; cases h; exact ⟨y, rfl, rfl⟩
/-- back at the caller's: the arguments as they became -/
theorem Ok.fin {vs : List V} {as bs : List SV} {σ0 σ' : St} {ρ' : Nv} {fp0 : List Addr} (k0 : Ok K mg G F H (vs.map some) (as.map some)) (nw : ∀ x ∈ as, ∀ o, x ≠ .own o ∧ x ≠ .tr o) (e : outs as ρ' = some bs) (s : Same F F') (h0 : ∀ i : Nat, i < vs.length → σ0[i]? = (vs.map some)[i]?)
    (k : OkX K mg ⟨G.Pr, G.F0, σ0, G.nf⟩ F' H' σ' ρ' fp0) : OkX K mg G F' H' (vs.map some) (bs.map some) fp0 := by
  obtain ⟨hl, hq⟩ := outs_at e
  have hlen : vs.length = as.length := by have := k0.len; rw [List.length_map, List.length_map] at this; exact this
  obtain ⟨fp, e1, e2, e3, e4⟩ := k.env
  have pick : ∀ i : Nat, ∃ f, SlotR K mg G.Pr F' H' (vs.map some)[i]? (bs.map some)[i]? f ∧ (f = fp i ∨ f = []) := fun i => by
    cases ea : as[i]? with
    | none =>
      refine ⟨[], ?_, .inr rfl⟩
      have : bs[i]? = none := by rw [List.getElem?_eq_none_iff] at ea ⊢; omega
      unfold SlotR
      rw [List.getElem?_map, this]
      rfl
    | some x =>
      have hi : i < vs.length := by rw [hlen]; exact (List.getElem?_eq_some_iff.mp ea).1
      rcases hq i x ea with ⟨o, o', rfl, eb, er⟩ | ⟨ni, eb⟩
      · refine ⟨fp i, ?_, .inl rfl⟩
        have := e1 i
        rw [er] at this
        obtain ⟨v, ev, r⟩ := this
        have hp := k.pin i o' (.inl er)
        rw [ev] at hp
        have hp2 : (vs.map some)[i]? = some (some v) := by rw [← h0 i hi]; exact hp.symm
        rw [hp2, List.getElem?_map (f := some) (l := bs), eb]
        exact ⟨v, rfl, r⟩
      · obtain ⟨v, f, ev, r⟩ := k0.slot (i := i) (x := x) (by rw [List.getElem?_map, ea]; rfl)
        refine ⟨[], ?_, .inr rfl⟩
        rw [ev, List.getElem?_map (f := some) (l := bs), eb]
        refine ⟨v, rfl, ?_⟩
        cases r with
        | sh r => exact .sh (r.mono s)
        | own r => exact absurd rfl (nw _ (List.mem_of_getElem? ea) _).1
        | io r => exact absurd rfl (ni _)
        | bo r => exact .bo (r.mono s fun _ _ => rfl)
  have sub : ∀ j p, p ∈ (pick j).choose → p ∈ fp j := fun j p hp => by
    rcases (pick j).choose_spec.2 with q | q
    · rw [q] at hp; exact hp
    · rw [q] at hp; cases hp
  refine ⟨⟨fun j => (pick j).choose, fun j => (pick j).choose_spec.1, fun j => ?_, fun i j p hi hj => e3 i j p (sub i p hi) (sub j p hj), fun i p hp => e4 i p (sub i p hp)⟩, k.own, k.sub, k.pr, k.f0, k.fz, fun j o hj => ?_, by rw [List.length_map, List.length_map, hl, hlen], k.nft⟩
  · show (pick j).choose.Nodup
    rcases (pick j).choose_spec.2 with q | q
    · rw [q]; exact e2 j
    · rw [q]; exact List.nodup_nil
  · cases ea : as[j]? with
    | none =>
      have : bs[j]? = none := by rw [List.getElem?_eq_none_iff] at ea ⊢; omega
      rw [List.getElem?_map, this] at hj
      rcases hj with hj | hj <;> cases hj
    | some x =>
      rcases hq j x ea with ⟨o1, o', rfl, eb, er⟩ | ⟨ni, eb⟩
      · exact k0.pin j o1 (.inl (by rw [List.getElem?_map, ea]; rfl))
      · rw [List.getElem?_map, eb] at hj
        rcases hj with hj | hj
        · cases hj; exact absurd rfl (ni _)
        · cases hj; exact k0.pin j o (.inr (by rw [List.getElem?_map, ea]; rfl))
end
section
variable {P : Program} {w : World} {K : PySem.W.Frag} {mg : Str → Option Value} {base : Heap}
theorem okXN {x qual : Str} {st : Stmt} {f : Addr} {fd : FuncData} {N ps : List Str} {k : Nat} {sp : Sp} (F : Fun K x qual st f fd) (S : FnScope N ps (defScope st)) (len : ∀ vs H Q E, sp vs H Q E → vs.length = ps.length)
    (hbody : ∀ (cdv : Value) (A : Around) (outer : List Env) (s : Shared) (H : Hp) (vs : List V) (Q : VK) (E : XK), Room k (A.deeper (envOfC qual (defScope st) s.heap.objs.size f cdv)) → sp vs H Q E →
      ∃ t, PSs (cxOf (L2N.CX P w) P w K mg base N qual (defScope st) f cdv A outer s H E) (defBody st) t ∧ t { nx := fun _ H' => Q .non H', rt := Q } (start N vs) H) : FnOk P w K mg base (L2N.CX P w) (k + 1) f fd ps sp := by
  obtain ⟨oc, od, kV, doc, pm, an, cdv, ct, osl, rfl, lk, hcd⟩ := F.ex
  exact fn_of lk hcd S len fun A outer s H vs Q E hr hsp => hbody cdv A outer s H vs Q E hr hsp
/-- THE RULE for a def: its body's mirror is its promise -/
theorem fn_okM {x qual : Str} {st : Stmt} {f : Addr} {fd : FuncData} {N ps : List Str} {k : Nat} {ms : MS} {nl : Nat} (FF : Fun K x qual st f fd) (S : FnScope N ps (defScope st)) (hn : N.length = ps.length + nl)
    (hbody : ∀ (cdv : Value) (A : Around) (outer : List Env) (s : Shared) (H : Hp) (E : XK), Room k (A.deeper (envOfC qual (defScope st) s.heap.objs.size f cdv)) →
      PSts (cxOf (L2N.CX P w) P w K mg base N qual (defScope st) f cdv A outer s H E) (fun c d _ H => E c d H) (defBody st) ms) : FnOk P w K mg base (L2N.CX P w) (k + 1) f fd ps (spM K ⟨mg, w⟩ ps.length (runF ps.length nl ms)) := by
  refine okXN FF S (fun vs H Q E h => ?_) (fun cdv A outer s H vs Q E hr h => ?_)
  · obtain ⟨G, F, as, ok, _, hl, _⟩ := h
    have := ok.len
    rw [List.length_map, List.length_map] at this
    omega
  · obtain ⟨G, F, as, ok, nw, hl, z⟩ := h
    have hlen : vs.length = as.length := by have := ok.len; rw [List.length_map, List.length_map] at this; exact this
    refine ⟨_, hbody cdv A outer s H E hr, ?_⟩
    unfold runF at z
    rw [if_pos hl] at z
    have est : L2.start N vs = vs.map some ++ List.replicate nl none := by
      unfold L2.start
      rw [show N.length - vs.length = nl by omega]
    have h0 : ∀ i : Nat, i < vs.length → (L2.start N vs)[i]? = (vs.map some)[i]? := fun i hi => by
      rw [est, List.getElem?_append_left (by rw [List.length_map]; exact hi)]
    have k0 : Ok K ⟨mg, w⟩ ⟨G.Pr, G.F0, L2.start N vs, G.nf⟩ F H (L2.start N vs) (as.map some ++ List.replicate nl none) := by
      obtain ⟨fp, e1, e2, e3, e4⟩ := ok.env
      have hout : ∀ i, vs.length ≤ i → fp i = [] := fun i hi => by
        have := e1 i
        rw [List.getElem?_eq_none (l := as.map some) (by rw [List.length_map]; omega)] at this
        exact this
      refine ⟨⟨fp, fun i => ?_, e2, e3, e4⟩, ok.own, ok.sub, ok.pr, ok.f0, ok.fz, fun i o h => rfl, by rw [est, List.length_append, List.length_append, List.length_map, List.length_map, hlen, List.length_replicate, List.length_replicate], ok.nft⟩
      by_cases hi : i < vs.length
      · rw [h0 i hi, List.getElem?_append_left (by rw [List.length_map]; omega)]
        exact e1 i
      · rw [List.getElem?_append_right (by rw [List.length_map]; omega)]
        rw [hout i (by omega)]
        unfold SlotR
        cases q : (List.replicate nl (none : Option SV))[i - (as.map some).length]? with
        | none => rfl
        | some y =>
          have := List.mem_of_getElem? q
          rw [List.mem_replicate] at this
          rw [this.2]
    refine ⟨_, F, _, k0, ?_⟩
    cases eo : ms (as.map some ++ List.replicate nl none) with
    | nx ρ' =>
      rw [eo] at z
      cases e9 : outs as ρ' with
      | none => simp only [Out.fin, e9] at z; exact z.elim
      | some bs =>
        simp only [Out.fin, e9] at z
        exact fun F' H' σ' s k => z F' H' .non [] s (Ok.fin ok nw e9 s h0 k) (.sh .non) rfl
    | rt y ρ' =>
      rw [eo] at z
      cases e9 : outs as ρ' with
      | none => simp only [Out.fin, e9] at z; exact z.elim
      | some bs =>
        simp only [Out.fin, e9] at z
        have z : PostF K ⟨mg, w⟩ G F vs Q E (if y.ret = true then .ok y bs else .bad) := z
        by_cases c : y.ret = true
        · rw [if_pos c] at z
          exact fun F' H' σ' v fp s k r => z F' H' v fp s (Ok.fin ok nw e9 s h0 k) r c
        · rw [if_neg c] at z; exact z.elim
    | exc e ρ' =>
      rw [eo] at z
      cases e9 : outs as ρ' with
      | none => simp only [Out.fin, e9] at z; exact z.elim
      | some bs =>
        simp only [Out.fin, e9] at z
        exact fun F' H' σ' c d s k r => z F' H' c d s (Ok.fin ok nw e9 s h0 k) r
    | bk ρ' => rw [eo] at z; exact z.elim
    | ct ρ' => rw [eo] at z; exact z.elim
    | bad => rw [eo] at z; exact z.elim
end
theorem takesN0 {X : Cx} : L2N.Takes X (fun _ _ _ _ => False) := fun _ _ x => by
  obtain ⟨_, _, _, _, _, _, _, _, _, _, _, _, _, _, _, _, z⟩ := x
  exact z.elim
/-! ### the call -/
def SV.toArg : SV → SV
  | .tr o => .bo o | x => x
def callM (n : Nat) (f : MF) (ms : M (List SV)) : M SV := fun ρ => (ms ρ).bind fun xs ρ1 => if xs.all SV.arg = true ∧ xs.length = n then (match f (xs.map SV.toArg) with
  | .ok r _ => .ok r ρ1
  | .exc e _ => .exc e ρ1
  | .bad => .bad) else .bad
section
variable {X : Cx} {W : WX} {q : Bool}
theorem XsR.len {K : PySem.W.Frag} {mg : MG} {Pr F H : Hp} {vs : List V} {xs : List SV} (h : XsR K mg Pr F H vs xs) : vs.length = xs.length := by
  induction h with
  | nil => rfl
  | cons h r ih => rw [List.length_cons, List.length_cons, ih]
theorem XsR.get {K : PySem.W.Frag} {mg : MG} {Pr F H : Hp} {vs : List V} {xs : List SV} (h : XsR K mg Pr F H vs xs) : ∀ {i : Nat} {x : SV}, xs[i]? = some x → ∃ v, vs[i]? = some v ∧ XvR K mg Pr F H v x [] := by
  induction h with
  | nil => intro i x e; simp at e
  | cons h r ih =>
    intro i x e
    cases i with
    | zero => simp at e; subst e; exact ⟨_, rfl, h⟩
    | succ i => exact ih (by simpa using e)
/-- the callee's start -/
theorem call_ok {G : Gh} {F H : Hp} {σ : St} {ρ : Nv} {vs : List V} {xs : List SV} (k : Ok X.K X.wg G F H σ ρ) (r : XsR X.K X.wg G.Pr F H vs xs) : Ok X.K X.wg ⟨H, F, vs.map some, fun _ => False⟩ F H (vs.map some) ((xs.map SV.toArg).map some) := by
  refine ⟨⟨fun _ => [], fun i => ?_, fun _ => List.nodup_nil, (fun _ _ p h => by cases h), (fun _ p h => by cases h)⟩, (by intro p hp; cases hp), k.sub, Same.refl H, Same.refl F, fun _ _ => rfl, fun _ _ _ => rfl, ?_, fun p h => h.elim⟩
  · cases e : xs[i]? with
    | none =>
      have : ((xs.map SV.toArg).map some)[i]? = none := by rw [List.getElem?_map, List.getElem?_map, e]; rfl
      rw [this]
      rfl
    | some x =>
      have : ((xs.map SV.toArg).map some)[i]? = some (some x.toArg) := by rw [List.getElem?_map, List.getElem?_map, e]; rfl
      rw [this]
      obtain ⟨v, ev, rv⟩ := r.get e
      refine ⟨v, by rw [List.getElem?_map, ev]; rfl, ?_⟩
      cases rv with
      | sh rv => exact .sh rv
      | own rv n => exact .own rv
      | bo rv => exact .bo (rv.same (Same.refl F) k.pr)
      | tr rv => exact .bo rv
  · rw [List.length_map, List.length_map, List.length_map, r.len]
theorem call_grow {F F' H H' : Hp} {ρ : Nv} {vs : List V} {as : List SV} {fp0 : List Addr} (s : Same F F') (k : OkX X.K X.wg ⟨H, F, vs.map some, fun _ => False⟩ F' H' (vs.map some) (as.map some) fp0) : Grow F H F' H' ∧ ∀ p ∈ fp0, F' p = none ∧ H p = none := by
  refine ⟨⟨s, k.pr, k.sub, fun p e n => ?_⟩, fun p hp => ⟨(k.own p hp).1, (k.own p hp).2.1⟩⟩
  cases q : H p with
  | none => rfl
  | some o =>
    have := k.fz p fun z => by
      have := z.1
      have : H p = none := this
      rw [q] at this; cases this
    have : F' p = F p := this
    rw [this, e] at n
    exact absurd rfl n
theorem XvR.ret {K : PySem.W.Frag} {mg : MG} {Pr Pr' F H : Hp} {v : V} {x : SV} {fp : List Addr} (h : XvR K mg Pr F H v x fp) (c : x.ret = true) : XvR K mg Pr' F H v x fp := by
  cases h with
  | sh h => exact .sh h
  | own h n => exact .own h n
  | bo h => cases c
  | tr h => cases c
theorem own_arg {K : PySem.W.Frag} {mg : MG} {Pr F H : Hp} {vs : List V} {xs : List SV} (h : XsR K mg Pr F H vs xs) (c : xs.all SV.arg = true) : ∀ x ∈ xs.map SV.toArg, ∀ o, x ≠ .own o ∧ x ≠ .tr o := by
  intro x hx o
  obtain ⟨y, hy, rfl⟩ := List.mem_map.mp hx
  have := List.all_eq_true.mp c y hy
  cases y <;> first | exact absurd this Bool.false_ne_true | exact ⟨(fun z => by cases z), (fun z => by cases z)⟩
/-- what a call's arguments, once known, lead to -/
theorem callee {n : Nat} {m : MF} {ms : M (List SV)} {σ : St} {H : Hp} {Q : VK}
    (h : T X.K X.wg (relX X.K X.wg) W q (callM n m ms) σ H Q) : T X.K X.wg (relA X.K X.wg) W q ms σ H fun vs H1 => spM X.K X.wg n m vs H1 Q (WE W σ) := by
  obtain ⟨G, F, ρ, ok, z⟩ := h
  unfold callM at z
  refine T.bind ok z fun xs ρ1 F1 H1 vs fp0 e1 s1 s2 k1 r z => ?_
  obtain ⟨r, rfl⟩ := r
  by_cases c : xs.all SV.arg = true ∧ xs.length = n
  · rw [if_pos c] at z
    obtain ⟨ha, hl⟩ := c
    refine ⟨_, F1, xs.map SV.toArg, call_ok k1 r, own_arg r ha, by rw [List.length_map]; exact hl, ?_⟩
    cases em : m (xs.map SV.toArg) with
    | bad => rw [em] at z; exact z.elim
    | exc e bs =>
      rw [em] at z
      intro F' H' c d s k x
      obtain ⟨g, _⟩ := call_grow (ρ := ρ1) s k
      exact z F' H' c d (s1.trans s) (Ok.grow k1 g) x
    | ok u bs =>
      rw [em] at z
      intro F' H' v fp s k x hr
      obtain ⟨g, n0⟩ := call_grow (ρ := ρ1) s k
      exact z F' H' v fp (s1.trans s) (fun hq => (s2 hq).trans g.same) (Ok.growX k1 g n0) (x.ret hr)
  · rw [if_neg c] at z; exact z.elim
variable {k n : Nat} {f : Addr} {fd : FuncData} {ps : List Str} {x : Str} {p pos : Pos} {e : Expr} {es : List Expr} {m : MF} {ms : M (List SV)}
theorem px_call (Fn : FnOk X.prog X.w X.K X.mg X.base (L2N.CX X.prog X.w) k f fd ps (spM X.K X.wg n m)) (hr : Room k X.A) (hg : Gl X x) (hm : X.mg x = some (.ref f)) (hk : PySem.W.keepIn X.K (.ref f) = true) (hb : Binds X.K fd ps []) (tk : L2N.Takes X W)
    (ha : PAs X W (e :: es) q ms) (hdb : (x == ("__debug__" : Str)) = false := by decide) (he : starEach (e :: es) X.env = (false, eval e X.env) :: starEach es X.env := by rfl) (hpl : (backTo pos (starEach es X.env)).any (·.1) = false := by rfl) :
    PX X W (.Call (.Name x p) (e :: es) [] pos) q (callM n m ms) := PE.imp (pe_callSD (E := WE W) Fn hr hg hm hk hb .nil (fun σ => L2N.passAt tk σ) ha hdb he hpl) fun σ H Q h => by
  unfold tCallSD
  simp only [List.append_nil]
  exact callee h
end
/-- the module's name x is a def that keeps its mirror's promise -/
structure FnM (P : Program) (w : World) (K : PySem.W.Frag) (mg : Str → Option Value) (base : Heap) (x : Str) (k n : Nat) (m : MF) : Prop where
  ex : ∃ f fd ps, FnOk P w K mg base (L2N.CX P w) k f fd ps (spM K ⟨mg, w⟩ n m) ∧ Binds K fd ps [] ∧ PySem.W.keepIn K (.ref f) = true ∧ mg x = some (.ref f)
theorem FnM.mono {P : Program} {w : World} {K : PySem.W.Frag} {mg : Str → Option Value} {base : Heap} {x : Str} {j k n : Nat} {m : MF} (h : FnM P w K mg base x j n m) (l : j ≤ k) : FnM P w K mg base x k n m := by
  obtain ⟨f, fd, ps, a, b, c, d⟩ := h.ex
  exact ⟨f, fd, ps, a.mono l, b, c, d⟩
/-- where a def of the text stands -/
structure DefAt (K : PySem.W.Frag) (mg : Str → Option Value) (x : Str) (st : Stmt) (ps : List Str) (f : Addr) (fd : FuncData) : Prop where
  F : Fun K x x st f fd
  b : Binds K fd ps []
  m : mg x = some (.ref f)
section
variable {P : Program} {w : World} {K : PySem.W.Frag} {mg : Str → Option Value} {base : Heap}
theorem fnM {x : Str} {st : Stmt} {f : Addr} {fd : FuncData} {N ps : List Str} {k np nl : Nat} {ms : MS} (T : DefAt K mg x st ps f fd) (S : FnScope N ps (defScope st)) (hp : ps.length = np) (hn : N.length = np + nl)
    (hbody : ∀ (cdv : Value) (A : Around) (outer : List Env) (s : Shared) (H : Hp) (E : XK), Room k (A.deeper (envOfC x (defScope st) s.heap.objs.size f cdv)) →
      PSts (cxOf (L2N.CX P w) P w K mg base N x (defScope st) f cdv A outer s H E) (fun c d _ H => E c d H) (defBody st) ms) : FnM P w K mg base x (k + 1) np (runF np nl ms) := by
  subst hp
  exact ⟨f, fd, ps, fn_okM T.F S hn hbody, T.b, T.F.kp, T.m⟩
/-- no run is promised -/
theorem fnM_bad {x : Str} {st : Stmt} {f : Addr} {fd : FuncData} {ps : List Str} {k : Nat} (T : DefAt K mg x st ps f fd) : FnM P w K mg base x k ps.length (fun _ => .bad) := by
  refine ⟨f, fd, ps, ⟨fun vs H Q E h => ?_, fun A outer s H args us vs Q E _ _ _ _ h => ?_⟩, T.b, T.F.kp, T.m⟩
  · obtain ⟨_, _, _, _, _, _, h⟩ := h; exact h.elim
  · obtain ⟨_, _, _, _, _, _, h⟩ := h; exact h.elim
end
section
variable {X : Cx} {W : WX} {q : Bool} {k n : Nat} {x : Str} {p pos : Pos} {e : Expr} {es : List Expr} {m : MF} {ms : M (List SV)}
theorem px_callM (Fn : FnM X.prog X.w X.K X.mg X.base x k n m) (hr : Room k X.A) (hg : Gl X x) (tk : L2N.Takes X W) (ha : PAs X W (e :: es) q ms) (hdb : (x == ("__debug__" : Str)) = false := by decide) (he : starEach (e :: es) X.env = (false, eval e X.env) :: starEach es X.env := by rfl) (hpl : (backTo pos (starEach es X.env)).any (·.1) = false := by rfl) :
    PX X W (.Call (.Name x p) (e :: es) [] pos) q (callM n m ms) := by
  obtain ⟨f, fd, ps, a, b, c, d⟩ := Fn.ex
  exact px_call a hr hg d c b tk ha hdb he hpl
end
/-! ### the law -/
/-- what law(script) promises -/
def spLaw (K : PySem.W.Frag) : Sp := fun vs H Q _ => ∃ (a : Addr) (ns : List Int), vs = [.ref a] ∧ SqL K H a (ns.map V.int) ∧ ns.length ≤ 63 ∧ ∀ H', Q (.bl true) H'
/-- the mirror says True of every script -/
def Says (m : MF) : Prop := ∀ ns : List Int, ns.length ≤ 63 → ∃ bs, m [.sh (.scr ns)] = .ok (.sh (.bl true)) bs
theorem law_promise {P : Program} {w : World} {K : PySem.W.Frag} {mg : Str → Option Value} {base : Heap} {k : Nat} {m : MF} {x : Str} (Fn : FnM P w K mg base x k 1 m) (h : Says m) {fa : Addr} (hfa : mg x = some (.ref fa)) :
    ∃ fd ps, FnOk P w K mg base (L2N.CX P w) k fa fd ps (spLaw K) ∧ Binds K fd ps [] := by
  obtain ⟨f, fd, ps, a, b, c, d⟩ := Fn.ex
  rw [d] at hfa
  cases hfa
  refine ⟨fd, ps, a.imp fun vs H Q E hs => ?_, b⟩
  obtain ⟨ad, ns, rfl, hS, hl, q⟩ := hs
  obtain ⟨bs, e⟩ := h ns hl
  refine ⟨⟨H, H, [some (.ref ad)], fun _ => False⟩, H, [.sh (.scr ns)], ⟨⟨fun _ => [], fun i => ?_, fun _ => List.nodup_nil, (fun _ _ p h => by cases h), (fun _ p h => by cases h)⟩, (by intro p hp; cases hp), Same.refl H, Same.refl H, Same.refl H, fun _ _ => rfl, fun i o h => rfl, rfl, fun p h => h.elim⟩, ?_, rfl, ?_⟩
  · cases i with
    | zero => exact ⟨_, rfl, .sh (.scr hS)⟩
    | succ i => rfl
  · intro x hx o
    rw [List.mem_singleton] at hx
    subst hx
    exact ⟨(fun z => by cases z), (fun z => by cases z)⟩
  · rw [e]
    intro F' H' v fp s k r _
    have := r.bl (i := true) rfl
    subst this
    exact q H'
theorem cx_none {P : Program} {w : World} : ∀ (H : Hp) (s : Shared) (e : Value) (s' : Shared), L2N.CX P w [] H s (fun _ _ _ => False) e s' → False := fun H s e s' h => by
  obtain ⟨_, _, _, _, _, _, _, _, _, _, _, _, z⟩ := h
  exact z.elim
end R

/-! R9: what the printer names besides. -/
namespace R
open PySem PySem.Spec PyProof.Rows L2
/-- the fuel of a while -/
def FU : Nat := 100000
/-- the same, of a loop ahead of the rest -/
def seqL (a b : MS) : MS := seqS a b
/-- the same, of an if whose branches meet behind it -/
def seqI (a b : MS) : MS := seqS a b
/-- x = [.. for ..] -/
def setC (i : Nat) (t : Tg) (it : M (List D)) (c : M Bool) (e : M SV) : MS := setS i (compM t it c e)
theorem hu65 {A : Around} {k : Nat} (hr : Room k A) : A.units + 65 < cLine := by
  have := hr.un
  omega
abbrev gIAdd := gInt (fun _ _ => true) fun i j => i + j
section
variable {X : Cx} {W : WX} {q : Bool} {pos : Pos}
theorem px_ty {x : Str} {n : String} (hg : Gl X x) (hm : X.mg x = none) (hv : bootBuiltins x = some (.type n)) (hn : x ≠ "__name__" := by decide) (hd : (x == ("__debug__" : Str)) = false := by decide) : PX X W (.Name x pos) true (pureM (.sh (.ty n))) :=
  px_pure (pe_bltn (v := .ty n) hg hm hv rfl hn hd) fun _ _ _ => .sh (.ty n)
theorem px_dict0 : PX X W (.Dict [] [] pos) true (pureM (.own (.dic 0 []))) := PE.imp pe_dnewK fun σ H Q ⟨G, F, ρ, ok, z⟩ => by
  intro p np
  have g := grow_own (o := .dK []) ok.sub np
  exact z F (upd H p (.dK [])) (.ref p) [p] (Same.refl F) (fun _ => g.same) (Ok.growX ok g fun b hb => by rw [List.mem_singleton] at hb; subst hb; exact ⟨Same.free ok.sub np, np⟩) (.own (.dK upd_same .nil) (by simp))
/-! written dicts: text keys -/
abbrev PsM := M (List (DKey × D))
def p0 : PsM := fun ρ => .ok [] ρ
def p1 (k : DKey) (m : M SV) (r : PsM) : PsM := fun ρ => (m ρ).bind fun x ρ1 => match x with
  | .sh d => (r ρ1).bind fun ps ρ2 => .ok ((k, d) :: ps) ρ2
  | _ => .bad
def dputs (acc : List (DKey × D)) (ps : List (DKey × D)) : List (DKey × D) := ps.foldl (fun acc p => dput acc p.1 p.2) acc
def dispM (m : PsM) : M SV := fun ρ => (m ρ).bind fun ps ρ1 => if ps.length ≤ 15 then .ok (.own (.dic 0 (dputs [] ps))) ρ1 else .bad
/-- the pairs read -/
structure PPm (X : Cx) (W : WX) (pos : Pos) (keys : List (Option Expr)) (values : List Expr) (m : PsM) : Prop where
  ex : ∃ trs, PPs X pos keys values trs ∧ ∀ σ H (Q : List (V × V) → Hp → Prop), (∃ G F ρ, Ok X.K X.wg G F H σ ρ ∧ (match m ρ with
    | .ok ps ρ' => ∀ F' H' kvs, Same F F' → Same H H' → Ok X.K X.wg G F' H' σ ρ' → RpK X.K X.wg F' kvs ps → Q (kvs.map fun kv => (kV kv.1, kv.2)) H'
    | .exc e ρ' => ∀ F' H' c d, Same F F' → Ok X.K X.wg G F' H' σ ρ' → ExR X.K X.wg F' H' c d e → W c d σ H'
    | .bad => False)) → tPairs trs σ H Q
theorem pps_nil0 : PPm X W pos [] [] p0 := ⟨[], pps_nil, fun σ H Q ⟨G, F, ρ, ok, z⟩ => z F H [] (Same.refl F) (Same.refl H) ok .nil⟩
theorem pps_cons0 {k : Str} {j : _} {kp : Pos} {v : Expr} {ks : List (Option Expr)} {vs : List Expr} {m : M SV} {r : PsM} (hv : PX X W v true m) (hr : PPm X W pos ks vs r) : PPm X W pos (some (.Constant (.str k) j kp) :: ks) (v :: vs) (p1 (.inl (.inr k)) m r) := by
  obtain ⟨trs, h, kk⟩ := hr.ex
  refine ⟨_, pps_cons pe_str hv h, fun σ H Q ⟨G, F, ρ, ok, z⟩ => ?_⟩
  show T X.K X.wg (relX X.K X.wg) W true m σ H fun y H2 => tPairs trs σ H2 fun ps H3 => Q ((.str k, y) :: ps) H3
  unfold p1 at z
  refine ⟨G, F, ρ, ok, ?_⟩
  cases em : m ρ with
  | bad => rw [em] at z; exact z.elim
  | exc e ρ1 => rw [em] at z; exact z
  | ok x ρ1 =>
    rw [em] at z
    intro F1 H1 v1 fp s1 s2 k1 rx
    cases rx with
    | @sh d rx =>
      refine kk σ H1 _ ⟨G, F1, ρ1, k1, ?_⟩
      have z : (match (r ρ1).bind fun ps ρ2 => Res.ok (((Sum.inl (Sum.inr k) : DKey), d) :: ps) ρ2 with
    | .ok ps ρ' => ∀ F' H' kvs, Same F F' → Same H H' → Ok X.K X.wg G F' H' σ ρ' → RpK X.K X.wg F' kvs ps → Q (kvs.map fun kv => (kV kv.1, kv.2)) H'
    | .exc e ρ' => ∀ F' H' c d, Same F F' → Ok X.K X.wg G F' H' σ ρ' → ExR X.K X.wg F' H' c d e → W c d σ H'
    | .bad => False) := z
      cases er : r ρ1 with
      | bad => rw [er] at z; exact z
      | exc e ρ2 => rw [er] at z; exact fun F' H' c d a b => z F' H' c d (s1.trans a) b
      | ok ps ρ2 =>
        rw [er] at z
        exact fun F' H' kvs a b c r => z F' H' ((.inr k, v1) :: kvs) (s1.trans a) ((s2 rfl).trans b) c (.cons (rx.mono a) r)
    | own r n => exact z.elim
    | bo r => exact z.elim
    | tr r => exact z.elim
theorem RpK.merge {K : PySem.W.Frag} {mg : MG} {F : Hp} {more : List (Key × V)} {ps : List (DKey × D)} (h : RpK K mg F more ps) : ∀ {kvs : List (Key × V)} {qs : List (DKey × D)}, RpK K mg F kvs qs → RpK K mg F (mergeK kvs more) (dputs qs ps) := by
  induction ps generalizing more with
  | nil => intro kvs qs k; cases h; exact k
  | cons p r ih =>
    intro kvs qs k
    cases h with
    | cons hv t => exact ih t (RpK.put k hv)
theorem px_disp {keys : List (Option Expr)} {values : List Expr} {m : PsM} (h : PPm X W pos keys values m) (hall : keys.all (·.isSome) = true) (hl : keys.length = values.length) (h0 : keys ≠ []) (h15 : keys.length ≤ 15) : PX X W (.Dict keys values pos) true (dispM m) := by
  obtain ⟨trs, hp, kk⟩ := h.ex
  refine PE.imp (pe_disp hp hall hl h0 h15) fun σ H Q ⟨G, F, ρ, ok, z⟩ => ?_
  intro p np
  have Fp : F p = none := Same.free ok.sub np
  have g := grow_own (o := .dK []) ok.sub np
  have fr : G.free p := by
    refine ⟨Same.free ok.pr np, fun w => ?_⟩
    obtain ⟨o, e⟩ := ok.nft p w
    rw [np] at e; cases e
  have k0 := (Ok.growX (fp := [p]) ok g fun b hb => by rw [List.mem_singleton] at hb; subst hb; exact ⟨Fp, np⟩).aside upd_same
  refine kk σ _ _ ⟨_, F, ρ, k0, ?_⟩
  unfold dispM at z
  cases em : m ρ with
  | bad => rw [em] at z; exact z
  | exc e ρ1 =>
    rw [em] at z
    exact fun F' H' c d a b x => z F' H' c d a (Ok.unaside (G := G) b fr (Same.free ok.f0 Fp)).drop x
  | ok ps ρ1 =>
    rw [em] at z
    intro F1 H1 kvs s1 s2 k1 r
    have z : Post X.K X.wg (relX X.K X.wg) W G F H σ true Q (if ps.length ≤ 15 then .ok (.own (.dic 0 (dputs [] ps))) ρ1 else .bad) := z
    by_cases c : ps.length ≤ 15
    · rw [if_pos c] at z
      have hp1 := s2 _ _ (upd_same (H := H) (a := p) (o := .dK []))
      refine ⟨hp1, kvs, rfl, by rw [r.length]; exact c, ?_⟩
      have k2 := (Ok.unaside (G := G) k1 fr (Same.free ok.f0 Fp)).wr (o := .dK (mergeK [] kvs)) (by simp) ⟨_, hp1⟩
      exact z F1 _ (.ref p) [p] s1 (fun _ b u e => by rw [upd_ne (ne_of_none e np)]; exact s2 _ _ (g.same _ _ e)) k2 (.own (.dK upd_same (RpK.merge r .nil)) (by simp))
    · rw [if_neg c] at z; exact z.elim
end
/-! dict(d), range by steps -/
def gDict11 (x : SV) : Option SV := match x.data with
  | .dic t ps => if t = 0 then some (.own (.dic 0 ps)) else none
  | _ => none
abbrev gDict1 := un1 gDict11
section
variable {X : Cx} {W : WX} {q : Bool} {pos : Pos}
theorem give_dK {Pr F H : Hp} {z : SV} {kvs : List (Key × V)} {ps : List (DKey × D)} {Q : VK} (hz : z = .own (.dic 0 ps)) (rs : RpK X.K X.wg F kvs ps) (s : Same F H) (k : ∀ F' H' u fz, Grow F H F' H' → XvR X.K X.wg Pr F' H' u z fz → (∀ p ∈ fz, F' p = none ∧ H p = none) → Q u H') :
    ∀ p, H p = none → Q (.ref p) (upd H p (.dK kvs)) := fun p n => by
  subst hz
  have g := grow_own (o := .dK kvs) s n
  exact k _ _ _ [p] g (.own (.dK upd_same rs) (by simp)) (by intro q hq; rw [List.mem_singleton] at hq; subst hq; exact ⟨Same.free s n, n⟩)
theorem cg_dict : CallG X (CallR X (.type "dict")) gDict1 := by
  refine cg1 fun Pr F H x v z Q s p rx e k => ?_
  unfold gDict11 at e
  split at e
  · rename_i t ps ex
    split at e
    · rename_i c
      cases e
      obtain ⟨a, hv, h⟩ := rx.dict p s ex
      subst hv
      rcases h with ⟨_, kvs, h, r⟩ | ⟨c2, _⟩ | ⟨c2, _⟩
      · exact ⟨_, call_dictD, a, kvs, rfl, .inl h, give_dK rfl r s k⟩
      · rw [c] at c2; cases c2
      · rw [c] at c2; cases c2
    · cases e
  · cases e
/-- the turns of a range up by c -/
def rangeC (i c : Int) (n : Nat) : List D := (List.range n).map fun k : Nat => .int (i + (k : Int) * c)
def rgOk (i j c : Int) : Bool := decide (c ≠ 0 ∧ c.natAbs < 1073741824) && Builtin.Range.small i j c
def range3 (xs : List SV) : Option (List D) := match xs with
  | [x, y, z] => match x.int?, y.int?, z.int? with
    | some i, some j, some c => if rgOk i j c = true ∧ 0 ≤ Builtin.Range.rangeSize i j c then some (rangeC i c (Builtin.Range.rangeSize i j c).toNat) else none
    | _, _, _ => none
  | _ => none
theorem it_range3 {tg a b c : Expr} {ms : M (List SV)} {qs : Bool} {p : Pos} (hg : Gl X "range") (hm : X.mg "range" = none) (ha : PAs X W [a, b, c] q ms) (hs : starEach [a, b, c] X.env = (false, eval a X.env) :: starEach [b, c] X.env := by rfl) (hpl : (backTo pos (starEach [b, c] X.env)).any (·.1) = false := by rfl) : PIt X W tg (.Call (.Name "range" p) [a, b, c] [] pos) q qs (itA range3 ms) :=
  PI.imp (pi_range3 hg hm ha hs hpl) fun σ H R ⟨G, F, ρ, ok, z⟩ => by
    unfold itA at z
    refine T.bind ok z fun xs ρ1 F1 H1 vs fp0 e1 s1 s2 k1 r z => ?_
    obtain ⟨r, rfl⟩ := r
    cases e2 : range3 xs with
    | none => rw [e2] at z; exact z.elim
    | some ds =>
      rw [e2] at z
      cases r with
      | nil => cases e2
      | cons r1 t1 =>
        cases t1 with
        | nil => cases e2
        | cons r2 t2 =>
          cases t2 with
          | nil => cases e2
          | cons r3 t3 =>
            cases t3 with
            | cons r4 t4 => cases e2
            | nil =>
              rename_i v x w y u zz
              have e2 : (match x.int?, y.int?, zz.int? with
                | some i, some j, some c => if rgOk i j c = true ∧ 0 ≤ Builtin.Range.rangeSize i j c then some (rangeC i c (Builtin.Range.rangeSize i j c).toNat) else none
                | _, _, _ => none) = some ds := e2
              cases e3 : x.int? with
              | none => rw [e3] at e2; cases e2
              | some i =>
                cases e4 : y.int? with
                | none => rw [e3, e4] at e2; cases e2
                | some j =>
                  cases e5 : zz.int? with
                  | none => rw [e3, e4, e5] at e2; cases e2
                  | some c =>
                    rw [e3, e4, e5] at e2
                    have e2 : (if rgOk i j c = true ∧ 0 ≤ Builtin.Range.rangeSize i j c then some (rangeC i c (Builtin.Range.rangeSize i j c).toNat) else none) = some ds := e2
                    by_cases hc : rgOk i j c = true ∧ 0 ≤ Builtin.Range.rangeSize i j c
                    · rw [if_pos hc] at e2
                      cases e2
                      obtain ⟨hc, hn⟩ := hc
                      unfold rgOk at hc
                      rw [Bool.and_eq_true] at hc
                      have h1 := of_decide_eq_true hc.1
                      exact ⟨i, j, c, _, by rw [SV.int_of r1 e3, SV.int_of r2 e4, SV.int_of r3 e5], ⟨h1.1, h1.2, hc.2, by omega⟩, z F1 H1 _ [] s1 s2 k1 ⟨rfl, itr_range fun F' H' h => h.2.1⟩⟩
                    · rw [if_neg hc] at e2; cases e2
end
/-! two dicts that hold the same -/
def dSame : List (DKey × D) → List (DKey × D) → Bool
  | [], [] => true
  | p :: r, p' :: r' => decide (p.1 = p'.1) && (match p.2.sc, p'.2.sc with | some v, some w => decide (v = w) | _, _ => false) && dSame r r'
  | _, _ => false
theorem dSame.eq {K : PySem.W.Frag} {mg : MG} {F : Hp} : ∀ {ps qs : List (DKey × D)} {kvs ks : List (Key × V)}, RpK K mg F kvs ps → RpK K mg F ks qs → dSame ps qs = true → kvs = ks ∧ (∀ p ∈ kvs, flatB p.2 = true) ∧ kvs.map (fun p => (Sum.inl p.1 : DKey)) = ps.map (·.1)
  | [], [], _, _, h, k, _ => by cases h; cases k; exact ⟨rfl, (fun p h => by cases h), rfl⟩
  | [], _ :: _, _, _, h, k, e => by cases e
  | _ :: _, [], _, _, h, k, e => by cases e
  | (a, d) :: ps, (b, e) :: qs, _, _, h, k, q => by
    cases h with
    | cons hv h =>
      cases k with
      | cons kv k =>
        unfold dSame at q
        rw [Bool.and_eq_true, Bool.and_eq_true] at q
        obtain ⟨⟨q1, q2⟩, q3⟩ := q
        obtain ⟨r1, r2, r3⟩ := dSame.eq h k q3
        have q1 := of_decide_eq_true q1
        injection q1 with q1
        subst q1
        cases e1 : d.sc with
        | none => simp only [e1] at q2; cases q2
        | some v =>
          cases e2 : e.sc with
          | none => simp only [e1, e2] at q2; cases q2
          | some w =>
            simp only [e1, e2] at q2
            have q2 := of_decide_eq_true q2
            subst q2
            have := hv.scv e1
            subst this
            have := kv.scv e2
            subst this
            refine ⟨by rw [r1], ?_, by rw [List.map_cons, List.map_cons, r3]⟩
            intro p hp
            rcases List.mem_cons.mp hp with rfl | hp
            · cases d <;> cases e1 <;> rfl
            · exact r2 p hp
def gDEq (x y : SV) : Option SV := match x.data, y.data with
  | .dic t ps, .dic u qs => if t = 0 ∧ u = 0 ∧ dSame ps qs = true ∧ (ps.map (·.1)).Nodup then some (.sh (.bl true)) else none
  | _, _ => none
theorem og_deq {X : Cx} (hu' : X.A.units + 1 < cLine) : OpG X (OpR X (compareOp .Eq)) gDEq := by
  have hu := Nat.lt_of_succ_lt hu'
  intro Pr F H x y v w fx fy z Q s p rx ry e k
  unfold gDEq at e
  split at e
  · rename_i t ps u qs ex ey
    by_cases c : t = 0 ∧ u = 0 ∧ dSame ps qs = true ∧ (ps.map (·.1)).Nodup
    · rw [if_pos c] at e
      cases e
      obtain ⟨rfl, rfl, c1, c2⟩ := c
      obtain ⟨a, rfl, ha⟩ := rx.dict p s ex
      obtain ⟨b, rfl, hb⟩ := ry.dict p s ey
      rcases ha with ⟨_, kvs, ha, ra⟩ | ⟨c3, _⟩ | ⟨c3, _⟩
      · rcases hb with ⟨_, ks, hb, rb⟩ | ⟨c3, _⟩ | ⟨c3, _⟩
        · obtain ⟨rfl, e1, e2⟩ := dSame.eq ra rb c1
          refine ⟨_, op_eq_dict hu, a, b, kvs, rfl, rfl, ha, hb, ?_, e1, give rfl rfl s k⟩
          rw [← e2] at c2
          exact (List.pairwise_map.mpr ((List.pairwise_map.mp c2).imp fun h z => h (by rw [z])))
        · cases c3
        · cases c3
      · cases c3
      · cases c3
    · rw [if_neg c] at e; cases e
  · cases e
theorem fnX {P : Program} {w : World} {K : PySem.W.Frag} {mg : Str → Option Value} {base : Heap} {x : Str} {st : Stmt} {f : Addr} {fd : FuncData} {N ps : List Str} {k np nl : Nat} {ms : MS} (T : DefAt K mg x st ps f fd) (S : FnScope N ps (defScope st)) (hp : ps.length = np) (hn : N.length = np + nl)
    (hbody : ∀ (cdv : Value) (A : Around) (outer : List Env) (s : Shared) (H : Hp) (E : XK), Room k (A.deeper (envOfC x (defScope st) s.heap.objs.size f cdv)) →
      PSts (cxOf (L2N.CX P w) P w K mg base N x (defScope st) f cdv A outer s H E) (fun c d _ H => E c d H) (defBody st) ms) : FnOk P w K mg base (L2N.CX P w) (k + 1) f fd ps (spM K ⟨mg, w⟩ np (runF np nl ms)) := by
  subst hp
  exact fn_okM T.F S hn hbody
theorem law_fn {P : Program} {w : World} {K : PySem.W.Frag} {mg : Str → Option Value} {base : Heap} {k : Nat} {m : MF} {fa : Addr} {fd : FuncData} {ps : List Str} (a : FnOk P w K mg base (L2N.CX P w) k fa fd ps (spM K ⟨mg, w⟩ 1 m)) (h : Says m) :
    FnOk P w K mg base (L2N.CX P w) k fa fd ps (spLaw K) := a.imp fun vs H Q E hs => by
  obtain ⟨ad, ns, rfl, hS, hl, q⟩ := hs
  obtain ⟨bs, e⟩ := h ns hl
  refine ⟨⟨H, H, [some (.ref ad)], fun _ => False⟩, H, [.sh (.scr ns)], ⟨⟨fun _ => [], fun i => ?_, fun _ => List.nodup_nil, (fun _ _ p h => by cases h), (fun _ p h => by cases h)⟩, (by intro p hp; cases hp), Same.refl H, Same.refl H, Same.refl H, fun _ _ => rfl, fun i o h => rfl, rfl, fun p h => h.elim⟩, ?_, rfl, ?_⟩
  · cases i with
    | zero => exact ⟨_, rfl, .sh (.scr hS)⟩
    | succ i => rfl
  · intro x hx o
    rw [List.mem_singleton] at hx
    subst hx
    exact ⟨(fun z => by cases z), (fun z => by cases z)⟩
  · rw [e]
    intro F' H' v fp s k r _
    have := r.bl (i := true) rfl
    subst this
    exact q H'
end R

/-! R10: enumerate. -/
namespace R
open PySem PySem.Spec PyProof.Rows L2
def enumF : Nat → List D → List D
  | _, [] => []
  | n, d :: ds => .tup [.int n, d] :: enumF (n + 1) ds
theorem enumF_at {d : D} : ∀ {ds : List D} {n i : Nat}, (enumF n ds)[i]? = some d → ∃ e, ds[i]? = some e ∧ d = .tup [.int ((n + i : Nat) : Int), e]
  | [], n, i, h => by simp [enumF] at h
  | e :: ds, n, 0, h => by
    unfold enumF at h
    cases h
    exact ⟨e, rfl, rfl⟩
  | e :: ds, n, i + 1, h => by
    unfold enumF at h
    rw [List.getElem?_cons_succ] at h
    obtain ⟨e', h1, h2⟩ := enumF_at h
    exact ⟨e', h1, by rw [h2, show n + 1 + i = n + (i + 1) by omega]⟩
theorem enumF_len : ∀ {ds : List D} {n : Nat}, (enumF n ds).length = ds.length
  | [], n => rfl
  | e :: ds, n => by unfold enumF; rw [List.length_cons, List.length_cons, enumF_len]
def D.litems : D → Option (List D)
  | .lst ds => some ds | .scr ns => some (ns.map D.int) | _ => none
section
variable {X : Cx} {W : WX} {q : Bool} {tg e : Expr} {m : M SV} {ms : M (List SV)} {pos : Pos}
/-- a list that stays where it is -/
theorem list_stays {G : Gh} {F H : Hp} {v : V} {x : SV} {fp : List Addr} {ds : List D} {qs : Bool} (s : Same F H) (p : Same G.Pr H) (r : XvR X.K X.wg G.Pr F H v x fp) (e : x.data.litems = some ds) (hst : x.st = true ∨ qs = true) :
    ∃ a vs, v = .ref a ∧ SqL X.K H a vs ∧ Rps X.K X.wg F vs ds ∧ ∀ F' H', (Same F F' ∧ Same F' H' ∧ Same G.Pr H' ∧ (qs = true → Same H H')) → SqL X.K H' a vs := by
  cases ed : x.data with
  | lst es =>
    rw [ed] at e
    cases e
    rcases hst with hst | hq
    · cases r with
      | sh r =>
        cases (show _ = D.lst ds from ed)
        cases r with
        | lst h r => exact ⟨_, _, rfl, .inl (.inl (s _ _ h)), r, fun F' H' hS => .inl (.inl (hS.2.1 _ _ (hS.1 _ _ h)))⟩
      | bo r =>
        cases r with
        | lst h r => cases ed; exact ⟨_, _, rfl, .inl (.inl (p _ _ h)), r, fun F' H' hS => .inl (.inl (hS.2.2.1 _ _ h))⟩
        | dK h r => cases ed
        | dT h r => cases ed
        | dX h r => cases ed
        | ins c h r => cases ed
        | pk h r => cases ed
      | own r n => cases hst
      | tr r => cases hst
    · obtain ⟨a, vs, rfl, h, rr⟩ := r.list p s ed
      exact ⟨a, vs, rfl, .inl (.inl h), rr, fun F' H' hS => .inl (.inl (hS.2.2.2 hq _ _ h))⟩
  | scr ns =>
    rw [ed] at e
    cases e
    have key : Rp X.K X.wg F v (.scr ns) := by
      have bad : ∀ {o : O} {fq : List Addr} {H : Hp}, Ow X.K X.wg F H v o fq → o.data = .scr ns → False := fun {o fq H} h e => by cases h <;> cases e
      cases r with
      | sh r => cases (show _ = D.scr ns from ed); exact r
      | own r n => exact (bad r ed).elim
      | bo r => exact (bad r ed).elim
      | tr r => exact (bad r ed).elim
    cases key with
    | scr h => exact ⟨_, _, rfl, L2.Same.seq s h, rps_ints ns, fun F' H' hS => L2.Same.seq hS.2.1 (L2.Same.seq hS.1 h)⟩
  | _ => rw [ed] at e; cases e
theorem itr_enum {K : PySem.W.Frag} {mg : MG} {F : Hp} {S : Hp → Hp → Prop} {a : Addr} {vs : List V} {ds : List D} (hs : ∀ F' H', S F' H' → Same F F' ∧ Same F' H' ∧ SqL K H' a vs) (r : Rps K mg F vs ds) : ItR K mg S (Ite K a) (enumF 0 ds) where
  go := fun i F' H' h hi => by
    obtain ⟨_, _, q⟩ := hs F' H' h
    have : i < vs.length := by rw [Rps.length r]; rw [enumF_len] at hi; exact hi
    exact ⟨vs, vs[i], q, List.getElem?_eq_getElem this⟩
  yld := fun i F' H' x H2 d h e y => by
    obtain ⟨s1, s2, q⟩ := hs F' H' h
    obtain ⟨t, x', rfl, n, rfl, y⟩ := y
    obtain ⟨d', e1, rfl⟩ := enumF_at e
    obtain ⟨v, ev, rv⟩ := r.at e1
    have := (y vs q).symm.trans ev
    cases this
    have g := grow_frozen (o := .tup [.int (i : Nat), x']) s2 n
    refine ⟨_, g, .tup upd_same (.cons ?_ (.cons ((rv.mono s1).mono g.sub) .nil))⟩
    rw [Nat.zero_add]
    exact .int _
  stop := fun F' H' h => by
    obtain ⟨_, _, q⟩ := hs F' H' h
    exact ⟨vs, q, by rw [enumF_len, Rps.length r]; exact Nat.le_refl _⟩
/-- enumerate of a list that stays -/
def itE (qs : Bool) (ms : M (List SV)) : M (List D) := fun ρ => (ms ρ).bind fun xs ρ1 => match xs with
  | [x] => match x.data.litems with
    | some ds => if (x.st || qs) = true then .ok (enumF 0 ds) ρ1 else .bad
    | none => .bad
  | _ => .bad
theorem it_enum {elts : List Expr} {kk : Nat} {tpos p : Pos} {qs : Bool} (hg : Gl X "enumerate") (hm : X.mg "enumerate" = none) (ha : PAs X W [e] q ms) (hs : starEach [e] X.env = [(false, eval e X.env)] := by rfl) :
    PIt X W (.Tuple elts kk tpos) (.Call (.Name "enumerate" p) [e] [] pos) q qs (itE qs ms) := PI.imp (pi_enum hg hm ha hs) fun σ H R ⟨G, F, ρ, ok, z⟩ => by
  unfold itE at z
  refine T.bind ok z fun xs ρ1 F1 H1 vs fp0 e1 s1 s2 k1 r z => ?_
  obtain ⟨r, rfl⟩ := r
  cases r with
  | nil => exact z.elim
  | cons r1 t1 =>
    cases t1 with
    | cons r2 t2 => exact z.elim
    | nil =>
      rename_i v x
      have z : Post X.K X.wg (relI X.K X.wg qs) W G F H σ q R (match x.data.litems with
        | some ds => if (x.st || qs) = true then .ok (enumF 0 ds) ρ1 else .bad
        | none => .bad) := z
      cases e2 : x.data.litems with
      | none => rw [e2] at z; exact z.elim
      | some ds =>
        rw [e2] at z
        have z : Post X.K X.wg (relI X.K X.wg qs) W G F H σ q R (if (x.st || qs) = true then .ok (enumF 0 ds) ρ1 else .bad) := z
        by_cases c : (x.st || qs) = true
        · rw [if_pos c] at z
          obtain ⟨a, ws, rfl, h1, h2, h3⟩ := list_stays (qs := qs) k1.sub k1.pr r1 e2 (by simpa using c)
          exact ⟨a, ws, rfl, h1, z F1 H1 _ [] s1 s2 k1 ⟨rfl, itr_enum (fun F' H' hS => ⟨hS.1, hS.2.1, h3 F' H' hS⟩) h2⟩⟩
        · rw [if_neg c] at z; exact z.elim
end
end R

/-! R11: instances. -/
namespace R
open PySem PySem.Spec PyProof.Rows L2
/-- what the walk asks of a class and an attribute -/
def ClsF (K : PySem.W.Frag) (mg : Str → Option Value) (C n : Str) : Prop := ∀ c, mg C = some (.ref c) → Cls K c ∧ NoAttr K c n
def FV.own : FV → SV
  | .sh d => .sh d | .lst ds => .own (.lst ds) | .dic t ps => .own (.dic t ps)
def FV.tr : FV → SV
  | .sh d => .sh d | .lst ds => .tr (.lst ds) | .dic t ps => .tr (.dic t ps)
def FV.bo : FV → SV
  | .sh d => .sh d | .lst ds => .bo (.lst ds) | .dic t ps => .bo (.dic t ps)
def gFld (C n : Str) (x : SV) : Option SV := match x with
  | .sh (.ins C' fs) => if C' = C ∧ C' ≠ "" then (fs.lookup n).map .sh else none
  | .own (.ins C' fs) => if C' = C then (fs.lookup n).map FV.own else none
  | .tr (.ins C' fs) => if C' = C then (fs.lookup n).map FV.tr else none
  | .bo (.ins C' fs) => if C' = C then (fs.lookup n).map FV.bo else none
  | _ => none
section
variable {K : PySem.W.Frag} {mg : MG} {G : Gh} {F F' H H' : Hp} {σ : St} {ρ : Nv} {o : O} {x : SV} {fp fp0 fp1 : List Addr}
theorem OkX.part (k : OkX K mg G F H σ ρ fp0) (s : ∀ p ∈ fp1, p ∈ fp0) : OkX K mg G F H σ ρ fp1 := by
  obtain ⟨fp, e1, e2, e3, e4⟩ := k.env
  exact ⟨⟨fp, e1, e2, e3, fun i p hp => ⟨(e4 i p hp).1, (e4 i p hp).2.1, fun z => (e4 i p hp).2.2 (s p z)⟩⟩, fun p hp => k.own p (s p hp), k.sub, k.pr, k.f0, k.fz, k.pin, k.len, k.nft⟩
theorem RpF.look {n : Str} {d : D} : ∀ {vfs : List (Str × V)} {fs : List (Str × D)}, RpF K mg F vfs fs → fs.lookup n = some d → ∃ v, vfs.lookup n = some v ∧ Rp K mg F v d
  | _, _, .nil, e => by cases e
  | _, _, .cons (n := m) (v := v) (d := d') h r, e => by
    by_cases c : n = m
    · subst c
      rw [List.lookup_cons_self] at e
      cases e
      exact ⟨v, by rw [List.lookup_cons_self], h⟩
    · have cb : (n == m) = false := beq_eq_false_iff_ne.mpr c
      rw [List.lookup_cons, cb] at e
      obtain ⟨u, h1, h2⟩ := RpF.look r e
      exact ⟨u, by rw [List.lookup_cons, cb]; exact h1, h2⟩
theorem Fls.look {n : Str} {y : FV} {vfs : List (Str × V)} {fs : List (Str × FV)} {fp : List Addr} (h : Fls K mg F H vfs fs fp) : fs.lookup n = some y → ∃ v f1, vfs.lookup n = some v ∧ Fl K mg F H v y f1 ∧ (∀ p ∈ f1, p ∈ fp) ∧ (fp.Nodup → f1.Nodup) := by
  induction h with
  | nil => intro e; cases e
  | @cons m v y' r fs f1 f2 h t ih =>
    intro e
    by_cases c : n = m
    · subst c
      rw [List.lookup_cons_self] at e
      cases e
      exact ⟨v, f1, by rw [List.lookup_cons_self], h, fun p hp => List.mem_append_left _ hp, fun nd => (List.nodup_append.mp nd).1⟩
    · have cb : (n == m) = false := beq_eq_false_iff_ne.mpr c
      rw [List.lookup_cons, cb] at e
      obtain ⟨u, g, h1, h2, h3, h4⟩ := ih e
      exact ⟨u, g, by rw [List.lookup_cons, cb]; exact h1, h2, fun p hp => List.mem_append_right _ (h3 p hp), fun nd => h4 (List.nodup_append.mp nd).2.1⟩
theorem Fl.ow {v : V} {y : FV} {f1 : List Addr} (h : Fl K mg F H v y f1) (nd : f1.Nodup) {Pr : Hp} : XvR K mg Pr F H v y.own f1 := by
  cases h with
  | sh h => exact .sh h
  | lst h r => exact .own (.lst h r) nd
  | dK h r => exact .own (.dK h r) nd
  | dT h r => exact .own (.dT h r) nd
  | dX h r => exact .own (.dX h r) nd
theorem Fl.trr {v : V} {y : FV} {f1 : List Addr} (h : Fl K mg F H v y f1) {Pr : Hp} : XvR K mg Pr F H v y.tr [] := by
  cases h with
  | sh h => exact .sh h
  | lst h r => exact .tr (.lst h r)
  | dK h r => exact .tr (.dK h r)
  | dT h r => exact .tr (.dT h r)
  | dX h r => exact .tr (.dX h r)
theorem Fl.boo {v : V} {y : FV} {f1 : List Addr} {Pr : Hp} (h : Fl K mg F Pr v y f1) : XvR K mg Pr F H v y.bo [] := by
  cases h with
  | sh h => exact .sh h
  | lst h r => exact .bo (.lst h r)
  | dK h r => exact .bo (.dK h r)
  | dT h r => exact .bo (.dT h r)
  | dX h r => exact .bo (.dX h r)
end
section
variable {X : Cx} {W : WX} {q : Bool} {e : Expr} {m : M SV} {pos : Pos} {C n : Str}
theorem px_fld (hc : ClsF X.K X.mg C n) (h : PX X W e q m) (hb : attributeBase e n X.env (eval e X.env) = eval e X.env := by rfl) : PX X W (.Attribute e n pos) q (op1 (gFld C n) m) := PE.imp (pe_fld h hb) fun σ H Q ⟨G, F, ρ, ok, z⟩ => by
  unfold op1 at z
  refine T.bind ok z fun x ρ1 F1 H1 v fp0 e1 s1 s2 k1 r z => ?_
  have fin : ∀ {y : SV}, gFld C n x = some y → Post X.K X.wg (relX X.K X.wg) W G F H σ q Q (.ok y ρ1) := fun {y} ey => by rw [ey] at z; exact z
  cases eg : gFld C n x with
  | none => rw [eg] at z; exact z.elim
  | some y =>
    have z := fin eg
    cases r with
    | sh r =>
      cases r with
      | @ins a c dx C' vfs fs hm ha hf =>
        unfold gFld at eg
        by_cases c : C' = C ∧ C' ≠ ""
        · obtain ⟨c, c0⟩ := c
          subst c
          replace eg : (if C' = C' ∧ C' ≠ "" then (fs.lookup n).map SV.sh else none) = some y := eg
          rw [if_pos ⟨rfl, c0⟩] at eg
          obtain ⟨d, hd, rfl⟩ := Option.map_eq_some_iff.mp eg
          obtain ⟨v, hv, rv⟩ := hf.look hd
          exact ⟨a, _, dx, vfs, v, rfl, k1.sub _ _ ha, (hc _ hm).1, (hc _ hm).2, hv, z F1 H1 v [] s1 s2 k1 (.sh rv)⟩
        · simp only [if_neg c] at eg; cases eg
      | pk h r =>
        unfold gFld at eg
        simp only [ne_eq, not_true_eq_false, and_false, if_false] at eg
        cases eg
      | _ => cases eg
    | own r nd =>
      cases r with
      | @ins a c dx C' vfs fs fp hm ha hf =>
        unfold gFld at eg
        by_cases c : C' = C
        · subst c
          simp only [if_pos] at eg
          obtain ⟨d, hd, rfl⟩ := Option.map_eq_some_iff.mp eg
          obtain ⟨v, f1, hv, rv, hs, hn⟩ := hf.look hd
          exact ⟨a, _, dx, vfs, v, rfl, ha, (hc _ hm).1, (hc _ hm).2, hv, z F1 H1 v f1 s1 s2 (k1.part fun p hp => List.mem_cons_of_mem _ (hs p hp)) (rv.ow (hn (List.nodup_cons.mp nd).2))⟩
        · simp only [if_neg c] at eg; cases eg
      | _ => cases eg
    | bo r =>
      cases r with
      | @ins a c dx C' vfs fs fp hm ha hf =>
        unfold gFld at eg
        by_cases c : C' = C
        · subst c
          simp only [if_pos] at eg
          obtain ⟨d, hd, rfl⟩ := Option.map_eq_some_iff.mp eg
          obtain ⟨v, f1, hv, rv, hs, hn⟩ := hf.look hd
          exact ⟨a, _, dx, vfs, v, rfl, k1.pr _ _ ha, (hc _ hm).1, (hc _ hm).2, hv, z F1 H1 v [] s1 s2 k1 rv.boo⟩
        · simp only [if_neg c] at eg; cases eg
      | _ => cases eg
    | tr r =>
      cases r with
      | @ins a c dx C' vfs fs fp hm ha hf =>
        unfold gFld at eg
        by_cases c : C' = C
        · subst c
          simp only [if_pos] at eg
          obtain ⟨d, hd, rfl⟩ := Option.map_eq_some_iff.mp eg
          obtain ⟨v, f1, hv, rv, hs, hn⟩ := hf.look hd
          exact ⟨a, _, dx, vfs, v, rfl, ha, (hc _ hm).1, (hc _ hm).2, hv, z F1 H1 v [] s1 s2 k1 rv.trr⟩
        · simp only [if_neg c] at eg; cases eg
      | _ => cases eg
end

/-! self.n = e -/
def putFa (n : Str) (x : FV) : List (Str × FV) → List (Str × FV)
  | [] => [(n, x)]
  | (m, y) :: r => if m = n then (m, x) :: r else (m, y) :: putFa n x r
def SV.fv? : SV → Option FV
  | .sh d => some (.sh d) | .own (.lst ds) => some (.lst ds) | .own (.dic t ps) => some (.dic t ps) | _ => none
def setFS (C : Str) (i : Nat) (n : Str) (m : M SV) : MS := fun ρ => (m ρ).bindS fun y ρ1 => match y.fv? with
  | some z => match ρ1[i]? with
    | some (some (.own (.ins C' fs))) => if C' = C ∧ fs.length < 1000 then .nx (ρ1.set i (some (.own (.ins C' (putFa n z fs))))) else .bad
    | some (some (.io (.ins C' fs))) => if C' = C ∧ fs.length < 1000 then .nx (ρ1.set i (some (.io (.ins C' (putFa n z fs))))) else .bad
    | _ => .bad
  | none => .bad
section
variable {K : PySem.W.Frag} {mg : MG} {G : Gh} {F F' H H' : Hp} {σ : St} {ρ : Nv} {o : O} {x : SV} {fp fp0 fp1 : List Addr}
theorem Fls.len {vfs : List (Str × V)} {fs : List (Str × FV)} {fp : List Addr} (h : Fls K mg F H vfs fs fp) : vfs.length = fs.length := by
  induction h with
  | nil => rfl
  | cons h t ih => rw [List.length_cons, List.length_cons, ih]
theorem Fls.put {n : Str} {y : FV} {v : V} {f1 : List Addr} (hy : Fl K mg F H v y f1) {vfs : List (Str × V)} {fs : List (Str × FV)} {fp : List Addr} (h : Fls K mg F H vfs fs fp) : (fp ++ f1).Nodup → ∃ fq, Fls K mg F H (putF n v vfs) (putFa n y fs) fq ∧ (∀ p ∈ fq, p ∈ fp ++ f1) ∧ fq.Nodup := by
  induction h with
  | nil => intro nd; exact ⟨f1 ++ [], .cons hy .nil, fun p hp => by simpa using hp, by simpa using nd⟩
  | @cons m u y' r fs fa fb h t ih =>
    intro nd
    unfold putF putFa
    by_cases c : m = n
    · rw [if_pos c, if_pos c]
      rw [List.append_assoc] at nd
      have nd2 := List.nodup_append.mp nd
      refine ⟨f1 ++ fb, .cons hy t, fun p hp => ?_, ?_⟩
      · rcases List.mem_append.mp hp with hp | hp
        · exact List.mem_append_right _ hp
        · exact List.mem_append_left _ (List.mem_append_right _ hp)
      · have nd3 := List.nodup_append.mp nd2.2.1
        exact List.nodup_append.mpr ⟨nd3.2.1, nd3.1, fun a ha b hb e => nd3.2.2 b hb a ha e.symm⟩
    · rw [if_neg c, if_neg c]
      rw [List.append_assoc] at nd
      have nd2 := List.nodup_append.mp nd
      obtain ⟨fq, h1, h2, h3⟩ := ih nd2.2.1
      refine ⟨fa ++ fq, .cons h h1, fun p hp => ?_, List.nodup_append.mpr ⟨nd2.1, h3, fun a ha b hb => nd2.2.2 a ha b (h2 b hb)⟩⟩
      rw [List.append_assoc]
      rcases List.mem_append.mp hp with hp | hp
      · exact List.mem_append_left _ hp
      · exact List.mem_append_right _ (h2 p hp)
theorem OkX.outX (k : OkX K mg G F H σ ρ fp0) {i : Nat} (e : ρ[i]? = some (some (.own o)) ∨ ρ[i]? = some (some (.io o))) : ∃ v fp, σ[i]? = some (some v) ∧ Ow K mg F H v o fp ∧ fp.Nodup ∧ (∀ p ∈ fp, p ∉ fp0) ∧ OkX K mg G F H σ (ρ.set i none) (fp ++ fp0) := by
  obtain ⟨ff, e1, e2, e3, e4⟩ := k.env
  have h : ∃ v, σ[i]? = some (some v) ∧ Ow K mg F H v o (ff i) := by
    have := e1 i
    rcases e with e | e
    · rw [e] at this
      obtain ⟨v, ev, r⟩ := this
      cases r with
      | own r => exact ⟨v, ev, r⟩
    · rw [e] at this
      obtain ⟨v, ev, r⟩ := this
      cases r with
      | io r => exact ⟨v, ev, r⟩
  obtain ⟨v, ev, r⟩ := h
  refine ⟨v, ff i, ev, r, e2 i, fun p hp => (e4 i p hp).2.2, ?_⟩
  have kf := OkX.forget k i
  have sub : ∀ j p, p ∈ (if j = i then [] else ff j) → p ∈ ff j := fun j p hp => by
    by_cases c : j = i
    · rw [if_pos c] at hp; cases hp
    · rw [if_neg c] at hp; exact hp
  refine ⟨⟨fun j => if j = i then [] else ff j, fun j => ?_, fun j => ?_, fun j l p hj hl => e3 j l p (sub j p hj) (sub l p hl), fun j p hp => ⟨(e4 j p (sub j p hp)).1, (e4 j p (sub j p hp)).2.1, fun hi => ?_⟩⟩, fun p hp => ?_, k.sub, k.pr, k.f0, k.fz, kf.pin, kf.len, kf.nft⟩
  · show SlotR _ _ _ _ _ _ _ (if j = i then [] else ff j)
    by_cases c : j = i
    · subst c
      rw [if_pos rfl]
      unfold SlotR
      by_cases hi : j < ρ.length
      · rw [List.getElem?_set_self hi]
      · rw [List.getElem?_eq_none (by rw [List.length_set]; omega)]
    · rw [if_neg c, List.getElem?_set_ne (Ne.symm c)]
      exact e1 j
  · show (if j = i then [] else ff j).Nodup
    split
    · exact List.nodup_nil
    · exact e2 j
  · have hp' : p ∈ (if j = i then [] else ff j) := hp
    rcases List.mem_append.mp hi with hi | hi
    · by_cases c : j = i
      · rw [if_pos c] at hp'; cases hp'
      · rw [if_neg c] at hp'; exact c (e3 j i p hp' hi)
    · exact (e4 j p (sub j p hp)).2.2 hi
  · rcases List.mem_append.mp hp with hp | hp
    · exact ⟨(e4 i p hp).1, (e4 i p hp).2.1⟩
    · exact k.own p hp
theorem XvR.fl {Pr : Hp} {v : V} {z : FV} (h : XvR K mg Pr F H v x fp) (e : x.fv? = some z) : Fl K mg F H v z fp ∧ fp.Nodup := by
  cases h with
  | sh h => cases e; exact ⟨.sh h, List.nodup_nil⟩
  | own h n =>
    cases h with
    | lst h r => cases e; exact ⟨.lst h r, n⟩
    | dK h r => cases e; exact ⟨.dK h r, n⟩
    | dT h r => cases e; exact ⟨.dT h r, n⟩
    | dX h r => cases e; exact ⟨.dX h r, n⟩
    | ins c h r => cases e
    | pk h r => cases e
  | bo h => cases e
  | tr h => cases e
end
section
variable {X : Cx} {W : WX} {q : Bool} {e : Expr} {m : M SV} {pos pos' ppos : Pos} {C n x : Str}
theorem st_fld {i : Nat} (hc : ClsF X.K X.mg C n) (hN : PE X (.Name x ppos) (tVar i)) (h : PX X W e q m) (hs : swapsWith e (some (.Attribute (.Name x ppos) n pos')) pos.line X.env = pure false := by rfl) :
    PSt X W (.Assign [.Attribute (.Name x ppos) n pos'] e pos) (setFS C i n m) := PS.imp (ps_fld hN h hs) fun D σ H ⟨G, F, ρ, ok, z⟩ => by
  unfold setFS at z
  refine T.bindS ok z fun y ρ1 F1 H1 v fp0 e1 s1 s2 k1 r z => ?_
  cases ef : y.fv? with
  | none => simp only [ef] at z; exact z.elim
  | some w =>
    simp only [ef] at z
    obtain ⟨rf, nd0⟩ := r.fl ef
    have go : ∀ (mk : O → SV) (fs : List (Str × FV)) (C' : Str), ρ1[i]? = some (some (mk (.ins C' fs))) → (mk = SV.own ∨ mk = SV.io) → C' = C → fs.length < 1000 → (∀ σ' F' H', Same F1 F' → Ok X.K X.wg G F' H' σ' (ρ1.set i (some (mk (.ins C' (putFa n w fs))))) → D.nx σ' H') → tVar i σ H1 fun xv H2 => ∃ a C dx fs, xv = .ref a ∧ H2 a = some (.ins C dx fs) ∧ Cls X.K C ∧ NoAttr X.K C n ∧ fs.length < 1000 ∧ D.nx σ (upd H2 a (.ins C dx (putF n v fs))) := by
      intro mk fs C' ex hx hC hl zz
      subst hC
      have hx' : ρ1[i]? = some (some (.own (.ins C' fs))) ∨ ρ1[i]? = some (some (.io (.ins C' fs))) := by
        rcases hx with rfl | rfl
        · exact .inl ex
        · exact .inr ex
      obtain ⟨vv, fp, ev, ow, nd, dis, kx⟩ := OkX.outX k1 hx'
      cases ow with
      | @ins b c dx _ vfs _ fpr hmg hb hfs =>
        obtain ⟨nb, ndr⟩ := List.nodup_cons.mp nd
        have ndA : (fpr ++ fp0).Nodup := List.nodup_append.mpr ⟨ndr, nd0, fun a ha b' hb' e => dis a (List.mem_cons_of_mem _ ha) (e ▸ hb')⟩
        obtain ⟨fq, h1, h2, h3⟩ := hfs.put (n := n) rf ndA
        have nbq : b ∉ fq := fun z => by
          rcases List.mem_append.mp (h2 b z) with z | z
          · exact nb z
          · exact dis b List.mem_cons_self z
        have k2 := kx.wr (p := b) (o := .ins c dx (putF n v vfs)) (by simp) ⟨_, hb⟩
        have k3 := k2.part (fp1 := b :: fq) fun p hp => by
          rcases List.mem_cons.mp hp with rfl | hp
          · simp
          · rcases List.mem_append.mp (h2 p hp) with z | z
            · exact List.mem_append_left _ (List.mem_cons_of_mem _ z)
            · exact List.mem_append_right _ z
        have ow2 : Ow X.K X.wg F1 (upd H1 b (.ins c dx (putF n v vfs))) (.ref b) (.ins C' (putFa n w fs)) (b :: fq) := .ins hmg upd_same (h1.mono (Same.refl F1) fun p hp => upd_ne fun z => nbq (z ▸ hp))
        refine ⟨.ref b, ev, b, c, dx, vfs, rfl, hb, (hc c hmg).1, (hc c hmg).2, by rw [hfs.len]; exact hl, zz σ F1 _ (Same.refl F1) ?_⟩
        rcases hx with rfl | rfl
        · exact OkX.back k3 ev (.own ow2) (List.nodup_cons.mpr ⟨nbq, h3⟩) fun o h => by rcases h with h | h <;> cases h
        · exact OkX.back k3 ev (.io ow2) (List.nodup_cons.mpr ⟨nbq, h3⟩) fun o h => k1.pin i _ (.inl ex)
    split at z
    · rename_i C' fs ex
      by_cases c : C' = C ∧ fs.length < 1000
      · rw [if_pos c] at z
        exact go _ fs C' ex (.inl rfl) c.1 c.2 (fun σ' F' H' s k => z F' H' σ' s k)
      · rw [if_neg c] at z; exact z.elim
    · rename_i C' fs ex
      by_cases c : C' = C ∧ fs.length < 1000
      · rw [if_pos c] at z
        exact go _ fs C' ex (.inr rfl) c.1 c.2 (fun σ' F' H' s k => z F' H' σ' s k)
      · rw [if_neg c] at z; exact z.elim
    · exact z.elim
end

/-! C(..): an instance is made -/
def makeM (C : Str) (n : Nat) (f : MF) (ms : M (List SV)) : M SV := fun ρ => (ms ρ).bind fun xs ρ1 => if xs.all SV.arg = true ∧ xs.length = n then (match f (.io (.ins C []) :: xs.map SV.toArg) with
  | .ok (.sh .non) (.io (.ins C' fs) :: _) => if C' = C then .ok (.own (.ins C fs)) ρ1 else .bad
  | _ => .bad) else .bad
section
variable {X : Cx} {W : WX} {q : Bool}
theorem grow_of {F F' H H' : Hp} {σ pin : St} {ρ : Nv} {fp0 : List Addr} (s : Same F F') (k : OkX X.K X.wg ⟨H, F, pin, fun _ => False⟩ F' H' σ ρ fp0) : Grow F H F' H' ∧ ∀ p ∈ fp0, F' p = none ∧ H p = none := by
  refine ⟨⟨s, k.pr, k.sub, fun p e n => ?_⟩, fun p hp => ⟨(k.own p hp).1, (k.own p hp).2.1⟩⟩
  cases q : H p with
  | none => rfl
  | some o =>
    have := k.fz p fun z => by
      have := z.1
      have : H p = none := this
      rw [q] at this; cases this
    have : F' p = F p := this
    rw [this, e] at n
    exact absurd rfl n
theorem make_ok {G : Gh} {F H : Hp} {σ : St} {ρ : Nv} {vs : List V} {xs : List SV} {C : Str} {c x dx : Addr} (k : Ok X.K X.wg G F H σ ρ) (r : XsR X.K X.wg G.Pr F H vs xs) (hc : X.mg C = some (.ref c)) (hx : H x = none) (hd : H dx = none) (hn : dx ≠ x) :
    Ok X.K X.wg ⟨H, F, (V.ref x :: vs).map some, fun _ => False⟩ F (upd (upd H dx (.own x)) x (.ins c dx [])) ((V.ref x :: vs).map some) ((SV.io (.ins C []) :: xs.map SV.toArg).map some) := by
  have sH : Same H (upd (upd H dx (.own x)) x (.ins c dx [])) := fun b u e => by
    rw [upd_ne (ne_of_none e hx), upd_ne (ne_of_none e hd)]; exact e
  refine ⟨⟨fun i => if i = 0 then [x] else [], fun i => ?_, fun i => ?_, fun i j p hi hj => ?_, fun i p hp => ?_⟩, (by intro p hp; cases hp), k.sub.trans sH, sH, Same.refl F, fun _ _ => rfl, fun _ _ _ => rfl, ?_, fun p h => h.elim⟩
  · cases i with
    | zero => exact ⟨.ref x, rfl, .io (.ins hc upd_same .nil)⟩
    | succ i =>
      show SlotR _ _ _ _ _ ((vs.map some)[i]?) (((xs.map SV.toArg).map some)[i]?) []
      cases e : xs[i]? with
      | none =>
        have : ((xs.map SV.toArg).map some)[i]? = none := by rw [List.getElem?_map, List.getElem?_map, e]; rfl
        rw [this]
        rfl
      | some x =>
        have : ((xs.map SV.toArg).map some)[i]? = some (some x.toArg) := by rw [List.getElem?_map, List.getElem?_map, e]; rfl
        rw [this]
        obtain ⟨v, ev, rv⟩ := r.get e
        refine ⟨v, by rw [List.getElem?_map, ev]; rfl, ?_⟩
        cases rv with
        | sh rv => exact .sh rv
        | own rv n => exact .own (rv.same (Same.refl F) sH)
        | bo rv => exact .bo (rv.same (Same.refl F) k.pr)
        | tr rv => exact .bo rv
  · show (if i = 0 then [x] else []).Nodup
    split <;> simp
  · have hi : p ∈ (if i = 0 then [x] else []) := hi
    have hj : p ∈ (if j = 0 then [x] else []) := hj
    by_cases c : i = 0
    · by_cases c' : j = 0
      · rw [c, c']
      · rw [if_neg c'] at hj; cases hj
    · rw [if_neg c] at hi; cases hi
  · have hp : p ∈ (if i = 0 then [x] else []) := hp
    by_cases c : i = 0
    · rw [if_pos c, List.mem_singleton] at hp
      subst hp
      exact ⟨Same.free k.sub hx, ⟨hx, fun z => z⟩, by simp⟩
    · rw [if_neg c] at hp; cases hp
  · simp [r.len]
theorem making {n : Nat} {m : MF} {ms : M (List SV)} {σ : St} {H : Hp} {Q : VK} {C : Str} {c : Addr} (hc : X.mg C = some (.ref c))
    (h : T X.K X.wg (relX X.K X.wg) W q (makeM C n m ms) σ H Q) : tMake c (spM X.K X.wg (n + 1) m) [] (fun _ _ _ => False) (T X.K X.wg (relA X.K X.wg) W q ms) σ H Q := by
  obtain ⟨G, F, ρ, ok, z⟩ := h
  unfold makeM at z
  refine T.bind ok z fun xs ρ1 F1 H1 vs fp0 e1 s1 s2 k1 r z => ?_
  obtain ⟨r, rfl⟩ := r
  intro x dx hx hd hn
  by_cases cc : xs.all SV.arg = true ∧ xs.length = n
  · rw [if_pos cc] at z
    obtain ⟨ha, hl⟩ := cc
    rw [List.append_nil]
    refine ⟨_, F1, .io (.ins C []) :: xs.map SV.toArg, make_ok k1 r hc hx hd hn, ?_, by rw [List.length_cons, List.length_map, hl], ?_⟩
    · intro y hy o
      rcases List.mem_cons.mp hy with rfl | hy
      · exact ⟨(fun z => by cases z), (fun z => by cases z)⟩
      · exact own_arg r ha y hy o
    · cases em : m (.io (.ins C []) :: xs.map SV.toArg) with
      | bad => rw [em] at z; exact z.elim
      | exc e bs => rw [em] at z; exact z.elim
      | ok u bs =>
        rw [em] at z
        have z : Post X.K X.wg (relX X.K X.wg) W G F H σ q Q (match (Res.ok u bs : Res (List SV) SV) with
          | .ok (.sh .non) (.io (.ins C' fs) :: _) => if C' = C then .ok (.own (.ins C fs)) ρ1 else .bad
          | _ => .bad) := z
        split at z
        · rename_i C' fs rest heq
          cases heq
          have z : Post X.K X.wg (relX X.K X.wg) W G F H σ q Q (if C' = C then .ok (.own (.ins C fs)) ρ1 else .bad) := z
          by_cases c2 : C' = C
          · subst c2
            rw [if_pos rfl] at z
            intro F' H' v fp s k rv hr
            have hv : v = .non := by
              cases rv with
              | sh rv => cases rv; rfl
            have k0 := OkX.drop k
            obtain ⟨v0, fq, ev, ow, nd, kx⟩ := OkX.out (i := 0) k0 (.inr rfl)
            have ev0 : v0 = .ref x := by
              have : some (some (V.ref x)) = some (some v0) := ev
              cases this; rfl
            subst ev0
            obtain ⟨g, n0⟩ := grow_of s kx
            exact ⟨hv, z F' H' (.ref x) fq (s1.trans s) (fun hq => (s2 hq).trans g.same) (Ok.growX k1 g n0) (.own ow nd)⟩
          · rw [if_neg c2] at z; exact z.elim
        · exact z.elim
  · rw [if_neg cc] at z; exact z.elim
/-- a class of the text, made by its __init__ -/
structure MkM (P : Program) (w : World) (K : PySem.W.Frag) (mg : Str → Option Value) (base : Heap) (x : Str) (k n : Nat) (m : MF) : Prop where
  ex : ∃ c f fd ps, Mk K c f ∧ FnOk P w K mg base (L2N.CX P w) k f fd ps (spM K ⟨mg, w⟩ (n + 1) m) ∧ Binds K fd ps [] ∧ mg x = some (.ref c)
theorem px_make {k n : Nat} {x : Str} {p pos : Pos} {e : Expr} {es : List Expr} {m : MF} {ms : M (List SV)} (Fn : MkM X.prog X.w X.K X.mg X.base x k n m) (hr : Room (k + 1) X.A) (hg : Gl X x)
    (ha : PAs X W (e :: es) q ms) (hdb : (x == ("__debug__" : Str)) = false := by decide) (he : starEach (e :: es) X.env = (false, eval e X.env) :: starEach es X.env := by rfl) (hpl : (backTo pos (starEach es X.env)).any (·.1) = false := by rfl) :
    PX X W (.Call (.Name x p) (e :: es) [] pos) q (makeM x n m ms) := by
  obtain ⟨c, f, fd, ps, M, F, hb, hm⟩ := Fn.ex
  exact PE.imp (pe_make (E := fun _ _ _ => False) M F hr hg hm hb .nil (fun _ _ _ _ _ _ _ h => by
    obtain ⟨_, _, _, _, _, _, _, _, _, _, _, _, z⟩ := h
    exact z.elim) ha hdb he hpl) fun σ H Q h => making hm h
end
/-- where a class and its __init__ stand -/
structure MkAt (K : PySem.W.Frag) (mg : Str → Option Value) (C qual : Str) (st : Stmt) (ps : List Str) (c f : Addr) (fd : FuncData) : Prop where
  F : Fun K "__init__" qual st f fd
  b : Binds K fd ps []
  M : Mk K c f
  m : mg C = some (.ref c)
theorem mkM {P : Program} {w : World} {K : PySem.W.Frag} {mg : Str → Option Value} {base : Heap} {C qual : Str} {st : Stmt} {c f : Addr} {fd : FuncData} {N ps : List Str} {k np nl : Nat} {ms : MS} (T : MkAt K mg C qual st ps c f fd) (S : FnScope N ps (defScope st)) (hp : ps.length = np + 1) (hn : N.length = np + 1 + nl)
    (hbody : ∀ (cdv : Value) (A : Around) (outer : List Env) (s : Shared) (H : Hp) (E : XK), Room k (A.deeper (envOfC qual (defScope st) s.heap.objs.size f cdv)) →
      PSts (cxOf (L2N.CX P w) P w K mg base N qual (defScope st) f cdv A outer s H E) (fun c d _ H => E c d H) (defBody st) ms) : MkM P w K mg base C (k + 1) np (runF (np + 1) nl ms) := by
  refine ⟨c, f, fd, ps, T.M, ?_, T.b, T.m⟩
  have := fn_okM T.F S (nl := nl) (by rw [hp]; exact hn) hbody
  rw [hp] at this
  exact this

theorem px_dictT0 {X : Cx} {W : WX} {pos : Pos} : PX X W (.Dict [] [] pos) true (pureM (.own (.dic 1 []))) := PE.imp pe_dnewT fun σ H Q ⟨G, F, ρ, ok, z⟩ => by
  intro p np
  have g := grow_own (o := .dT []) ok.sub np
  exact z F (upd H p (.dT [])) (.ref p) [p] (Same.refl F) (fun _ => g.same) (Ok.growX ok g fun b hb => by rw [List.mem_singleton] at hb; subst hb; exact ⟨Same.free ok.sub np, np⟩) (.own (.dT upd_same .nil) (by simp))
end R

/-! R12: sorted. -/
namespace R
open PySem PySem.Spec PyProof.Rows L2
section
open SrtO Srt
variable {prog : Program} {w : World} {A : Around} {E : Value → Shared → Prop} {s : Shared}
theorem collect_tup {l : Addr} {vs : List Value} {Q : List Value → Shared → Prop} (hl : s.heap.IsTuple l vs.toArray)
    (h : Q vs { s with heap := (s.heap.push (seqObj "list" #[] 0)).update s.heap.objs.size (Obj.mapSeq (· ++ vs.toArray)) }) (hsz : vs.length ≤ sizeLine) :
    wpAny (model prog w) A (collect (.ref l)) Q E s := by
  obtain ⟨o, ho, hc, n, hd⟩ := id hl
  unfold collect
  refine wpAny_bind (wpAny_runValue (codeAny_builtin entry_proto_collect' ?_))
  show wpAny _ _ (do again (.builtin "list.__iadd__" ⟨[← newList [], .ref l], []⟩)) _ _ s
  refine wpAny_bind (wpAny_newList (wpAny_pure ⟨Code.quiet_builtin _ (by decide +kernel), codeAny_builtin entry_list_iadd' ?_⟩))
  show wpAny _ _ (Builtin.List.listExtendWith (.ref s.heap.objs.size) (.ref l) (.ref s.heap.objs.size)) _ _ { s with heap := s.heap.push (seqObj "list" #[] 0) }
  unfold Builtin.List.listExtendWith
  have ho' : (s.heap.push (seqObj "list" #[] 0)).get? l = some o := Heap.get?_push_of_some _ ho
  refine wpAny_bind (wpAny_typeOf (T := "tuple") ⟨o, ho', hc⟩ ?_)
  have ht : (Value.type "tuple" == Value.type "tuple") = true := by rfl
  rw [if_pos (by rw [ht]; simp)]
  refine wpAny_bind (listItems_at ho' hd ?_)
  refine wpAny_bind (listItems_at (xs := #[]) (n := 0) (Heap.get?_push_size _ rfl) rfl ?_)
  rw [if_neg (by simp)]
  refine wpAny_bind (listUpdate_at (xs := #[]) (n := 0) (Heap.get?_push_size _ rfl) rfl ?_ (Nat.zero_le _) (by show (#[] ++ vs.toArray).size ≤ sizeLine + 1; simp only [Array.size_append, List.size_toArray, List.length_nil]; omega))
  refine wpAny_pure ?_
  show wpAny (model prog w) A (do
      let o ← load s.heap.objs.size
      match o.data with
      | .seq xs _ => pure xs.toList
      | _ => unsupported "internal:collect") Q E { s with heap := (s.heap.push (seqObj "list" #[] 0)).update s.heap.objs.size (Obj.mapSeq (· ++ vs.toArray)) }
  refine wpAny_bind (wpAny_load (get?_update_seq (Heap.get?_push_size _ rfl) _) ?_)
  show wpAny _ _ (pure ((#[] : Array Value) ++ vs.toArray).toList) Q E _
  rw [show ((#[] : Array Value) ++ vs.toArray).toList = vs by simp]
  exact wpAny_pure h
/-- sorted(t), t a tuple -/
theorem sorted_ordT {l : Addr} {vs : List Value} {ltv : Value → Value → Bool} {Q : Value → Shared → Prop} (O : Swo ltv) (hl : s.heap.IsTuple l vs.toArray) (hz : vs.length ≤ sizeLine)
    (hS : 2 ≤ vs.length → ∀ (h₁ : Heap) (a : Addr), h₁.get? a = some (seqObj "list" vs.toArray 0) → (∀ b o, s.heap.get? b = some o → b ≠ a ∧ h₁.get? b = some o) → SortableO prog w A.in1.in1 { s with heap := h₁ } a vs ltv)
    (h : ∀ out : List Value, Srtd ltv out → Stb ltv out vs → Q (.ref (s.heap.objs.size + 1)) { s with heap := sortedAll s.heap vs out.toArray }) :
    wpAny (model prog w) A (call (.builtin "sorted") [.ref l]) Q E s := by
  refine Calls.call_function_entry kind_sorted plain_sorted entry_sorted (args_sorted1 _) ?_
  unfold Builtin.«sorted»
  refine wpAny_bind (m := checkCount "sorted" 1 1 _) (wpAny_pure ?_)
  refine wpAny_bind (collect_tup hl ?_ hz)
  refine wpAny_bind (wpAny_newList ?_ hz)
  have hsz : ((s.heap.push (seqObj "list" #[] 0)).update s.heap.objs.size (Obj.mapSeq (· ++ vs.toArray))).objs.size = s.heap.objs.size + 1 := by
    rw [Heap.size_update, size_push']
  have hoL : (((s.heap.push (seqObj "list" #[] 0)).update s.heap.objs.size (Obj.mapSeq (· ++ vs.toArray))).push (seqObj "list" vs.toArray 0)).get? (s.heap.objs.size + 1) = some (seqObj "list" vs.toArray 0) := by
    rw [← hsz]; exact Heap.get?_push_size _ rfl
  have keep : ∀ b o, s.heap.get? b = some o → b ≠ s.heap.objs.size + 1 ∧ (((s.heap.push (seqObj "list" #[] 0)).update s.heap.objs.size (Obj.mapSeq (· ++ vs.toArray))).push (seqObj "list" vs.toArray 0)).get? b = some o := fun b o q => by
    have hlt : b < s.heap.objs.size := Heap.lt_size q
    refine ⟨Nat.ne_of_lt (Nat.lt_succ_of_lt hlt), Heap.get?_push_of_some _ ?_⟩
    rw [Heap.get?_update_ne _ _ _ _ (Nat.ne_of_lt hlt)]
    exact Heap.get?_push_of_some _ q
  show wpAny _ _ _ _ _ { s with heap := ((s.heap.push (seqObj "list" #[] 0)).update s.heap.objs.size (Obj.mapSeq (· ++ vs.toArray))).push (seqObj "list" vs.toArray 0) }
  rw [hsz]
  refine wpAny_bind (wpAny_holding (wpAny_call_entry slot_list_sort ⟨_, hoL, rfl⟩ entry_list_sort (list_sort_ord O hoL hz (fun h2 => hS h2 _ _ hoL keep) fun out hs hb => ⟨_, rfl, ?_⟩) (args_list_sort _)))
  exact wpAny_pure ⟨_, rfl, h out hs hb⟩
end
section
variable {X : Cx}
/-- sorted(t), a tuple of ints -/
theorem cr_sortedTI : CallR X (.builtin "sorted") (fun vs H Q => ∃ (a : Addr) (ns : List Int), vs = [V.ref a] ∧ SqT X.K H a (ns.map V.int) ∧
    ∀ (ns' : List Int) (p : Addr), ns'.Perm ns → ns'.Pairwise (· ≤ ·) → H p = none → Q (.ref p) (upd H p (.lst (ns'.map V.int)))) := by
  intro pins s σ H vs us Q I r h
  obtain ⟨a, ns, rfl, hs, q⟩ := h
  obtain ⟨its, rv, hl, hz⟩ := I.tuple hs
  rw [Vals.ref1 r]
  have hi := rv.ints
  refine sorted_ordT SrtO.swo_int (show s.heap.IsTuple a its.toArray from hl) (by rw [← rv.length]; exact hz) (fun h2 h₁ a' _ _ => SrtO.ints_sortable hi h2) fun out h1 h2 => ?_
  obtain ⟨k1, k2, k3⟩ := SrtO.ints_out hi h1 h2
  obtain ⟨ep, he'⟩ := PyProof.Rows.sortedAll_at s.heap its out.toArray
  have hlen : ((out.map SrtO.iv).map V.int).length ≤ sizeLine := by
    rw [List.length_map, k2.length_eq]
    rw [List.length_map] at hz
    exact hz
  exact ⟨.ref _, upd H (s.heap.objs.size + 1) (.lst ((out.map SrtO.iv).map V.int)), I.laid (t' := s.toks) (fun _ _ => PyProof.Rows.sortedAll_old) (Nat.le_succ _) ⟨hlen, out, ep, vals_of_ints k1, he'⟩, rfl, q _ _ k2 k3 (I.hok.fresh (Nat.le_succ _))⟩
end
/-! sorted by values -/
def insI (x : Int) : List Int → List Int
  | [] => [x]
  | y :: r => if x ≤ y then x :: y :: r else y :: insI x r
def isort : List Int → List Int
  | [] => []
  | x :: r => insI x (isort r)
theorem insI_perm {x : Int} : ∀ {l : List Int}, (insI x l).Perm (x :: l)
  | [] => .refl _
  | y :: r => by
    unfold insI
    split
    · exact .refl _
    · exact (insI_perm.cons y).trans (.swap x y r)
theorem isort_perm : ∀ {l : List Int}, (isort l).Perm l
  | [] => .refl _
  | x :: r => by
    unfold isort
    exact insI_perm.trans (isort_perm.cons x)
theorem insI_srt {x : Int} : ∀ {l : List Int}, l.Pairwise (· ≤ ·) → (insI x l).Pairwise (· ≤ ·)
  | [], _ => by unfold insI; simp
  | y :: r, h => by
    rw [List.pairwise_cons] at h
    unfold insI
    split
    · rename_i c
      exact .cons (fun z hz => by rcases List.mem_cons.mp hz with rfl | hz; exact c; exact Int.le_trans c (h.1 z hz)) (.cons h.1 h.2)
    · rename_i c
      refine .cons (fun z hz => ?_) (insI_srt h.2)
      have := insI_perm.mem_iff.mp hz
      rcases List.mem_cons.mp this with rfl | hz
      · omega
      · exact h.1 z hz
theorem isort_srt : ∀ {l : List Int}, (isort l).Pairwise (· ≤ ·)
  | [] => .nil
  | x :: r => by unfold isort; exact insI_srt isort_srt
theorem isort_uniq {l m : List Int} (h : m.Perm l) (s : m.Pairwise (· ≤ ·)) : m = isort l :=
  List.Perm.eq_of_pairwise (fun a b _ _ h1 h2 => Int.le_antisymm h1 h2) s isort_srt (h.trans isort_perm.symm)
def D.ints : List D → Option (List Int)
  | [] => some []
  | d :: ds => match d, D.ints ds with | .int i, some ns => some (i :: ns) | _, _ => none
theorem D.ints_eq : ∀ {ds : List D} {ns : List Int}, D.ints ds = some ns → ds = ns.map D.int
  | [], ns, h => by cases h; rfl
  | d :: ds, ns, h => by
    unfold D.ints at h
    split at h
    · rename_i i ms e
      cases h
      rw [D.ints_eq e]
      rfl
    · cases h
/-- tuples of d ints each, by their codes -/
def D.tints (d : Nat) : List D → Option (List (List Int))
  | [] => some []
  | .tup es :: ds => match D.ints es, D.tints d ds with
    | some ns, some r => if ns.length = d ∧ (ns.all fun m => decide (0 ≤ m ∧ m < 1000)) = true then some (ns :: r) else none
    | _, _ => none
  | _ :: _ => none
def asc (B : Int) : List (List Int) → Bool
  | [] => true
  | n :: r => (r.all fun m => decide (TS.code B n < TS.code B m)) && asc B r
def gSorted1 (x : SV) : Option SV := match x.data.items with
  | some ds => match D.ints ds with
    | some ns => some (.own (.lst ((isort ns).map D.int)))
    | none => match x.data with
      | .lst (.tup es :: r) => match D.tints es.length (.tup es :: r) with
        | some rows => if 1 ≤ es.length ∧ r.length < 63 ∧ asc 1000 rows = true then some (.own (.lst (.tup es :: r))) else none
        | none => none
      | _ => none
  | none => none
abbrev gSorted := un1 gSorted1
section
variable {X : Cx} {K : PySem.W.Frag} {mg : MG} {F H : Hp}
theorem rps_ints_inv : ∀ {ns : List Int} {vs : List V}, Rps K mg F vs (ns.map D.int) → vs = ns.map V.int
  | [], _, h => by cases h; rfl
  | n :: ns, _, h => by
    cases h with
    | cons h r =>
      cases h
      rw [rps_ints_inv r]
      rfl
inductive TRows (K : PySem.W.Frag) (H : Hp) (d : Nat) : List V → List (List Int) → Prop
  | nil : TRows K H d [] []
  | cons {x : V} {n : List Int} {xs : List V} {r : List (List Int)} : TupI K H x n → n.length = d → TS.Bd 1000 n → TRows K H d xs r → TRows K H d (x :: xs) (n :: r)
theorem TRows.at {d : Nat} {xs : List V} {r : List (List Int)} (h : TRows K H d xs r) : ∀ x ∈ xs, ∃ n ∈ r, TupI K H x n ∧ n.length = d ∧ TS.Bd 1000 n := by
  induction h with
  | nil => intro x hx; cases hx
  | cons a b c t ih =>
    intro x hx
    rcases List.mem_cons.mp hx with rfl | hx
    · exact ⟨_, List.mem_cons_self, a, b, c⟩
    · obtain ⟨n, h1, h2⟩ := ih x hx
      exact ⟨n, List.mem_cons_of_mem _ h1, h2⟩
theorem tints_at {d : Nat} (s : Same F H) : ∀ {ds : List D} {rows : List (List Int)} {vs : List V}, Rps K mg F vs ds → D.tints d ds = some rows → TRows K H d vs rows := by
  intro ds
  induction ds with
  | nil => intro rows vs h e; cases h; cases e; exact .nil
  | cons d0 ds ih =>
    intro rows vs h e
    cases h with
    | @cons v vs _ _ h r =>
      cases d0 with
      | tup es =>
        unfold D.tints at e
        split at e
        · rename_i ns r' e1 e2
          by_cases c : ns.length = d ∧ (ns.all fun m => decide (0 ≤ m ∧ m < 1000)) = true
          · rw [if_pos c] at e
            cases e
            cases h with
            | @tup a ws _ hw rw' =>
              have e3 := D.ints_eq e1
              subst e3
              have e4 := rps_ints_inv rw'
              subst e4
              exact .cons ⟨a, rfl, .inl (.inl (s _ _ hw))⟩ c.1 (fun m hm => of_decide_eq_true (List.all_eq_true.mp c.2 m hm)) (ih r e2)
          · rw [if_neg c] at e; cases e
        · cases e
      | _ => cases e
theorem cr_sortedAsc {d : Nat} (hd : 1 ≤ d) : CallR X (.builtin "sorted") (fun vs H Q => ∃ (a : Addr) (xs : List V) (rows : List (List Int)), vs = [V.ref a] ∧ SqL X.K H a xs ∧ xs.length < 64 ∧ TRows X.K H d xs rows ∧ asc 1000 rows = true ∧
    ∀ p : Addr, H p = none → Q (.ref p) (upd H p (.lst xs))) := by
  intro pins s σ H vs us Q I r h
  obtain ⟨a, xs, rows, rfl, hs, h64, hr, ha, q⟩ := h
  have uni : ∀ x n m, TupI X.K H x n → TupI X.K H x m → n = m := fun x n m ⟨t, e, h1⟩ ⟨t', e', h2⟩ => by
    rw [e] at e'
    cases e'
    have := I.tuple_inj h1 h2
    exact List.map_inj_right (f := V.int) (fun _ _ h => by cases h; rfl) |>.mp this
  refine cr_sortT (d := d) (B := 1000) hd pins s σ H _ us Q I r ⟨a, xs, rfl, hs, h64, fun x hx => by
    obtain ⟨n, _, h1, h2, h3⟩ := hr.at x hx
    exact ⟨n, h1, h2, h3⟩, fun ys p hp hy hf => ?_⟩
  have key : ys = xs := by
    have st : xs.Pairwise (fun x y => ∀ n m, TupI X.K H x n → TupI X.K H y m → TS.code 1000 n < TS.code 1000 m) := by
      clear q hs r hp hy h64
      induction hr with
      | nil => exact .nil
      | @cons x n xs r h1 _ _ t ih =>
        unfold asc at ha
        rw [Bool.and_eq_true] at ha
        refine .cons (fun y hy n' m hn hm => ?_) (ih ha.2)
        obtain ⟨m', hm', h2, _⟩ := t.at y hy
        rw [uni x n' n hn h1, uni y m m' hm h2]
        exact of_decide_eq_true (List.all_eq_true.mp ha.1 m' hm')
    refine List.Perm.eq_of_pairwise (le := fun x y => ∀ n m, TupI X.K H x n → TupI X.K H y m → TS.code 1000 n ≤ TS.code 1000 m) (fun x y hx hy' h1 h2 => ?_) hy (st.imp fun h n m a b => Int.le_of_lt (h n m a b)) hp
    have hx := hp.mem_iff.mp hx
    obtain ⟨n, _, hn, _⟩ := hr.at x hx
    obtain ⟨m, _, hm, _⟩ := hr.at y hy'
    rcases Classical.em (x = y) with e | e
    · exact e
    · have e1 := h1 n m hn hm
      have e2 := h2 m n hm hn
      have : ∀ {l : List V}, l.Pairwise (fun x y => ∀ n m, TupI X.K H x n → TupI X.K H y m → TS.code 1000 n < TS.code 1000 m) → x ∈ l → y ∈ l → TS.code 1000 n < TS.code 1000 m ∨ TS.code 1000 m < TS.code 1000 n := by
        intro l hl
        induction hl with
        | nil => intro h; cases h
        | cons hd tl ih =>
          intro hx hy
          rcases List.mem_cons.mp hx with rfl | hx1
          · rcases List.mem_cons.mp hy with rfl | hy1
            · exact absurd rfl e
            · exact .inl (hd _ hy1 n m hn hm)
          · rcases List.mem_cons.mp hy with rfl | hy1
            · exact .inr (hd _ hx1 m n hm hn)
            · exact ih hx1 hy1
      rcases this st hx hy' with h | h <;> omega
  rw [key]
  exact q p hf
theorem cg_sorted : CallG X (CallR X (.builtin "sorted")) gSorted := by
  refine cg1 fun Pr F H x v z Q s p rx e k => ?_
  unfold gSorted1 at e
  cases ei : x.data.items with
  | none => rw [ei] at e; cases e
  | some ds =>
    rw [ei] at e
    obtain ⟨a, ws, rfl, hs, rs⟩ := rx.seq p s ei
    cases en : D.ints ds with
    | some ns =>
      simp only [en] at e
      cases e
      have e3 := D.ints_eq en
      subst e3
      have e4 := rps_ints_inv rs
      subst e4
      have fin : ∀ (ns' : List Int) (p : Addr), ns'.Perm ns → ns'.Pairwise (· ≤ ·) → H p = none → Q (.ref p) (upd H p (.lst (ns'.map V.int))) := fun ns' q h1 h2 h3 => by
        rw [isort_uniq h1 h2]
        exact give_lst rfl (rps_ints _) s k q h3
      rcases hs with hs | hs
      · exact ⟨_, cr_sortedI, a, ns, rfl, hs, fin⟩
      · exact ⟨_, cr_sortedTI, a, ns, rfl, hs, fin⟩
    | none =>
      simp only [en] at e
      split at e
      · rename_i es r ed
        rw [ed] at ei
        cases ei
        split at e
        · rename_i rows et
          by_cases c : 1 ≤ es.length ∧ r.length < 63 ∧ asc 1000 rows = true
          · rw [if_pos c] at e
            cases e
            obtain ⟨a', vs', hv, hl, rr⟩ := rx.list p s ed
            cases hv
            exact ⟨_, cr_sortedAsc c.1, a, vs', rows, rfl, .inl (.inl hl), by rw [Rps.length rr, List.length_cons]; omega, tints_at s rr et, c.2.2, give_lst rfl rr s k⟩
          · rw [if_neg c] at e; cases e
        · cases e
      · cases e
end
end R

/-! R13: list(range(n)). -/
namespace R
open PySem PySem.Spec PyProof.Rows L2
def gLrg (x : SV) : Option SV := match x.int? with
  | some n => if 0 ≤ n ∧ n ≤ 16777216 then some (.own (.lst (rangeD 0 n.toNat))) else none
  | none => none
section
variable {X : Cx} {W : WX} {q : Bool} {a : Expr} {m : M SV} {p pos rp rpos : Pos}
theorem rps_rg {K : PySem.W.Frag} {mg : MG} {F : Hp} {n : Int} : Rps K mg F (rgV 0 n) (rangeD 0 n.toNat) := by
  unfold rgV rangeD
  rw [Int.sub_zero]
  generalize List.range n.toNat = l
  induction l with
  | nil => exact .nil
  | cons x l ih => exact .cons (.int _) ih
theorem px_lrange1 (hc : X.calm = true) (hgl : Gl X "list") (hml : X.mg "list" = none) (hg : Gl X "range") (hm : X.mg "range" = none) (h : PX X W a q m)
    (na : starEach [a] X.env = (false, eval a X.env) :: starEach [] X.env := by rfl) (na2 : starEach [.Call (.Name "range" rp) [a] [] rpos] X.env = (false, eval (.Call (.Name "range" rp) [a] [] rpos) X.env) :: starEach [] X.env := by rfl) :
    PX X W (.Call (.Name "list" p) [.Call (.Name "range" rp) [a] [] rpos] [] pos) q (op1 gLrg m) := PE.imp (pe_listRg hc hgl hml (prg_1 hg hm h na) na2) fun σ H Q ⟨G, F, ρ, ok, z⟩ => by
  unfold op1 at z
  refine T.bind ok z fun x ρ1 F1 H1 v fp0 e1 s1 s2 k1 r z => ?_
  cases eg : gLrg x with
  | none => rw [eg] at z; exact z.elim
  | some y =>
    rw [eg] at z
    unfold gLrg at eg
    cases e3 : x.int? with
    | none => rw [e3] at eg; cases eg
    | some n =>
      rw [e3] at eg
      have eg : (if 0 ≤ n ∧ n ≤ 16777216 then some (SV.own (.lst (rangeD 0 n.toNat))) else none) = some y := eg
      by_cases c : 0 ≤ n ∧ n ≤ 16777216
      · rw [if_pos c] at eg
        cases eg
        refine ⟨n, SV.int_of r e3, RgOk.of_le (by decide) c.2 (by decide) c.1, fun p hp => ?_⟩
        have k2 := OkX.drop k1
        have g := grow_own (o := .lst (rgV 0 n)) k2.sub hp
        exact z F1 _ (.ref p) [p] s1 (fun hq => (s2 hq).trans g.same) (Ok.growX k2 g fun b hb => by rw [List.mem_singleton] at hb; subst hb; exact ⟨Same.free k2.sub hp, hp⟩) (.own (.lst upd_same rps_rg) (by simp))
      · rw [if_neg c] at eg; cases eg
end
end R

/-! R14: a for over an own list that stays own. -/
namespace R
open PySem PySem.Spec PyProof.Rows L2
def lockPin (G : Gh) (σ : St) (i : Nat) : Gh := ⟨G.Pr, G.F0, (List.range (i + 1 + G.pin.length)).map fun j => if j = i then σ[i]?.getD none else G.pin[j]?.getD none, G.nf⟩
def unlk (i : Nat) (ρ : Nv) : Nv := match ρ[i]? with
  | some (some (.io o)) => ρ.set i (some (.own o))
  | some (some (.bo _)) => ρ.set i none
  | _ => ρ
section
variable {K : PySem.W.Frag} {mg : MG} {G : Gh} {F H : Hp} {σ σ0 : St} {ρ : Nv} {o : O} {i : Nat} {fp0 : List Addr}
theorem lockPin_at {j : Nat} : (lockPin G σ i).pin[j]? = if j < i + 1 + G.pin.length then some (if j = i then σ[i]?.getD none else G.pin[j]?.getD none) else none := by
  unfold lockPin
  show ((List.range _).map _)[j]? = _
  rw [List.getElem?_map]
  by_cases h : j < i + 1 + G.pin.length
  · rw [List.getElem?_range h, if_pos h]; rfl
  · rw [List.getElem?_eq_none (l := List.range _) (by rw [List.length_range]; omega), if_neg h]; rfl
theorem lock (k : Ok K mg G F H σ ρ) (e : ρ[i]? = some (some (.own o))) : Ok K mg (lockPin G σ i) F H σ (ρ.set i (some (.io o))) := by
  obtain ⟨fp, e1, e2, e3, e4⟩ := k.env
  have hi : i < ρ.length := (List.getElem?_eq_some_iff.mp e).1
  refine ⟨⟨fp, fun j => ?_, e2, e3, e4⟩, k.own, k.sub, k.pr, k.f0, k.fz, fun j o' hj => ?_, by rw [List.length_set]; exact k.len, k.nft⟩
  · by_cases c : j = i
    · subst c
      have := e1 j
      rw [e] at this
      rw [List.getElem?_set_self hi]
      obtain ⟨v, ev, r⟩ := this
      cases r with
      | own r => exact ⟨v, ev, .io r⟩
    · rw [List.getElem?_set_ne (Ne.symm c)]; exact e1 j
  · rw [lockPin_at]
    by_cases c : j = i
    · subst c
      rw [if_pos (by omega), if_pos rfl]
      have := e1 j
      rw [e] at this
      obtain ⟨v, ev, r⟩ := this
      rw [ev]; rfl
    · rw [List.getElem?_set_ne (Ne.symm c)] at hj
      have hp := k.pin j o' hj
      have hv : ∃ v, σ[j]? = some (some v) := by
        have := e1 j
        rcases hj with hj | hj <;> (rw [hj] at this; obtain ⟨v, ev, _⟩ := this; exact ⟨v, ev⟩)
      obtain ⟨v, hv⟩ := hv
      rw [hv] at hp
      have hl : j < G.pin.length := (List.getElem?_eq_some_iff.mp hp.symm).1
      rw [if_pos (by omega), if_neg c, ← hp, hv]
      rfl
theorem unlock (k : OkX K mg (lockPin G σ0 i) F H σ ρ fp0) : OkX K mg G F H σ (unlk i ρ) fp0 := by
  obtain ⟨fp, e1, e2, e3, e4⟩ := k.env
  have pinj : ∀ j o', j ≠ i → (ρ[j]? = some (some (.io o')) ∨ ρ[j]? = some (some (.bo o'))) → σ[j]? = G.pin[j]? := fun j o' c hj => by
    have hp := k.pin j o' hj
    have hv : ∃ v, σ[j]? = some (some v) := by
      have := e1 j
      rcases hj with hj | hj <;> (rw [hj] at this; obtain ⟨v, ev, _⟩ := this; exact ⟨v, ev⟩)
    obtain ⟨v, hv⟩ := hv
    rw [lockPin_at, hv, if_neg c] at hp
    split at hp
    · have hp := Option.some.inj hp
      cases e : G.pin[j]? with
      | none => rw [e] at hp; cases hp
      | some u => rw [e] at hp; rw [hv]; exact congrArg some hp
    · cases hp
  have other : ∀ (y : Option SV), (∀ o', y ≠ some (.io o') ∧ y ≠ some (.bo o')) → (∀ x, y = some x → ∃ v, σ[i]? = some (some v) ∧ SvR K mg G.Pr F H v x (fp i)) → i < ρ.length → (y = none → True) → OkX K mg G F H σ (ρ.set i y) fp0 := fun y ny hy hi _ => by
    refine ⟨⟨fun j => if j = i ∧ y = none then [] else fp j, fun j => ?_, fun j => ?_, fun j l p hj hl => ?_, fun j p hp => ?_⟩, k.own, k.sub, k.pr, k.f0, k.fz, fun j o' hj => ?_, by rw [List.length_set]; exact k.len, k.nft⟩
    · by_cases c : j = i
      · subst c
        rw [List.getElem?_set_self hi]
        cases y with
        | none => show SlotR _ _ _ _ _ _ _ (if j = j ∧ (none : Option SV) = none then [] else fp j); rw [if_pos ⟨rfl, rfl⟩]; rfl
        | some x => show SlotR _ _ _ _ _ _ _ (if j = j ∧ (some x : Option SV) = none then [] else fp j); rw [if_neg (fun z => by cases z.2)]; exact hy x rfl
      · rw [List.getElem?_set_ne (Ne.symm c)]
        show SlotR _ _ _ _ _ _ _ (if j = i ∧ y = none then [] else fp j)
        rw [if_neg (fun z => c z.1)]
        exact e1 j
    · show (if j = i ∧ y = none then [] else fp j).Nodup
      split
      · exact List.nodup_nil
      · exact e2 j
    · have hj : p ∈ (if j = i ∧ y = none then [] else fp j) := hj
      have hl : p ∈ (if l = i ∧ y = none then [] else fp l) := hl
      split at hj
      · cases hj
      · split at hl
        · cases hl
        · exact e3 j l p hj hl
    · have hp : p ∈ (if j = i ∧ y = none then [] else fp j) := hp
      split at hp
      · cases hp
      · exact e4 j p hp
    · by_cases c : j = i
      · subst c
        rw [List.getElem?_set_self hi] at hj
        rcases hj with hj | hj
        · exact absurd (Option.some.inj hj) (ny o').1
        · exact absurd (Option.some.inj hj) (ny o').2
      · rw [List.getElem?_set_ne (Ne.symm c)] at hj
        exact pinj j o' c hj
  unfold unlk
  split
  · rename_i o' ex
    refine other _ (fun o => ⟨(fun z => by cases z), (fun z => by cases z)⟩) (fun x hx => ?_) (List.getElem?_eq_some_iff.mp ex).1 (fun _ => trivial)
    cases hx
    have := e1 i
    rw [ex] at this
    obtain ⟨v, ev, r⟩ := this
    cases r with
    | io r => exact ⟨v, ev, .own r⟩
  · rename_i o' ex
    exact other none (fun o => ⟨(fun z => by cases z), (fun z => by cases z)⟩) (fun x hx => by cases hx) (List.getElem?_eq_some_iff.mp ex).1 (fun _ => trivial)
  · rename_i n1 n2
    refine ⟨⟨fp, e1, e2, e3, e4⟩, k.own, k.sub, k.pr, k.f0, k.fz, fun j o' hj => ?_, k.len, k.nft⟩
    by_cases c : j = i
    · subst c
      rcases hj with hj | hj
      · exact absurd hj (n1 o')
      · exact absurd hj (n2 o')
    · exact pinj j o' c hj
end

def Out.unl (i : Nat) (o : Out) (f : Nv → Out) : Out := match o with
  | .nx ρ => f ρ | .ct ρ => f ρ | .bk ρ => .nx (unlk i ρ) | .rt x ρ => .rt x (unlk i ρ) | .exc e ρ => .exc e (unlk i ρ) | .bad => .bad
open Classical in
noncomputable def lkL (i : Nat) (es : List D) (t : Tg) (b : MS) : List D → MS
  | [], ρ => if ρ[i]? = some (some (.io (.lst es))) then .nx (unlk i ρ) else .bad
  | d :: ds, ρ => if ρ[i]? = some (some (.io (.lst es))) then (match t.put d ρ with
    | some ρ1 => (b ρ1).unl i fun ρ2 => lkL i es t b ds ρ2
    | none => .bad) else .bad
/-- for t in (an own list of slot i, as en tells): the list stays own -/
noncomputable def forLk (t : Tg) (i : Nat) (en : List D → List D) (b : MS) : MS := fun ρ => match ρ[i]? with
  | some (some (.own (.lst ds))) => lkL i ds t b (en ds) (ρ.set i (some (.io (.lst ds))))
  | _ => .bad
/-- what the iterator of a list tells -/
def EnR (K : PySem.W.Frag) (mg : MG) (JJ : Addr → It) (en : List D → List D) : Prop := ∀ (F H : Hp) (a : Addr) (vs : List V) (ds : List D), Same F H → H a = some (.lst vs) → Rps K mg F vs ds → ItR K mg (fun F' H' => F' = F ∧ H' = H) (JJ a) (en ds)
theorem enr_list {K : PySem.W.Frag} {mg : MG} : EnR K mg (Itl K) id := fun F H a vs ds s h r => itr_list (fun F' H' hS => by obtain ⟨rfl, rfl⟩ := hS; exact ⟨Same.refl _, s, .inl (.inl h)⟩) True.intro r
theorem enr_enum {K : PySem.W.Frag} {mg : MG} : EnR K mg (Ite K) (enumF 0) := fun F H a vs ds s h r => itr_enum (fun F' H' hS => by obtain ⟨rfl, rfl⟩ := hS; exact ⟨Same.refl _, s, .inl (.inl h)⟩) r
section
variable {X : Cx} {W : WX} {tg iter : Expr} {body : List Stmt} {t : Tg} {b : MS} {pos : Pos} {i : Nat}
theorem io_list {K : PySem.W.Frag} {mg : MG} {G : Gh} {F H : Hp} {σ : St} {ρ : Nv} {ds : List D} (k : Ok K mg G F H σ ρ) (e : ρ[i]? = some (some (.io (.lst ds)))) : ∃ a vs, σ[i]? = some (some (.ref a)) ∧ H a = some (.lst vs) ∧ Rps K mg F vs ds ∧ σ[i]? = G.pin[i]? := by
  obtain ⟨v, fp, ev, r⟩ := OkX.slot k e
  cases r with
  | io r =>
    cases r with
    | lst h r => exact ⟨_, _, ev, h, r, k.pin i _ (.inl e)⟩
theorem st_forLk {JJ : Addr → It} {en : List D → List D} (hJ : EnR X.K X.wg JJ en) (hp : PassesOwn (model X.prog X.w) X.A X.env X.xe) (hc : X.calm = true)
    (hi : PI X tg iter fun σ H R => ∃ a, σ[i]? = some (some (V.ref a)) ∧ (∃ xs, SqL X.K H a xs) ∧ R (JJ a) H) (hg : PGt X tg t) (hb : PSts X W body b)
    (hs : ∀ x, foldedSetIterable iter X.env x = pure x := by intro _; rfl) : PSt X W (.For tg iter body [] pos) (forLk t i en b) := PS.imp (ps_for hp hc hi hg hb hs) fun D σ H ⟨G, F, ρ, ok, z⟩ => by
  unfold forLk at z
  split at z
  · rename_i ds ex
    have k0 := lock ok ex
    have hil : i < ρ.length := (List.getElem?_eq_some_iff.mp ex).1
    obtain ⟨a, vs, ev, ha, _, hpin⟩ := io_list (i := i) k0 (List.getElem?_set_self hil)
    refine ⟨a, ev, ⟨vs, .inl (.inl ha)⟩, ?_⟩
    refine ⟨fun j n σ' H' => n = (en ds).length - j ∧ j ≤ (en ds).length ∧ ∃ F' ρ', Same F F' ∧ Ok X.K X.wg (lockPin G σ i) F' H' σ' ρ' ∧ PostS X.K X.wg W G F' D (lkL i ds t b ((en ds).drop j) ρ'), ⟨(en ds).length, by simp, Nat.zero_le _, F, _, Same.refl F, k0, z⟩, ?_⟩
    rintro j n σ' H' ⟨rfl, hj, F2, ρ2, s3, k2, z2⟩
    have hck : ρ2[i]? = some (some (.io (.lst ds))) := by
      cases el : (en ds).drop j with
      | nil =>
        rw [el] at z2
        unfold lkL at z2
        by_cases c : ρ2[i]? = some (some (.io (.lst ds)))
        · exact c
        · rw [if_neg c] at z2; exact z2.elim
      | cons d r =>
        rw [el] at z2
        unfold lkL at z2
        by_cases c : ρ2[i]? = some (some (.io (.lst ds)))
        · exact c
        · rw [if_neg c] at z2; exact z2.elim
    obtain ⟨a2, vs2, ev2, ha2, rs2, hpin2⟩ := io_list (i := i) k2 hck
    have ea : a2 = a := by
      rw [hpin2, ← hpin, ev] at ev2
      cases ev2; rfl
    subst ea
    have r := hJ F2 H' a2 vs2 ds k2.sub ha2 rs2
    by_cases hlt : j < (en ds).length
    · have ed : (en ds)[j]? = some (en ds)[j] := List.getElem?_eq_getElem hlt
      rw [List.drop_eq_getElem_cons hlt] at z2
      unfold lkL at z2
      rw [if_pos hck] at z2
      refine .inr ⟨r.go j F2 H' ⟨rfl, rfl⟩ hlt, fun σ' H' => ∃ F' ρ', Same F F' ∧ Ok X.K X.wg (lockPin G σ i) F' H' σ' ρ' ∧ PostS X.K X.wg W G F' D (lkL i ds t b ((en ds).drop (j + 1)) ρ'), fun σ' H' hN => ⟨(en ds).length - (j + 1), by omega, rfl, hlt, hN⟩, fun x H3 hy => ?_⟩
      obtain ⟨F3, gr, rx⟩ := r.yld j F2 H' x H3 _ ⟨rfl, rfl⟩ ed hy
      cases e2 : t.put (en ds)[j] ρ2 with
      | none => rw [e2] at z2; exact z2.elim
      | some ρ3 =>
        rw [e2] at z2
        have z2 : PostS X.K X.wg W G F2 D ((b ρ3).unl i fun ρ2 => lkL i ds t b ((en ds).drop (j + 1)) ρ2) := z2
        refine ⟨lockPin G σ i, F3, ρ2, (en ds)[j], ρ3, Ok.grow k2 gr, rx, e2, fun σ3 k3 _ => ⟨lockPin G σ i, F3, ρ3, k3, ?_⟩⟩
        cases e3 : b ρ3 with
        | nx ρ4 => rw [e3] at z2; exact fun F' H' σ' s k => ⟨F', ρ4, s3.trans (gr.sub.trans s), k, PostS.adv (gr.sub.trans s) z2⟩
        | ct ρ4 => rw [e3] at z2; exact fun F' H' σ' s k => ⟨F', ρ4, s3.trans (gr.sub.trans s), k, PostS.adv (gr.sub.trans s) z2⟩
        | bk ρ4 => rw [e3] at z2; exact fun F' H' σ' s k => z2 F' H' σ' (gr.sub.trans s) (unlock k)
        | rt x ρ4 => rw [e3] at z2; exact fun F' H' σ' v fp s k r => z2 F' H' σ' v fp (gr.sub.trans s) (unlock k) r
        | exc e ρ4 => rw [e3] at z2; exact fun F' H' σ' c d s k r => z2 F' H' σ' c d (gr.sub.trans s) (unlock k) r
        | bad => rw [e3] at z2; exact z2
    · have e : j = (en ds).length := by omega
      subst e
      rw [List.drop_length] at z2
      unfold lkL at z2
      rw [if_pos hck] at z2
      exact .inl ⟨r.stop F2 H' ⟨rfl, rfl⟩, z2 F2 H' σ' (Same.refl F2) (unlock k2)⟩
  · exact z.elim
end

section
variable {X : Cx} {tg : Expr} {i : Nat} {x : Str} {p pos pos' tpos : Pos} {elts : List Expr} {kk : Nat}
theorem pi_lkN (hN : PE X (.Name x p) (tVar i)) : PI X tg (.Name x p) fun σ H R => ∃ a, σ[i]? = some (some (V.ref a)) ∧ (∃ xs, SqL X.K H a xs) ∧ R (Itl X.K a) H :=
  PI.imp (pi_of itv_seq hN) fun σ H R ⟨a, e, hx, r⟩ => ⟨.ref a, e, .inl ⟨a, rfl, hx, r⟩⟩
theorem pi_lkE (hg : Gl X "enumerate") (hm : X.mg "enumerate" = none) (hN : PE X (.Name x p) (tVar i)) (hs : starEach [.Name x p] X.env = [(false, eval (.Name x p) X.env)] := by rfl) :
    PI X (.Tuple elts kk tpos) (.Call (.Name "enumerate" pos) [.Name x p] [] pos') fun σ H R => ∃ a, σ[i]? = some (some (V.ref a)) ∧ (∃ xs, SqL X.K H a xs) ∧ R (Ite X.K a) H :=
  PI.imp (pi_enum hg hm (pa_cons hN pa_nil hs) hs) fun σ H R ⟨a, e, ⟨xs, hx⟩, r⟩ => ⟨.ref a, e, a, xs, rfl, hx, r⟩
end
end R

/-! R15: calls to which a name lends its own object. -/
namespace R
open PySem PySem.Spec PyProof.Rows L2
def lentO (i : Nat) (ρ : Nv) : Option O := match ρ[i]? with
  | some (some (.own o)) => some o | some (some (.io o)) => some o | _ => none
def backO (i : Nat) (o : O) (ρ : Nv) : Nv := match ρ[i]? with
  | some (some (.own _)) => ρ.set i (some (.own o))
  | some (some (.io _)) => ρ.set i (some (.io o))
  | _ => ρ
section
variable (K : PySem.W.Frag) (mg : MG)
/-- arguments, the j-th of them what the slot i holds -/
inductive XsL (σ : St) (i : Nat) (Pr F H : Hp) : Nat → List V → List SV → Prop
  | here {v : V} {vs : List V} {xs : List SV} : σ[i]? = some (some v) → XsR K mg Pr F H vs xs → XsL σ i Pr F H 0 (v :: vs) (.sh .non :: xs)
  | next {v : V} {x : SV} {j : Nat} {vs : List V} {xs : List SV} : XvR K mg Pr F H v x [] → XsL σ i Pr F H j vs xs → XsL σ i Pr F H (j + 1) (v :: vs) (x :: xs)
def relL (σ : St) (i j : Nat) : Rel (List SV) (List V) := fun G F H vs xs fp => XsL K mg σ i G.Pr F H j vs xs ∧ fp = []
end
abbrev PAl (X : Cx) (W : WX) (es : List Expr) (i j : Nat) (q : Bool) (ms : M (List SV)) : Prop := PA X es (fun σ H Q => T X.K X.wg (relL X.K X.wg σ i j) W q ms σ H Q)
def laL (i : Nat) (ms : M (List SV)) : M (List SV) := fun ρ => match lentO i ρ with
  | some _ => (ms ρ).bind fun xs ρ1 => .ok (.sh .non :: xs) ρ1
  | none => .bad
section
variable {K : PySem.W.Frag} {mg : MG} {σ : St} {i j : Nat} {Pr F H F' H' : Hp} {vs : List V} {xs : List SV}
theorem XsL.len (h : XsL K mg σ i Pr F H j vs xs) : vs.length = xs.length ∧ j < xs.length := by
  induction h with
  | here e r => exact ⟨by rw [List.length_cons, List.length_cons, r.len], by simp⟩
  | next a r ih => exact ⟨by rw [List.length_cons, List.length_cons, ih.1], by rw [List.length_cons]; omega⟩
theorem XsL.at (h : XsL K mg σ i Pr F H j vs xs) : ∃ v, vs[j]? = some v ∧ σ[i]? = some (some v) := by
  induction h with
  | here e r => exact ⟨_, rfl, e⟩
  | next a r ih => obtain ⟨v, h1, h2⟩ := ih; exact ⟨v, by rw [List.getElem?_cons_succ]; exact h1, h2⟩
theorem XsL.get (h : XsL K mg σ i Pr F H j vs xs) : ∀ {k : Nat} {x : SV}, k ≠ j → xs[k]? = some x → ∃ v, vs[k]? = some v ∧ XvR K mg Pr F H v x [] := by
  induction h with
  | here e r =>
    intro k x n hx
    cases k with
    | zero => exact absurd rfl n
    | succ k => rw [List.getElem?_cons_succ] at hx ⊢; exact r.get hx
  | next a r ih =>
    intro k x n hx
    cases k with
    | zero => cases hx; exact ⟨_, rfl, a⟩
    | succ k => rw [List.getElem?_cons_succ] at hx ⊢; exact ih (by omega) hx
theorem XsR.stable (h : XsR K mg Pr F H vs xs) (e : ∀ x ∈ xs, x.st = true) (s : Same F F') : XsR K mg Pr F' H' vs xs := by
  induction h with
  | nil => exact .nil
  | cons a r ih => exact .cons (a.stable (e _ List.mem_cons_self) s) (ih fun x hx => e x (List.mem_cons_of_mem _ hx))
end
section
variable {X : Cx} {W : WX} {q q2 : Bool} {e : Expr} {es : List Expr} {m : M SV} {ms : M (List SV)} {i j : Nat}
theorem lentO_at {ρ : Nv} {o : O} (h : lentO i ρ = some o) : ρ[i]? = some (some (.own o)) ∨ ρ[i]? = some (some (.io o)) := by
  unfold lentO at h
  split at h
  · cases h; exact .inl ‹_›
  · cases h; exact .inr ‹_›
  · cases h
theorem pal_here (hv : PE X e (tVar i)) (hr : PAs X W es q ms) (hs : starEach (e :: es) X.env = (false, eval e X.env) :: starEach es X.env := by rfl) : PAl X W (e :: es) i 0 q (laL i ms) :=
  PA.imp (pa_cons hv hr hs) fun σ H Q ⟨G, F, ρ, ok, z⟩ => by
    unfold laL at z
    cases e1 : lentO i ρ with
    | none => rw [e1] at z; exact z.elim
    | some o =>
      rw [e1] at z
      obtain ⟨v, fp, ev, r, nd, k⟩ := OkX.out ok (lentO_at e1)
      refine ⟨v, ev, ?_⟩
      refine T.bind ok z fun xs ρ2 F2 H2 vs fp2 e2 s3 s4 k2 ry z => ?_
      obtain ⟨ry, rfl⟩ := ry
      exact z F2 H2 (v :: vs) [] s3 s4 k2 ⟨.here ev ry, rfl⟩
theorem pal_next (ha : PX X W e q m) (hr : PAl X W es i j q2 ms) (hs : starEach (e :: es) X.env = (false, eval e X.env) :: starEach es X.env := by rfl) : PAl X W (e :: es) i (j + 1) false (a1c m ms) :=
  PA.imp (pa_cons ha hr hs) fun σ H Q ⟨G, F, ρ, ok, z⟩ => by
    unfold a1c at z
    refine T.bind ok z fun x ρ1 F1 H1 v fp0 e1 s1 s2 k1 rx z => ?_
    split at z
    · rename_i ha
      refine T.bind k1.drop (Post.adv (q := false) (H1 := H1) s1 (fun e => nomatch e) z) fun xs ρ2 F2 H2 vs fp2 e2 s3 s4 k2 ry z => ?_
      obtain ⟨ry, rfl⟩ := ry
      cases XvR.fp_nil rx (SV.arg_st ha)
      exact z F2 H2 (v :: vs) [] s3 (fun e => nomatch e) k2 ⟨.next (rx.stable ha s3) ry, rfl⟩
    · exact z.elim
end
section
variable {K : PySem.W.Frag} {mg : MG} {G : Gh} {F H : Hp} {σ : St} {ρ : Nv} {vs : List V} {xs : List SV} {i j : Nat} {o : O}
def offL (H : Hp) (L : List Addr) : Hp := fun a => if a ∈ L then none else H a
theorem offL_in {L : List Addr} {a : Addr} (h : a ∈ L) : offL H L a = none := if_pos h
theorem offL_out {L : List Addr} {a : Addr} (h : a ∉ L) : offL H L a = H a := if_neg h
/-- an object is lent, and comes back -/
theorem lending (k : Ok K mg G F H σ ρ) (e : lentO i ρ = some o) (r : XsL K mg σ i G.Pr F H j vs xs) (hst : ∀ x ∈ xs, x.st = true) :
    ∃ L : List Addr, Ok K mg ⟨offL H L, F, vs.map some, fun _ => False⟩ F H (vs.map some) ((xs.set j (.io o)).map some) ∧
      ∀ (F' H' : Hp) (as : List SV) (fp0 : List Addr) (o' : O), Same F F' → OkX K mg ⟨offL H L, F, vs.map some, fun _ => False⟩ F' H' (vs.map some) (as.map some) fp0 → as[j]? = some (.io o') → OkX K mg G F' H' σ (backO i o' ρ) fp0 := by
  obtain ⟨ff, e1, e2, e3, e4⟩ := k.env
  have hat := lentO_at e
  obtain ⟨hlen, hj⟩ := r.len
  obtain ⟨v, hvj, hvi⟩ := r.at
  have how : Ow K mg F H v o (ff i) := by
    have := e1 i
    rcases hat with h | h
    · rw [h] at this
      obtain ⟨w, ew, s⟩ := this
      rw [hvi] at ew
      cases ew
      cases s with
      | own s => exact s
    · rw [h] at this
      obtain ⟨w, ew, s⟩ := this
      rw [hvi] at ew
      cases ew
      cases s with
      | io s => exact s
  have hL : ∀ p ∈ ff i, F p = none ∧ G.free p := fun p hp => ⟨(e4 i p hp).1, (e4 i p hp).2.1⟩
  have prsub : Same G.Pr (offL H (ff i)) := fun b u eb => by
    rw [offL_out fun hb => by have := (hL b hb).2.1; rw [this] at eb; cases eb]
    exact k.pr b u eb
  refine ⟨ff i, ?_, ?_⟩
  · refine ⟨⟨fun l => if l = j then ff i else [], fun l => ?_, fun l => ?_, fun l m p hl hm => ?_, fun l p hp => ?_⟩, (by intro p hp; cases hp), k.sub, fun b u eb => ?_, Same.refl F, fun _ _ => rfl, fun _ _ _ => rfl, ?_, fun p h => h.elim⟩
    · by_cases c : l = j
      · subst c
        show SlotR _ _ _ _ _ _ _ (if l = l then ff i else [])
        rw [if_pos rfl, List.getElem?_map, List.getElem?_map, List.getElem?_set_self hj, hvj]
        exact ⟨v, rfl, .io how⟩
      · show SlotR _ _ _ _ _ _ _ (if l = j then ff i else [])
        rw [if_neg c, List.getElem?_map, List.getElem?_map, List.getElem?_set_ne (Ne.symm c)]
        cases ex : xs[l]? with
        | none => rfl
        | some x =>
          obtain ⟨w, ew, rw'⟩ := r.get c ex
          rw [ew]
          refine ⟨w, rfl, ?_⟩
          have := hst x (List.mem_of_getElem? ex)
          cases rw' with
          | sh q => exact .sh q
          | own q n => cases this
          | bo q => exact .bo (q.mono (Same.refl F) fun p hp => by
              obtain ⟨u, eu⟩ := q.at p hp
              rw [eu]; exact prsub p u eu)
          | tr q => cases this
    · show (if l = j then ff i else []).Nodup
      split
      · exact e2 i
      · exact List.nodup_nil
    · have hl' : p ∈ (if l = j then ff i else []) := hl
      have hm' : p ∈ (if m = j then ff i else []) := hm
      by_cases c : l = j
      · by_cases c2 : m = j
        · rw [c, c2]
        · rw [if_neg c2] at hm'; cases hm'
      · rw [if_neg c] at hl'; cases hl'
    · have hp' : p ∈ (if l = j then ff i else []) := hp
      by_cases c : l = j
      · rw [if_pos c] at hp'
        exact ⟨(hL p hp').1, ⟨offL_in hp', fun z => z⟩, by simp⟩
      · rw [if_neg c] at hp'; cases hp'
    · by_cases c : b ∈ ff i
      · have : offL H (ff i) b = none := offL_in c
        rw [show (⟨offL H (ff i), F, vs.map some, fun _ => False⟩ : Gh).Pr = offL H (ff i) from rfl, this] at eb
        cases eb
      · have : offL H (ff i) b = H b := offL_out c
        rw [show (⟨offL H (ff i), F, vs.map some, fun _ => False⟩ : Gh).Pr = offL H (ff i) from rfl, this] at eb
        exact eb
    · rw [List.length_map, List.length_map, List.length_set, hlen]
  · intro F' H' as fp0 o' sF k' ej
    obtain ⟨gg, f1, f2, f3, f4⟩ := k'.env
    have hpr : Same (offL H (ff i)) H' := k'.pr
    have hfz : ∀ p, ¬ (offL H (ff i) p = none) → F' p = F p := fun p hp => k'.fz p fun z => hp z.1
    have stay : ∀ p u, H p = some u → p ∉ ff i → H' p = some u := fun p u e1 n => hpr p u ((offL_out n).trans e1)
    have stayF : ∀ p u, H p = some u → p ∉ ff i → F p = none → F' p = none := fun p u e1 n e2 => by
      rw [hfz p (by rw [offL_out n, e1]; simp), e2]
    have freeG : ∀ p, offL H (ff i) p = none → G.free p := fun p hp => by
      by_cases c : p ∈ ff i
      · exact (hL p c).2
      · rw [offL_out c] at hp
        refine ⟨?_, fun z => ?_⟩
        · cases q : G.Pr p with
          | none => rfl
          | some u => have := k.pr p u q; rw [hp] at this; cases this
        · obtain ⟨u, eu⟩ := k.nft p z
          rw [hp] at eu; cases eu
    have howj : Ow K mg F' H' v o' (gg j) := by
      have := f1 j
      rw [List.getElem?_map, List.getElem?_map, ej, hvj] at this
      obtain ⟨w, ew, s⟩ := this
      cases ew
      cases s with
      | io s => exact s
    have hi : i < ρ.length := by rcases hat with h | h <;> exact (List.getElem?_eq_some_iff.mp h).1
    have hback : (backO i o' ρ).length = ρ.length := by
      unfold backO
      rcases hat with h | h <;> rw [h] <;> simp
    have bi : ∀ l, l ≠ i → (backO i o' ρ)[l]? = ρ[l]? := fun l c => by
      unfold backO
      rcases hat with h | h <;> rw [h] <;> exact List.getElem?_set_ne (Ne.symm c)
    have bii : (ρ[i]? = some (some (.own o)) ∧ (backO i o' ρ)[i]? = some (some (.own o'))) ∨ (ρ[i]? = some (some (.io o)) ∧ (backO i o' ρ)[i]? = some (some (.io o'))) := by
      rcases hat with h | h
      · left
        refine ⟨h, ?_⟩
        unfold backO
        rw [h]
        exact List.getElem?_set_self hi
      · right
        refine ⟨h, ?_⟩
        unfold backO
        rw [h]
        exact List.getElem?_set_self hi
    have atL : ∀ l p, p ∈ ff l → l ≠ i → ∃ u, H p = some u ∧ p ∉ ff i := fun l p hp c => by
      obtain ⟨u, eu⟩ := (e1 l).at p hp
      exact ⟨u, eu, fun z => c (e3 l i p hp z)⟩
    refine ⟨⟨fun l => if l = i then gg j else ff l, fun l => ?_, fun l => ?_, fun l m p hl hm => ?_, fun l p hp => ?_⟩, fun p hp => ⟨(k'.own p hp).1, freeG p (k'.own p hp).2.1⟩, k'.sub, prsub.trans hpr, k.f0.trans sF, fun p hp => ?_, fun l o2 hl => ?_, by rw [hback]; exact k.len, fun p hp => ?_⟩
    · by_cases c : l = i
      · subst c
        show SlotR _ _ _ _ _ _ _ (if l = l then gg j else ff l)
        rw [if_pos rfl, hvi]
        rcases bii with ⟨_, h⟩ | ⟨_, h⟩
        · rw [h]; exact ⟨v, rfl, .own howj⟩
        · rw [h]; exact ⟨v, rfl, .io howj⟩
      · show SlotR _ _ _ _ _ _ _ (if l = i then gg j else ff l)
        rw [if_neg c, bi l c]
        refine (e1 l).mono sF fun p hp => ?_
        obtain ⟨u, eu, n⟩ := atL l p hp c
        rw [eu]; exact stay p u eu n
    · show (if l = i then gg j else ff l).Nodup
      split
      · exact f2 j
      · exact e2 l
    · have hl' : p ∈ (if l = i then gg j else ff l) := hl
      have hm' : p ∈ (if m = i then gg j else ff m) := hm
      by_cases c : l = i
      · by_cases c2 : m = i
        · rw [c, c2]
        · rw [if_pos c] at hl'; rw [if_neg c2] at hm'
          obtain ⟨u, eu, n⟩ := atL m p hm' c2
          have := (f4 j p hl').2.1.1
          have : offL H (ff i) p = none := this
          rw [offL_out n, eu] at this; cases this
      · by_cases c2 : m = i
        · rw [if_neg c] at hl'; rw [if_pos c2] at hm'
          obtain ⟨u, eu, n⟩ := atL l p hl' c
          have : offL H (ff i) p = none := (f4 j p hm').2.1.1
          rw [offL_out n, eu] at this; cases this
        · rw [if_neg c] at hl'; rw [if_neg c2] at hm'
          exact e3 l m p hl' hm'
    · have hp' : p ∈ (if l = i then gg j else ff l) := hp
      by_cases c : l = i
      · rw [if_pos c] at hp'
        exact ⟨(f4 j p hp').1, freeG p (f4 j p hp').2.1.1, (f4 j p hp').2.2⟩
      · rw [if_neg c] at hp'
        obtain ⟨u, eu, n⟩ := atL l p hp' c
        refine ⟨stayF p u eu n (e4 l p hp').1, (e4 l p hp').2.1, fun z => ?_⟩
        have : offL H (ff i) p = none := (k'.own p z).2.1
        rw [offL_out n, eu] at this; cases this
    · rw [← k.fz p hp]
      cases q : F p with
      | some u => exact sF p u q
      | none =>
        rw [← q]
        refine hfz p fun z => hp (freeG p z)
    · by_cases c : l = i
      · subst c
        rcases bii with ⟨_, h⟩ | ⟨h0, h⟩
        · rw [h] at hl; rcases hl with hl | hl <;> cases hl
        · exact k.pin l o (.inl h0)
      · rw [bi l c] at hl
        exact k.pin l o2 hl
    · obtain ⟨u, eu⟩ := k.nft p hp
      by_cases c : p ∈ ff i
      · exact absurd hp (hL p c).2.2
      · exact ⟨u, stay p u eu c⟩
end
/-- the call -/
def callL (n : Nat) (f : MF) (i j : Nat) (ms : M (List SV)) : M SV := fun ρ => (ms ρ).bind fun xs ρ1 => match lentO i ρ1 with
  | some o => if (∀ x ∈ xs, x.st = true) ∧ xs.length = n then (match f (xs.set j (.io o)) with
    | .ok r as => (match as[j]? with | some (.io o') => .ok r (backO i o' ρ1) | _ => .bad)
    | .exc e as => (match as[j]? with | some (.io o') => .exc e (backO i o' ρ1) | _ => .bad)
    | .bad => .bad) else .bad
  | none => .bad
section
variable {X : Cx} {W : WX} {q : Bool} {i j n : Nat} {m : MF} {ms : M (List SV)}
theorem calleeL {σ : St} {H : Hp} {Q : VK}
    (h : T X.K X.wg (relX X.K X.wg) W false (callL n m i j ms) σ H Q) : T X.K X.wg (relL X.K X.wg σ i j) W q ms σ H fun vs H1 => spM X.K X.wg n m vs H1 Q (WE W σ) := by
  obtain ⟨G, F, ρ, ok, z⟩ := h
  unfold callL at z
  refine T.bind (q := q) ok z fun xs ρ1 F1 H1 vs fp0 e1 s1 s2 k1 r z => ?_
  obtain ⟨r, rfl⟩ := r
  cases el : lentO i ρ1 with
  | none => rw [el] at z; exact z.elim
  | some o =>
    rw [el] at z
    have z : Post X.K X.wg (relX X.K X.wg) W G F H σ false Q (if (∀ x ∈ xs, x.st = true) ∧ xs.length = n then (match m (xs.set j (.io o)) with
      | .ok r as => (match as[j]? with | some (.io o') => .ok r (backO i o' ρ1) | _ => .bad)
      | .exc e as => (match as[j]? with | some (.io o') => .exc e (backO i o' ρ1) | _ => .bad)
      | .bad => .bad) else .bad) := z
    by_cases c : (∀ x ∈ xs, x.st = true) ∧ xs.length = n
    · rw [if_pos c] at z
      obtain ⟨ha, hl⟩ := c
      obtain ⟨L, h1, h2⟩ := lending k1 el r ha
      refine ⟨_, F1, xs.set j (.io o), h1, ?_, by rw [List.length_set]; exact hl, ?_⟩
      · intro x hx o2
        rcases List.mem_or_eq_of_mem_set hx with hx | rfl
        · have := ha x hx
          cases x <;> first | exact absurd this Bool.false_ne_true | exact ⟨(fun z => by cases z), (fun z => by cases z)⟩
        · exact ⟨(fun z => by cases z), (fun z => by cases z)⟩
      · cases em : m (xs.set j (.io o)) with
        | bad => rw [em] at z; exact z.elim
        | exc e bs =>
          rw [em] at z
          have z : Post X.K X.wg (relX X.K X.wg) W G F H σ false Q (match bs[j]? with | some (.io o') => .exc e (backO i o' ρ1) | _ => .bad) := z
          split at z
          · rename_i o' ej
            intro F' H' c d s k x
            exact z F' H' c d (s1.trans s) (h2 F' H' bs [] o' s k ej) x
          · exact z.elim
        | ok u bs =>
          rw [em] at z
          have z : Post X.K X.wg (relX X.K X.wg) W G F H σ false Q (match bs[j]? with | some (.io o') => .ok u (backO i o' ρ1) | _ => .bad) := z
          split at z
          · rename_i o' ej
            intro F' H' v fp s k x hr
            exact z F' H' v fp (s1.trans s) (fun e => nomatch e) (h2 F' H' bs fp o' s k ej) (x.ret hr)
          · exact z.elim
    · rw [if_neg c] at z; exact z.elim
variable {k : Nat} {x : Str} {p pos : Pos} {e : Expr} {es : List Expr}
theorem px_callL (Fn : FnM X.prog X.w X.K X.wg X.base x k n m) (hr : Room k X.A) (hg : Gl X x) (tk : L2N.Takes X W) (ha : PAl X W (e :: es) i j q ms) (hdb : (x == ("__debug__" : Str)) = false := by decide) (he : starEach (e :: es) X.env = (false, eval e X.env) :: starEach es X.env := by rfl) (hpl : (backTo pos (starEach es X.env)).any (·.1) = false := by rfl) :
    PX X W (.Call (.Name x p) (e :: es) [] pos) false (callL n m i j ms) := by
  obtain ⟨f, fd, ps, a, b, c, d⟩ := Fn.ex
  exact PE.imp (pe_callSD (E := WE W) a hr hg d c b .nil (fun σ => L2N.passAt tk σ) ha hdb he hpl) fun σ H Q h => by
    unfold tCallSD
    simp only [List.append_nil]
    exact calleeL h
end
end R

/-! R16: enumerate and zip over lists and tuples alike. -/
namespace R
open PySem PySem.Spec PyProof.Rows L2
/-- a list (false) or a tuple (true) -/
def SqB (K : PySem.W.Frag) (b : Bool) (H : Hp) (a : Addr) (xs : List V) : Prop := match b with | false => SqL K H a xs | true => SqT K H a xs
def ItrB (b : Bool) (h : Heap) (it a : Addr) (i : Nat) : Prop := match b with | false => h.IsListIter it a i | true => h.IsTupleIter it a i
def ObB (b : Bool) (h : Heap) (a : Addr) (items : Array Value) : Prop := match b with | false => h.IsList a items | true => h.IsTuple a items
def itO (b : Bool) (a : Addr) : Obj := match b with | false => { cls := .type "list_iterator", data := .fields #[.ref a, .int 0 0] } | true => { cls := .type "tuple_iterator", data := .fields #[.ref a, .int 0 0] }
theorem draws_b {prog : Program} {w : World} {A : Around} (b : Bool) (hh : A.handled = none) (it a : Addr) (hne : a ≠ it) (items : Array Value) :
    Draws prog w A it [it, a] items.size (fun i v => items[i]? = some v) (fun i h => ItrB b h it a i ∧ ObB b h a items) := by
  cases b
  · exact Draws.list hh it a hne items
  · exact Draws.tuple hh it a hne items
theorem begins_b (b : Bool) (a : Addr) (items : Array Value) : Begins (.ref a) (itO b a) (fun h => ObB b h a items) := by
  cases b
  · exact begins_list a items
  · exact begins_tuple a items
theorem ItrB.at {b : Bool} {h h' : Heap} {it a : Addr} {i : Nat} (x : ItrB b h it a i) (k : ∀ o, h.get? it = some o → h'.get? it = some o) : ItrB b h' it a i := by
  cases b
  · exact Heap.IsListIter.at x k
  · exact Heap.IsTupleIter.at x k
theorem ItrB.obj {b : Bool} {h : Heap} {it a : Addr} {i : Nat} (x : ItrB b h it a i) : ∃ o, h.get? it = some o ∧ (∀ v, o.data ≠ .cell v) ∧ (o.cls = .type "list_iterator" ∨ o.cls = .type "tuple_iterator") := by
  cases b
  · obtain ⟨o, h1, h2, h3⟩ := x; exact ⟨o, h1, (fun v e => by rw [h3] at e; cases e), .inl h2⟩
  · obtain ⟨o, h1, h2, h3⟩ := x; exact ⟨o, h1, (fun v e => by rw [h3] at e; cases e), .inr h2⟩
theorem ObB.obj {b : Bool} {h : Heap} {a : Addr} {items : Array Value} (x : ObB b h a items) : ∃ o, h.get? a = some o ∧ (o.cls = .type "list" ∨ o.cls = .type "tuple") := by
  cases b
  · obtain ⟨o, h1, h2, h3⟩ := x; exact ⟨o, h1, .inl h2⟩
  · obtain ⟨o, h1, h2, h3⟩ := x; exact ⟨o, h1, .inr h2⟩
theorem ItrB.first {b : Bool} {h : Heap} {it a : Addr} (e : h.get? it = some (itO b a)) : ItrB b h it a 0 := by
  cases b
  · exact ⟨_, e, rfl, rfl⟩
  · exact ⟨_, e, rfl, rfl⟩
section
variable {X : Cx} {pins : List (Addr × Obj)} {σ : L2.St} {H : Hp} {s : Shared} {a : Addr} {xs ys : List V} {b : Bool}
theorem inv_seq (I : Inv X pins σ H s) (h : SqB X.K b H a xs) : ∃ its : List Value, Vals xs its ∧ ObB b s.heap a its.toArray := by
  cases b
  · obtain ⟨its, r, p, _⟩ := I.list h; exact ⟨its, r, p.isList⟩
  · obtain ⟨its, r, p, _⟩ := I.tuple h; exact ⟨its, r, p⟩
theorem inv_seq_inj (I : Inv X pins σ H s) (h : SqB X.K b H a xs) (h' : SqB X.K b H a ys) : xs = ys := by
  cases b
  · exact I.list_inj h h'
  · exact I.tuple_inj h h'
end
/-! ### enumerate -/
def IteB (K : PySem.W.Frag) (b : Bool) (a : Addr) : It :=
  ⟨fun i H => ∃ (xs : List V) (x : V), SqB K b H a xs ∧ xs[i]? = some x, fun i H v H' => ∃ T x, v = .ref T ∧ H T = none ∧ H' = upd H T (.tup [.int (i : Nat), x]) ∧ ∀ xs, SqB K b H a xs → xs[i]? = some x, fun i H => ∃ xs : List V, SqB K b H a xs ∧ xs.length = i⟩
theorem turn_enumB {P : Program} {w : World} {K : PySem.W.Frag} {elts : List Expr} {kk : Nat} {tpos : Pos} (b : Bool) (a e it : Addr) :
    Turn P w K (.Tuple elts kk tpos) (IteB K b a) [e, it] e (fun i h => (∃ old, IsEnum h e it ((i : Nat) : Int) old) ∧ ItrB b h it a i ∧ e ≠ it) where
  mem := by simp
  obj := fun i h st c hc => by
    obtain ⟨⟨old, he⟩, hi, _⟩ := st
    have e' : c = e ∨ c = it := by simpa using hc
    rcases e' with z | z
    · rw [z]; exact ⟨_, he, fun v q => nomatch q⟩
    · rw [z]; obtain ⟨o, h1, h2, _⟩ := hi.obj; exact ⟨o, h1, h2⟩
  keep := fun i h h' st k => let ⟨⟨old, he⟩, hi, hne⟩ := st; ⟨⟨old, k e (by simp) _ he⟩, hi.at fun o q => k it (by simp) o q, hne⟩
  item := by
    intro X hP hw hK hc i pins s σ H E I hf st hg
    subst hP hw hK
    obtain ⟨⟨old, he⟩, hit, hne⟩ := st
    obtain ⟨xs, x, hq, hx⟩ := hg
    obtain ⟨its, rv, p⟩ := inv_seq I hq
    obtain ⟨u, hu, ru⟩ := rv.get hx
    have hel : e < s.heap.objs.size := Heap.lt_size he
    obtain ⟨oi, hoi, _, hci⟩ := hit.obj
    obtain ⟨oa, hoa, hca⟩ := p.obj
    have hil : it < s.heap.objs.size := Heap.lt_size hoi
    have hae : a ≠ e := fun z => by
      rw [z, he] at hoa
      injection hoa with hoa
      subst hoa
      rcases hca with h | h <;> simp at h
    have hai : a ≠ it := fun z => by
      rw [z, hoi] at hoa
      injection hoa with hoa
      subst hoa
      rcases hca with h | h <;> rcases hci with h2 | h2 <;> rw [h] at h2 <;> simp at h2
    have hlt : i < its.toArray.size := by
      have := (List.getElem?_eq_some_iff.mp hu).1
      simpa using this
    refine wpAny_pyNext_enum_itemD (draws_b b (show X.A.in1.handled = none from I.ok.hd hc) it a hai its.toArray) he ⟨hit, p⟩ hlt hne (by simp [hne, Ne.symm hae]) fun y h' tk hPy ho hst' hT hsz hk => ?_
    have hyu : y = u := by
      have h1 : its.toArray[i]? = some u := by simpa using hu
      exact Option.some.inj (hPy.symm.trans h1)
    subst hyu
    refine ⟨_, rfl, wpAny_letOwnedTupleGo_enum (s := { s with heap := h', toks := tk + 1 }) ho fun h'' he' sb => ?_⟩
    have hT2 : h''.get? s.heap.objs.size = some { cls := .type "tuple", data := .seq #[.int i tk, y] } := (sb.2 _ (Nat.ne_of_gt hel)).trans hT
    have new : ObjOk X.prog X.w (upd H s.heap.objs.size (.tup [.int (i : Nat), x])) h'' s.heap.objs.size (.tup [.int (i : Nat), x]) :=
      ⟨by show 2 ≤ sizeLine; decide, [.int i tk, y], .cons ⟨_, rfl⟩ (.cons ru .nil), ⟨_, hT2, rfl, _, rfl⟩⟩
    have I1 : Inv X pins σ (upd H s.heap.objs.size (.tup [.int (i : Nat), x])) { s with heap := h'', toks := tk + 1 } :=
      I.turnedNew (ch := [e, it]) (fun c ob hb q => (sb.2 c (fun z => hb (by simp [z]))).trans (hk c ob (fun z => hb (by simp [z])) (fun z => hb (by simp [z])) q)) hf (Nat.le_refl _) new
    refine ⟨.ref s.heap.objs.size, _, I1, rfl, ⟨_, x, rfl, I.hok.fresh (Nat.le_refl _), rfl, fun ys hy => by rw [inv_seq_inj I hy hq]; exact hx⟩, ⟨⟨y, ?_⟩, hst'.1.at fun o q => (sb.2 it (Ne.symm hne)).trans q, hne⟩, fun c hb => ?_⟩
    · have e1 : ((i + 1 : Nat) : Int) = (i : Int) + 1 := by omega
      rw [e1]; exact he'
    · have hb' : c < s.heap.objs.size := by
        have e' : c = e ∨ c = it := by simpa using hb
        rcases e' with z | z
        · rw [z]; exact hel
        · rw [z]; exact hil
      rw [upd_ne (Nat.ne_of_lt hb')]
      exact (hf c hb).1
  done := by
    intro X hP hw hK hc i pins s σ H E I hf st hg
    subst hP hw hK
    obtain ⟨⟨old, he⟩, hit, hne⟩ := st
    obtain ⟨xs, hq, hx⟩ := hg
    obtain ⟨its, rv, p⟩ := inv_seq I hq
    obtain ⟨oi, hoi, _, hci⟩ := hit.obj
    obtain ⟨oa, hoa, hca⟩ := p.obj
    have hai : a ≠ it := fun z => by
      rw [z, hoi] at hoa
      injection hoa with hoa
      subst hoa
      rcases hca with h | h <;> rcases hci with h2 | h2 <;> rw [h] at h2 <;> simp at h2
    obtain ⟨f0, f1, f2, f3, f4, f5⟩ := hf it (by simp)
    have hl := rv.length
    have hn : i = its.toArray.size := by simp; omega
    exact wpAny_pyNext_enum_endD (draws_b b (show X.A.in1.handled = none from I.ok.hd hc) it a hai its.toArray) he (by rw [← hn]; exact ⟨hit, p⟩) fun h' eb => ⟨rfl, I.turned (t' := s.toks) (fun b o hb q => eb b o hb q) f0 f1 f3 f4 f5⟩
  self := fun A i s Q E st h => let ⟨⟨_, he⟩, _⟩ := st; wpAny_pyIter_enum he h
set_option maxHeartbeats 1000000 in
theorem meets_enum1 {v : Value} {o : Obj} {H : Heap → Prop} (B : Begins v o H) :
    Meets (Builtin.«enumerate.__new__» ⟨[.type "enumerate", v], []⟩) (fun _ R s => H s.heap ∧
      R (.ok (.ret (.ref (s.heap.push o).objs.size))) { s with heap := (s.heap.push o).push { cls := .type "enumerate", data := .fields #[.none, .bool false, .ref s.heap.objs.size, rawInt 0, .none, .none] } }) :=
  .of_wp fun prog w A R s h => by
    obtain ⟨hp, g, d, tk, os⟩ := s; obtain ⟨h1, h⟩ := h
    have hsub := sub_enumerate
    have q1 : ∀ {A' : Around} {E : Value → Shared → Prop} {Q : Value → Shared → Prop}, Q (.ref hp.objs.size) ⟨hp.push o, g, d, tk, os⟩ → wpAny (model prog w) A' (pyIter v) Q E ⟨hp, g, d, tk, os⟩ :=
      fun q => B.iter prog w _ _ ⟨hp, g, d, tk, os⟩ _ h1 q
    wp_walk using q1
    refine wpAny_stack_any fun st => wpAny_pure ?_
    split
    · rename_i c _ _ _ _ _
      cases (c == Value.type "enumerate")
      · wp_walk using q1
        exact ⟨_, rfl, h⟩
      · wp_walk using q1
        exact ⟨_, rfl, h⟩
    · wp_walk using q1
      exact ⟨_, rfl, h⟩
theorem call_enum1 {prog : Program} {w : World} {A : Around} {E : Value → Shared → Prop} {s : Shared} {v : Value} {o : Obj} {H : Heap → Prop} {Q : Value → Shared → Prop} (B : Begins v o H) (h1 : H s.heap)
    (h : ∀ h', IsEnum h' (s.heap.objs.size + 1) s.heap.objs.size 0 .none → h'.get? s.heap.objs.size = some o → h'.objs.size = s.heap.objs.size + 2 →
      (∀ b o, s.heap.get? b = some o → h'.get? b = some o) → Q (.ref (s.heap.objs.size + 1)) { s with heap := h' }) :
    wpAny (model prog w) A (call (.type "enumerate") [v]) Q E s := by
  refine callType_new F.called_enumerate (by decide) (F.typeCall_enumerate_1 _) (F.newCall_enumerate_1 _) (fun obj => F.args_object_init_2 obj _) F.entry_enumerate_new
    (meets_enum1 B) ⟨h1, ?_⟩
  have hz : (s.heap.push o).objs.size = s.heap.objs.size + 1 := Heap.size_push ..
  show _ ∧ _
  rw [hz]
  have he : IsEnum ((s.heap.push o).push { cls := .type "enumerate", data := .fields #[.none, .bool false, .ref s.heap.objs.size, rawInt 0, .none, .none] }) (s.heap.objs.size + 1) s.heap.objs.size 0 .none := by
    have := Heap.get?_push_size (s.heap.push o) (o := { cls := .type "enumerate", data := .fields #[.none, .bool false, .ref s.heap.objs.size, rawInt 0, .none, .none] }) rfl
    rw [hz] at this; exact this
  refine ⟨⟨_, he, rfl⟩, h _ he (Heap.get?_push_of_some _ (Heap.get?_push_size _ B.free)) (by rw [Heap.size_push, hz]) fun b o x => Heap.get?_push_of_some _ (Heap.get?_push_of_some _ x)⟩
def iEnumB (K : PySem.W.Frag) (ta : TA) : TI := fun σ H R => ta σ H fun vs H1 => ∃ a b xs, vs = [.ref a] ∧ SqB K b H1 a xs ∧ R (IteB K b a) H1
theorem pi_enumB {X : Cx} {e : Expr} {ta : TA} {p pos tpos : Pos} {elts : List Expr} {kk : Nat} (hg : Gl X "enumerate") (hm : X.mg "enumerate" = none) (ha : PA X [e] ta) (hs : starEach [e] X.env = [(false, eval e X.env)] := by rfl) :
    PI X (.Tuple elts kk tpos) (.Call (.Name "enumerate" p) [e] [] pos) (iEnumB X.K ta) := by
  refine ⟨fun pins s σ H R I h => ?_⟩
  refine Call_ (ld_blt I hg hm boot_enumerate (PyProof.Rows.callWith_type1 (thn (ha.run pos pins s σ H _ I h) fun us s1 ⟨vs, H1, I1, r1, q1⟩ => ?_) hs rfl))
  obtain ⟨a, b, xs, ex, hq, q⟩ := q1
  subst ex
  cases r1 with
  | cons r rr =>
    cases rr
    cases r
    obtain ⟨its, rv, p'⟩ := inv_seq I1 hq
    have fin : ∀ h', IsEnum h' (s1.heap.objs.size + 1) s1.heap.objs.size ((0 : Nat) : Int) .none → ItrB b h' s1.heap.objs.size a 0 → (∀ c o, s1.heap.get? c = some o → h'.get? c = some o) →
        wpAny (model X.prog X.w) X.A (pyIter (.ref (s1.heap.objs.size + 1))) (PIE X pins σ (.Tuple elts kk tpos) R) X.xe { s1 with heap := h' } := fun h' he hit hk => wpAny_pyIter_enum he (by
      have I2 : Inv X pins σ H1 { s1 with heap := h' } := I1.kept (t' := s1.toks) hk
      refine ⟨s1.heap.objs.size + 1, [s1.heap.objs.size + 1, s1.heap.objs.size], _, _, H1, rfl, I2, turn_enumB b a (s1.heap.objs.size + 1) s1.heap.objs.size, ⟨⟨.none, he⟩, hit, Nat.succ_ne_self _⟩, fun c hb => ?_, q⟩
      have e' : c = s1.heap.objs.size + 1 ∨ c = s1.heap.objs.size := by simpa using hb
      have hle : s1.heap.objs.size ≤ c := by
        rcases e' with z | z
        · rw [z]; exact Nat.le_add_right _ _
        · rw [z]; exact Nat.le_refl _
      exact I1.fpOk hle (I1.hok.fresh hle))
    exact call_enum1 (begins_b b a its.toArray) p' fun h' he h0 hsz hk => fin h' he (ItrB.first h0) hk
/-! ### zip -/
def ItzB (K : PySem.W.Frag) (b1 b2 : Bool) (a b : Addr) : It :=
  ⟨fun i H => ∃ (xs ys : List V) (x y : V), SqB K b1 H a xs ∧ SqB K b2 H b ys ∧ xs[i]? = some x ∧ ys[i]? = some y,
    fun i H v H' => ∃ T x y, v = .ref T ∧ H T = none ∧ H' = upd H T (.tup [x, y]) ∧ (∀ xs, SqB K b1 H a xs → xs[i]? = some x) ∧ ∀ ys, SqB K b2 H b ys → ys[i]? = some y,
    fun i H => ∃ xs ys : List V, SqB K b1 H a xs ∧ SqB K b2 H b ys ∧ i = min xs.length ys.length⟩
theorem apart_sep {z TI TO i1 i2 a b : Addr} (D : ZipApart z TI TO i1 i2 a b) : ZipSep2 z TI TO i1 i2 [i1, a] [i2, b] where
  TIz := D.TIz
  TOz := D.TOz
  TITO := D.TITO
  TIi1 := D.TIi1
  mem1 := by simp
  zf1 := by simp [Ne.symm D.i1z, Ne.symm D.l1z]
  Tf1 := by simp [D.TOi1, Ne.symm D.l1TO]
  TIi2 := D.TIi2
  mem2 := by simp
  zf2 := by simp [Ne.symm D.i2z, Ne.symm D.l2z]
  Tf2 := by simp [D.TOi2, Ne.symm D.l2TO]
  sep1_2 := by simp [D.i12, Ne.symm D.l2i1]
  sep2_1 := by simp [Ne.symm D.i12, Ne.symm D.l1i2]
theorem turn_zipB {P : Program} {w : World} {K : PySem.W.Frag} {elts : List Expr} {kk : Nat} {tpos : Pos} {b1 b2 : Bool} {a b z TI TO i1 i2 : Addr} (D : ZipApart z TI TO i1 i2 a b) :
    Turn P w K (.Tuple elts kk tpos) (ItzB K b1 b2 a b) [z, TI, TO, i1, i2] z (fun i h => IsZip h z TI TO .none ∧ IsTupOf2 h TI (.ref i1) (.ref i2) ∧ (∃ x y, IsTupOf2 h TO x y) ∧ ItrB b1 h i1 a i ∧ ItrB b2 h i2 b i) where
  mem := by simp
  obj := fun i h st c hc => by
    obtain ⟨hz, hTI, ⟨x, y, hTO⟩, h1, h2⟩ := st
    have e' : c = z ∨ c = TI ∨ c = TO ∨ c = i1 ∨ c = i2 := by simpa using hc
    rcases e' with q | q | q | q | q
    · rw [q]; exact ⟨_, hz, fun v q => nomatch q⟩
    · rw [q]; exact ⟨_, hTI, fun v q => nomatch q⟩
    · rw [q]; exact ⟨_, hTO, fun v q => nomatch q⟩
    · rw [q]; obtain ⟨o, e1, e2, _⟩ := h1.obj; exact ⟨o, e1, e2⟩
    · rw [q]; obtain ⟨o, e1, e2, _⟩ := h2.obj; exact ⟨o, e1, e2⟩
  keep := fun i h h' st k => by
    obtain ⟨hz, hTI, ⟨x, y, hTO⟩, h1, h2⟩ := st
    exact ⟨k z (by simp) _ hz, k TI (by simp) _ hTI, ⟨x, y, k TO (by simp) _ hTO⟩, h1.at fun o q => k i1 (by simp) o q, h2.at fun o q => k i2 (by simp) o q⟩
  item := by
    intro X hP hw hK hc i pins s σ H E I hf st hg
    subst hP hw hK
    obtain ⟨hz, hTI, ⟨x0, y0, hTO⟩, h1, h2⟩ := st
    obtain ⟨xs, ys, x, y, hqx, hqy, hx, hy⟩ := hg
    obtain ⟨its, rv, p⟩ := inv_seq I hqx
    obtain ⟨its2, rv2, p2⟩ := inv_seq I hqy
    obtain ⟨u, hu, ru⟩ := rv.get hx
    obtain ⟨u2, hu2, ru2⟩ := rv2.get hy
    have hzl : z < s.heap.objs.size := Heap.lt_size hz
    have hlt1 : i < its.toArray.size := by
      have := (List.getElem?_eq_some_iff.mp hu).1
      simpa using this
    have hlt2 : i < its2.toArray.size := by
      have := (List.getElem?_eq_some_iff.mp hu2).1
      simpa using this
    refine wpAny_pyNext_zipD2_item (apart_sep D) (draws_b b1 (show X.A.in1.handled = none from I.ok.hd hc) i1 a D.l1i1 its.toArray) (draws_b b2 (show X.A.in1.handled = none from I.ok.hd hc) i2 b D.l2i2 its2.toArray) hz hTI hTO ⟨h1, p⟩ ⟨h2, p2⟩ hlt1 hlt2 fun v1 v2 h' tk hv1 hv2 z' TO' h1' h2' hT hsz hk => ?_
    have hyu : v1 = u := by
      have h1 : its.toArray[i]? = some u := by simpa using hu
      exact Option.some.inj (hv1.symm.trans h1)
    have hyu2 : v2 = u2 := by
      have h1 : its2.toArray[i]? = some u2 := by simpa using hu2
      exact Option.some.inj (hv2.symm.trans h1)
    subst hyu hyu2
    refine ⟨_, rfl, wpAny_letOwnedTupleGo_zip (s := { s with heap := h', toks := tk }) z' fun h'' z'' sb => ?_⟩
    have hT2 : h''.get? s.heap.objs.size = some { cls := .type "tuple", data := .seq #[v1, v2] } := (sb.2 _ (Nat.ne_of_gt hzl)).trans hT
    have new : ObjOk X.prog X.w (upd H s.heap.objs.size (.tup [x, y])) h'' s.heap.objs.size (.tup [x, y]) :=
      ⟨by show 2 ≤ sizeLine; decide, [v1, v2], .cons ru (.cons ru2 .nil), ⟨_, hT2, rfl, _, rfl⟩⟩
    have I1 : Inv X pins σ (upd H s.heap.objs.size (.tup [x, y])) { s with heap := h'', toks := tk } :=
      I.turnedNew (t' := tk) (ch := [z, TI, TO, i1, i2]) (fun c o hb q => (sb.2 c (fun q' => hb (by simp [q']))).trans (hk c o (fun q' => hb (by simp [q'])) (fun q' => hb (by simp [q'])) (fun q' => hb (by simp [q'])) (fun q' => hb (by simp [q'])) q)) hf (Nat.le_refl _) new
    obtain ⟨o1, ho1, _⟩ := h1.obj
    obtain ⟨o2, ho2, _⟩ := h2.obj
    refine ⟨.ref s.heap.objs.size, _, I1, rfl, ⟨_, x, y, rfl, I.hok.fresh (Nat.le_refl _), rfl, fun l hl => by rw [inv_seq_inj I hl hqx]; exact hx, fun l hl => by rw [inv_seq_inj I hl hqy]; exact hy⟩, ⟨z'', ?_, ⟨v1, v2, ?_⟩, ?_, ?_⟩, fun c hcm => ?_⟩
    · exact (sb.2 _ D.TIz).trans (hk _ _ D.TIz D.TITO D.TIi1 D.TIi2 hTI)
    · exact (sb.2 _ D.TOz).trans TO'
    · exact h1'.1.at fun o q => (sb.2 _ D.i1z).trans q
    · exact h2'.1.at fun o q => (sb.2 _ D.i2z).trans q
    · have hlt : c < s.heap.objs.size := by
        have e' : c = z ∨ c = TI ∨ c = TO ∨ c = i1 ∨ c = i2 := by simpa using hcm
        rcases e' with q | q | q | q | q
        · rw [q]; exact hzl
        · rw [q]; exact Heap.lt_size hTI
        · rw [q]; exact Heap.lt_size hTO
        · rw [q]; exact Heap.lt_size ho1
        · rw [q]; exact Heap.lt_size ho2
      rw [upd_ne (Nat.ne_of_lt hlt)]
      exact (hf c hcm).1
  done := by
    intro X hP hw hK hc i pins s σ H E I hf st hg
    subst hP hw hK
    obtain ⟨hz, hTI, ⟨x0, y0, hTO⟩, h1, h2⟩ := st
    obtain ⟨xs, ys, hqx, hqy, hend⟩ := hg
    obtain ⟨its, rv, p⟩ := inv_seq I hqx
    obtain ⟨its2, rv2, p2⟩ := inv_seq I hqy
    have l1 := rv.length
    have l2 := rv2.length
    exact wpAny_pyNext_zipD2_end (apart_sep D) (draws_b b1 (show X.A.in1.handled = none from I.ok.hd hc) i1 a D.l1i1 its.toArray) (draws_b b2 (show X.A.in1.handled = none from I.ok.hd hc) i2 b D.l2i2 its2.toArray) hz hTI hTO ⟨h1, p⟩ ⟨h2, p2⟩ (by simp; omega) (by simp; omega) (by simp; omega)
      fun h' tk hk => ⟨rfl, I.turnedL (t' := tk) (ch := [z, TI, TO, i1, i2]) (fun c o hb q =>
      hk c o (fun q' => hb (by simp [q'])) (fun q' => hb (by simp [q'])) (fun q' => hb (by simp [q'])) (fun q' => hb (by simp [q'])) q) hf⟩
  self := fun A i s Q E st h => wpAny_pyIter_zip st.1 h
def iZipB (K : PySem.W.Frag) (ta : TA) : TI := fun σ H R => ta σ H fun vs H1 => ∃ a b b1 b2 xs ys, vs = [.ref a, .ref b] ∧ SqB K b1 H1 a xs ∧ SqB K b2 H1 b ys ∧ R (ItzB K b1 b2 a b) H1
theorem pi_zipB {X : Cx} {e e2 : Expr} {ta : TA} {p pos tpos : Pos} {elts : List Expr} {kk : Nat} (hg : Gl X "zip") (hm : X.mg "zip" = none) (ha : PA X [e, e2] ta)
    (hs : starEach [e, e2] X.env = (false, eval e X.env) :: starEach [e2] X.env := by rfl) (hpl : (backTo pos (starEach [e2] X.env)).any (·.1) = false := by rfl) :
    PI X (.Tuple elts kk tpos) (.Call (.Name "zip" p) [e, e2] [] pos) (iZipB X.K ta) := by
  refine ⟨fun pins s σ H R I h => ?_⟩
  refine Call_ (ld_blt I hg hm PyProof.Rows.boot_zip (PyProof.Rows.callWith_type1 (thn (ha.run pos pins s σ H _ I h) fun us s1 ⟨vs, H1, I1, r1, q1⟩ => ?_) hs hpl))
  obtain ⟨a, b, b1, b2, xs, ys, ex, hqx, hqy, q⟩ := q1
  subst ex
  cases r1 with
  | cons r rr =>
    cases rr with
    | cons r' rr =>
      cases rr
      cases r
      cases r'
      have fresh5 : ∀ c, c ∈ [s1.heap.objs.size + 4, s1.heap.objs.size + 2, s1.heap.objs.size + 3, s1.heap.objs.size, s1.heap.objs.size + 1] → FpOk X pins H1 c := fun c hcm => by
        have e' : c = s1.heap.objs.size + 4 ∨ c = s1.heap.objs.size + 2 ∨ c = s1.heap.objs.size + 3 ∨ c = s1.heap.objs.size ∨ c = s1.heap.objs.size + 1 := by simpa using hcm
        have hle : s1.heap.objs.size ≤ c := by
          rcases e' with z | z | z | z | z
          · rw [z]; exact Nat.le_add_right _ _
          · rw [z]; exact Nat.le_add_right _ _
          · rw [z]; exact Nat.le_add_right _ _
          · rw [z]; exact Nat.le_refl _
          · rw [z]; exact Nat.le_add_right _ _
        exact I1.fpOk hle (I1.hok.fresh hle)
      obtain ⟨its, rv, p1⟩ := inv_seq I1 hqx
      obtain ⟨its2, rv2, p2⟩ := inv_seq I1 hqy
      obtain ⟨o1, ho1, _⟩ := p1.obj
      obtain ⟨o2, ho2, _⟩ := p2.obj
      refine zip_begins2 (begins_b b1 a its.toArray) (begins_b b2 b its2.toArray) p1 p2 fun h' hz hTI hTO h1 h2 hsz hk => wpAny_pyIter_zip hz ?_
      have I2 : Inv X pins σ H1 { s1 with heap := h' } := I1.kept (t' := s1.toks) hk
      exact ⟨s1.heap.objs.size + 4, [s1.heap.objs.size + 4, s1.heap.objs.size + 2, s1.heap.objs.size + 3, s1.heap.objs.size, s1.heap.objs.size + 1], _, _, H1, rfl, I2, turn_zipB (PySem.W.ktu_apart s1.heap.objs.size a b (Heap.lt_size ho1) (Heap.lt_size ho2)), ⟨hz, hTI, ⟨_, _, hTO⟩, ItrB.first h1, ItrB.first h2⟩, fresh5, q⟩
end R

/-! R17: the mirrors of enumerate and zip over lists and tuples. -/
namespace R
open PySem PySem.Spec PyProof.Rows L2
def D.seq : D → Option (Bool × List D)
  | .lst ds => some (false, ds) | .scr ns => some (false, ns.map D.int) | .tup ds => some (true, ds) | .kt ds => some (true, ds) | _ => none
section
variable {X : Cx} {W : WX} {q : Bool} {tg e e2 : Expr} {m : M SV} {ms : M (List SV)} {pos : Pos}
/-- a list or tuple that stays where it is -/
theorem seq_stays {G : Gh} {F H : Hp} {v : V} {x : SV} {fp : List Addr} {b : Bool} {ds : List D} {qs : Bool} (s : Same F H) (p : Same G.Pr H) (r : XvR X.K X.wg G.Pr F H v x fp) (e : x.data.seq = some (b, ds)) (hst : x.st = true ∨ qs = true) :
    ∃ a vs, v = .ref a ∧ SqB X.K b H a vs ∧ Rps X.K X.wg F vs ds ∧ ∀ F' H', (Same F F' ∧ Same F' H' ∧ Same G.Pr H' ∧ (qs = true → Same H H')) → SqB X.K b H' a vs := by
  have bad : ∀ {o : O} {fq : List Addr} {H : Hp}, Ow X.K X.wg F H v o fq → (o.data = x.data) → x.data.litems = none → False := fun {o fq H} h e0 e1 => by
    rw [← e0] at e1 e
    cases h <;> first | (cases e1; done) | (cases e; done)
  cases ed : x.data with
  | lst es =>
    rw [ed] at e
    cases e
    exact list_stays s p r (by rw [ed]; rfl) hst
  | scr ns =>
    rw [ed] at e
    cases e
    exact list_stays s p r (by rw [ed]; rfl) hst
  | tup es =>
    have el : x.data.litems = none := by rw [ed]; rfl
    have key : Rp X.K X.wg F v x.data := by
      cases r with
      | sh r => exact r
      | own r n => exact (bad r rfl el).elim
      | bo r => exact (bad r rfl el).elim
      | tr r => exact (bad r rfl el).elim
    rw [ed] at key e
    cases e
    cases key with
    | tup h r => exact ⟨_, _, rfl, .inl (.inl (s _ _ h)), r, fun F' H' hS => .inl (.inl (hS.2.1 _ _ (hS.1 _ _ h)))⟩
  | kt es =>
    have el : x.data.litems = none := by rw [ed]; rfl
    have key : Rp X.K X.wg F v x.data := by
      cases r with
      | sh r => exact r
      | own r n => exact (bad r rfl el).elim
      | bo r => exact (bad r rfl el).elim
      | tr r => exact (bad r rfl el).elim
    rw [ed] at key e
    cases e
    cases key with
    | kt h r => exact ⟨_, _, rfl, Same.seqT s h, r, fun F' H' hS => Same.seqT hS.2.1 (Same.seqT hS.1 h)⟩
  | _ => rw [ed] at e; cases e
theorem itr_enumB {K : PySem.W.Frag} {mg : MG} {F : Hp} {S : Hp → Hp → Prop} {b : Bool} {a : Addr} {vs : List V} {ds : List D} (hs : ∀ F' H', S F' H' → Same F F' ∧ Same F' H' ∧ SqB K b H' a vs) (r : Rps K mg F vs ds) : ItR K mg S (IteB K b a) (enumF 0 ds) where
  go := fun i F' H' h hi => by
    obtain ⟨_, _, q⟩ := hs F' H' h
    have : i < vs.length := by rw [Rps.length r]; rw [enumF_len] at hi; exact hi
    exact ⟨vs, vs[i], q, List.getElem?_eq_getElem this⟩
  yld := fun i F' H' x H2 d h e y => by
    obtain ⟨s1, s2, q⟩ := hs F' H' h
    obtain ⟨t, x', rfl, n, rfl, y⟩ := y
    obtain ⟨d', e1, rfl⟩ := enumF_at e
    obtain ⟨v, ev, rv⟩ := r.at e1
    have := (y vs q).symm.trans ev
    cases this
    have g := grow_frozen (o := .tup [.int (i : Nat), x']) s2 n
    refine ⟨_, g, .tup upd_same (.cons ?_ (.cons ((rv.mono s1).mono g.sub) .nil))⟩
    rw [Nat.zero_add]
    exact .int _
  stop := fun F' H' h => by
    obtain ⟨_, _, q⟩ := hs F' H' h
    exact ⟨vs, q, by rw [enumF_len, Rps.length r]⟩
def zipF : List D → List D → List D
  | d :: ds, e :: es => .tup [d, e] :: zipF ds es
  | _, _ => []
theorem zipF_len : ∀ {ds es : List D}, (zipF ds es).length = min ds.length es.length
  | [], es => by unfold zipF; simp
  | d :: ds, [] => by unfold zipF; simp
  | d :: ds, e :: es => by unfold zipF; rw [List.length_cons, List.length_cons, List.length_cons, zipF_len]; omega
theorem zipF_at {d : D} : ∀ {ds es : List D} {i : Nat}, (zipF ds es)[i]? = some d → ∃ a b, ds[i]? = some a ∧ es[i]? = some b ∧ d = .tup [a, b]
  | [], es, i, h => by unfold zipF at h; simp at h
  | a :: ds, [], i, h => by unfold zipF at h; simp at h
  | a :: ds, b :: es, 0, h => by unfold zipF at h; cases h; exact ⟨a, b, rfl, rfl, rfl⟩
  | a :: ds, b :: es, i + 1, h => by
    unfold zipF at h
    rw [List.getElem?_cons_succ] at h
    exact zipF_at (ds := ds) (es := es) (i := i) h
theorem itr_zipB {K : PySem.W.Frag} {mg : MG} {F : Hp} {S : Hp → Hp → Prop} {b1 b2 : Bool} {a b : Addr} {vs ws : List V} {ds es : List D} (hs : ∀ F' H', S F' H' → Same F F' ∧ Same F' H' ∧ SqB K b1 H' a vs ∧ SqB K b2 H' b ws) (r : Rps K mg F vs ds) (r2 : Rps K mg F ws es) : ItR K mg S (ItzB K b1 b2 a b) (zipF ds es) where
  go := fun i F' H' h hi => by
    obtain ⟨_, _, q, q2⟩ := hs F' H' h
    rw [zipF_len] at hi
    have h1 : i < vs.length := by rw [Rps.length r]; omega
    have h2 : i < ws.length := by rw [Rps.length r2]; omega
    exact ⟨vs, ws, vs[i], ws[i], q, q2, List.getElem?_eq_getElem h1, List.getElem?_eq_getElem h2⟩
  yld := fun i F' H' x H2 d h e y => by
    obtain ⟨s1, s2, q, q2⟩ := hs F' H' h
    obtain ⟨t, x', y', rfl, n, rfl, y1, y2⟩ := y
    obtain ⟨d1, d2, e1, e2, rfl⟩ := zipF_at e
    obtain ⟨v, ev, rv⟩ := r.at e1
    obtain ⟨w, ew, rw'⟩ := r2.at e2
    have := (y1 vs q).symm.trans ev
    cases this
    have := (y2 ws q2).symm.trans ew
    cases this
    have g := grow_frozen (o := .tup [x', y']) s2 n
    exact ⟨_, g, .tup upd_same (.cons ((rv.mono s1).mono g.sub) (.cons ((rw'.mono s1).mono g.sub) .nil))⟩
  stop := fun F' H' h => by
    obtain ⟨_, _, q, q2⟩ := hs F' H' h
    exact ⟨vs, ws, q, q2, by rw [zipF_len, Rps.length r, Rps.length r2]⟩
/-- enumerate of a list or tuple that stays -/
def itE2 (qs : Bool) (ms : M (List SV)) : M (List D) := fun ρ => (ms ρ).bind fun xs ρ1 => match xs with
  | [x] => match x.data.seq with
    | some (_, ds) => if (x.st || qs) = true then .ok (enumF 0 ds) ρ1 else .bad
    | none => .bad
  | _ => .bad
theorem it_enum2 {elts : List Expr} {kk : Nat} {tpos p : Pos} {qs : Bool} (hg : Gl X "enumerate") (hm : X.mg "enumerate" = none) (ha : PAs X W [e] q ms) (hs : starEach [e] X.env = [(false, eval e X.env)] := by rfl) :
    PIt X W (.Tuple elts kk tpos) (.Call (.Name "enumerate" p) [e] [] pos) q qs (itE2 qs ms) := PI.imp (pi_enumB hg hm ha hs) fun σ H R ⟨G, F, ρ, ok, z⟩ => by
  unfold itE2 at z
  refine T.bind ok z fun xs ρ1 F1 H1 vs fp0 e1 s1 s2 k1 r z => ?_
  obtain ⟨r, rfl⟩ := r
  cases r with
  | nil => exact z.elim
  | cons r1 t1 =>
    cases t1 with
    | cons r2 t2 => exact z.elim
    | nil =>
      rename_i v x
      have z : Post X.K X.wg (relI X.K X.wg qs) W G F H σ q R (match x.data.seq with
        | some (_, ds) => if (x.st || qs) = true then .ok (enumF 0 ds) ρ1 else .bad
        | none => .bad) := z
      cases e2 : x.data.seq with
      | none => rw [e2] at z; exact z.elim
      | some bd =>
        obtain ⟨b, ds⟩ := bd
        rw [e2] at z
        have z : Post X.K X.wg (relI X.K X.wg qs) W G F H σ q R (if (x.st || qs) = true then .ok (enumF 0 ds) ρ1 else .bad) := z
        by_cases c : (x.st || qs) = true
        · rw [if_pos c] at z
          obtain ⟨a, ws, rfl, h1, h2, h3⟩ := seq_stays (qs := qs) k1.sub k1.pr r1 e2 (by simpa using c)
          exact ⟨a, b, ws, rfl, h1, z F1 H1 _ [] s1 s2 k1 ⟨rfl, itr_enumB (fun F' H' hS => ⟨hS.1, hS.2.1, h3 F' H' hS⟩) h2⟩⟩
        · rw [if_neg c] at z; exact z.elim
/-- zip of two that stay -/
def itZ (qs : Bool) (ms : M (List SV)) : M (List D) := fun ρ => (ms ρ).bind fun xs ρ1 => match xs with
  | [x, y] => match x.data.seq, y.data.seq with
    | some (_, ds), some (_, es) => if (x.st || qs) = true ∧ (y.st || qs) = true then .ok (zipF ds es) ρ1 else .bad
    | _, _ => .bad
  | _ => .bad
theorem it_zip {elts : List Expr} {kk : Nat} {tpos p : Pos} {qs : Bool} (hg : Gl X "zip") (hm : X.mg "zip" = none) (ha : PAs X W [e, e2] q ms) (hs : starEach [e, e2] X.env = (false, eval e X.env) :: starEach [e2] X.env := by rfl) (hpl : (backTo pos (starEach [e2] X.env)).any (·.1) = false := by rfl) :
    PIt X W (.Tuple elts kk tpos) (.Call (.Name "zip" p) [e, e2] [] pos) q qs (itZ qs ms) := PI.imp (pi_zipB hg hm ha hs hpl) fun σ H R ⟨G, F, ρ, ok, z⟩ => by
  unfold itZ at z
  refine T.bind ok z fun xs ρ1 F1 H1 vs fp0 e1 s1 s2 k1 r z => ?_
  obtain ⟨r, rfl⟩ := r
  cases r with
  | nil => exact z.elim
  | cons r1 t1 =>
    cases t1 with
    | nil => exact z.elim
    | cons r2 t2 =>
      cases t2 with
      | cons r3 t3 => exact z.elim
      | nil =>
        rename_i v x w y
        have z : Post X.K X.wg (relI X.K X.wg qs) W G F H σ q R (match x.data.seq, y.data.seq with
          | some (_, ds), some (_, es) => if (x.st || qs) = true ∧ (y.st || qs) = true then .ok (zipF ds es) ρ1 else .bad
          | _, _ => .bad) := z
        cases e2 : x.data.seq with
        | none => rw [e2] at z; exact z.elim
        | some bd =>
          obtain ⟨b, ds⟩ := bd
          cases e3 : y.data.seq with
          | none => rw [e2, e3] at z; exact z.elim
          | some bd2 =>
            obtain ⟨b2, es⟩ := bd2
            rw [e2, e3] at z
            have z : Post X.K X.wg (relI X.K X.wg qs) W G F H σ q R (if (x.st || qs) = true ∧ (y.st || qs) = true then .ok (zipF ds es) ρ1 else .bad) := z
            by_cases c : (x.st || qs) = true ∧ (y.st || qs) = true
            · rw [if_pos c] at z
              obtain ⟨a, us, rfl, h1, h2, h3⟩ := seq_stays (qs := qs) k1.sub k1.pr r1 e2 (by simpa using c.1)
              obtain ⟨a2, ws, rfl, g1, g2, g3⟩ := seq_stays (qs := qs) k1.sub k1.pr r2 e3 (by simpa using c.2)
              exact ⟨a, a2, b, b2, us, ws, rfl, h1, g1, z F1 H1 _ [] s1 s2 k1 ⟨rfl, itr_zipB (fun F' H' hS => ⟨hS.1, hS.2.1, h3 F' H' hS, g3 F' H' hS⟩) h2 g2⟩⟩
            · rw [if_neg c] at z; exact z.elim
end
end R

/-! R18: tuple * 0 and 1; methods on values: list.index; list.pop(i). -/
namespace R
open PySem PySem.Spec PyProof.Rows L2
theorem tuple_mul_same (l : Addr) (items : Array Value) (n : Nat) (dd : Option Addr) (sl : Array (Option Value)) (x : Int) (u : Tok) (c0 : (decide (x < -(2 ^ 63)) || decide (x ≥ 2 ^ 63)) = false) (c1 : (items.isEmpty || x == 1) = true) :
    Meets (Builtin.«tuple.__mul__» ⟨[.ref l, .int x u], []⟩) (fun _ R s => s.heap.get? l = some { cls := .type "tuple", dict := dd, data := .seq items n, slots := sl } ∧
      R (.ok (.ret (Value.ref l))) s) :=
  .of_wp fun prog w A R s h => by
    obtain ⟨hp, g, d, tk, os⟩ := s
    obtain ⟨hl, h⟩ := h
    have f1 := AutoSeq1.idx_int
    wp_walk using wpAny_loadPart' hl
    repeat (first
      | (refine wpAny_ite_false (decide_eq_false (by rw [c0]; exact Bool.false_ne_true)) ?_; wp_walk using wpAny_loadPart' hl)
      | (refine wpAny_ite_true (decide_eq_true (by rw [c1])) ?_; wp_walk using wpAny_loadPart' hl))
    exact ⟨_, rfl, h⟩
theorem tuple_mul_none (l : Addr) (items : Array Value) (n : Nat) (dd : Option Addr) (sl : Array (Option Value)) (x : Int) (u : Tok) (c0 : (decide (x < -(2 ^ 63)) || decide (x ≥ 2 ^ 63)) = false) (c1 : (items.isEmpty || x == 1) = false) (c2 : (decide (x ≤ 0) || items.isEmpty) = true) :
    Meets (Builtin.«tuple.__mul__» ⟨[.ref l, .int x u], []⟩) (fun _ R s => s.heap.get? l = some { cls := .type "tuple", dict := dd, data := .seq items n, slots := sl } ∧
      R (.ok (.ret (Value.ref s.heap.objs.size))) { s with heap := s.heap.push { cls := Value.type "tuple", data := Data.seq #[] }, toks := s.toks }) :=
  .of_wp fun prog w A R s h => by
    obtain ⟨hp, g, d, tk, os⟩ := s
    obtain ⟨hl, h⟩ := h
    have f1 := AutoSeq1.idx_int
    wp_walk using wpAny_loadPart' hl
    repeat (first
      | (refine wpAny_ite_false (decide_eq_false (by rw [c0]; exact Bool.false_ne_true)) ?_; wp_walk using wpAny_loadPart' hl)
      | (refine wpAny_ite_false (decide_eq_false (by rw [c1]; exact Bool.false_ne_true)) ?_; wp_walk using wpAny_loadPart' hl)
      | (refine wpAny_ite_true (decide_eq_true (by rw [c2])) ?_; wp_walk using wpAny_loadPart' hl))
    exact ⟨_, rfl, h⟩
section
variable {X : Cx}
def rRepSame (K : PySem.W.Frag) : R2 := fun x y H Q => ∃ l k xs, x = .ref l ∧ y = .int k ∧ SqT K H l xs ∧ (xs = [] ∨ k = 1) ∧ -1000 ≤ k ∧ k ≤ 1000 ∧ Q (.ref l) H
theorem op_repSame : OpR X (binaryOp .Mult) (rRepSame X.K) := by
  intro pins s σ H x y v u Q I rx ry h
  obtain ⟨l, k, xs, rfl, rfl, hT, hne, h1, h2, q⟩ := h
  cases rx
  obtain ⟨t, rfl⟩ := ry
  obtain ⟨its, r, ⟨⟨cls, dd, data, sl⟩, ho, hc, n, hd⟩, hs⟩ := I.tuple hT
  simp only at hc hd
  subst hc hd
  have hle : its.length = xs.length := r.length.symm
  have c0 : (decide (k < -(2 ^ 63)) || decide (k ≥ 2 ^ 63)) = false := by
    rw [decide_eq_false (by omega), decide_eq_false (by omega)] <;> rfl
  have c1 : (its.toArray.isEmpty || k == 1) = true := by
    rcases hne with hne | hne
    · subst hne
      have : its = [] := List.eq_nil_of_length_eq_zero hle
      subst this; rfl
    · subst hne; simp
  refine wpAny_binaryOp_repeat_ref (T := "tuple") (U := "int") (by decide) ⟨_, ho, rfl⟩ (fun s' => typeIs_int s' k t) noFill_tuple_mul F.fills_int_mul F.slot_int_rmul repeat_tuple F.slot_int_index.lookup
    (call_meets F.slot_int_rmul (typeIs_int s k t) F.entry_int_rmul (F.args_int_rmul_2 _ _) (int_rmul_tuple k t l its.toArray n dd sl)
      ⟨ho, rfl, ⟨_, ho, rfl⟩, call_meets F.slot_tuple_mul ⟨_, ho, rfl⟩ F.entry_tuple_mul (F.args_tuple_mul_2 _ _) (tuple_mul_same l its.toArray n dd sl k t c0 c1) ⟨ho, ?_⟩⟩)
  exact ⟨.ref l, H, I, rfl, q⟩
def rRepNone (K : PySem.W.Frag) : R2 := fun x y H Q => ∃ l k xs, x = .ref l ∧ y = .int k ∧ SqT K H l xs ∧ xs ≠ [] ∧ k ≤ 0 ∧ -1000 ≤ k ∧ ∀ p, H p = none → Q (.ref p) (upd H p (.tup []))
theorem op_repNone : OpR X (binaryOp .Mult) (rRepNone X.K) := by
  intro pins s σ H x y v u Q I rx ry h
  obtain ⟨l, k, xs, rfl, rfl, hT, hne, h1, h2, q⟩ := h
  cases rx
  obtain ⟨t, rfl⟩ := ry
  obtain ⟨its, r, ⟨⟨cls, dd, data, sl⟩, ho, hc, n, hd⟩, hs⟩ := I.tuple hT
  simp only at hc hd
  subst hc hd
  have hle : its.length = xs.length := r.length.symm
  have hn : its ≠ [] := fun e => hne (by
    rw [e] at hle
    exact List.eq_nil_of_length_eq_zero hle.symm)
  have hi : its.toArray.isEmpty = false := by
    cases its with
    | nil => exact absurd rfl hn
    | cons a b => rfl
  have c0 : (decide (k < -(2 ^ 63)) || decide (k ≥ 2 ^ 63)) = false := by
    rw [decide_eq_false (by omega), decide_eq_false (by omega)] <;> rfl
  have c1 : (its.toArray.isEmpty || k == 1) = false := by
    rw [hi, Bool.false_or]
    exact beq_eq_false_iff_ne.mpr (by omega)
  have c2 : (decide (k ≤ 0) || its.toArray.isEmpty) = true := by
    rw [decide_eq_true h1]; rfl
  refine wpAny_binaryOp_repeat_ref (T := "tuple") (U := "int") (by decide) ⟨_, ho, rfl⟩ (fun s' => typeIs_int s' k t) noFill_tuple_mul F.fills_int_mul F.slot_int_rmul repeat_tuple F.slot_int_index.lookup
    (call_meets F.slot_int_rmul (typeIs_int s k t) F.entry_int_rmul (F.args_int_rmul_2 _ _) (int_rmul_tuple k t l its.toArray n dd sl)
      ⟨ho, rfl, ⟨_, ho, rfl⟩, call_meets F.slot_tuple_mul ⟨_, ho, rfl⟩ F.entry_tuple_mul (F.args_tuple_mul_2 _ _) (tuple_mul_none l its.toArray n dd sl k t c0 c1 c2) ⟨ho, ?_⟩⟩)
  refine ⟨.ref s.heap.objs.size, _, I.laid (t' := s.toks) (o := .tup []) (fun b ob q => Heap.get?_push_of_some _ q) (Nat.le_refl _) ?_, rfl, q _ (I.hok.fresh (Nat.le_refl _))⟩
  exact ⟨by show 0 ≤ sizeLine; omega, _, .nil, IsTup.new _ _⟩
/-- .., tuples any number of times -/
def gMul2 (x y : SV) : Option SV := match x.data, y.data with
  | .tup a, .int j => if a.length ≤ 100 ∧ j ≤ 1000 ∧ -1000 ≤ j then some (.sh (.tup (List.replicate j.toNat a).flatten)) else none
  | _, _ => gMul x y
theorem og_mul2 : OpG X (OpR X (binaryOp .Mult)) gMul2 := by
  intro Pr F H x y v w fx fy z Q s p rx ry e k
  unfold gMul2 at e
  split at e
  · rename_i a j ex ey
    split at e
    · rename_i c
      cases e
      obtain ⟨ra, p1, vs, rfl, h1, r1⟩ := rx.tup ex
      have hl := Rps.length r1
      by_cases c1 : vs = [] ∨ j = 1
      · have ed : (List.replicate j.toNat a).flatten = a := by
          rcases c1 with c1 | c1
          · subst c1
            cases r1
            simp
          · subst c1
            show (List.replicate 1 a).flatten = a
            simp
        refine ⟨_, op_repSame, p1, j, vs, rfl, ry.int ey, .inl (.inl (s _ _ h1)), c1, c.2.2, c.2.1, ?_⟩
        rw [ed] at k
        exact k F H _ [] (Grow.refl s) (.sh ra) (by simp)
      · by_cases c2 : j ≤ 0
        · have ed : (List.replicate j.toNat a).flatten = [] := by
            rw [show j.toNat = 0 by omega]; rfl
          rw [ed] at k
          exact ⟨_, op_repNone, p1, j, vs, rfl, ry.int ey, .inl (.inl (s _ _ h1)), fun z => c1 (.inl z), c2, c.2.2, give_tup rfl .nil s k⟩
        · refine ⟨_, op_repT, p1, j, vs, rfl, ry.int ey, .inl (.inl (s _ _ h1)), fun z => c1 (.inl z), ?_, by omega, by omega, give_tup rfl (rps_rep r1 j.toNat) s k⟩
          have : j ≠ 1 := fun z => c1 (.inr z)
          omega
    · cases e
  · exact og_mul Pr F H x y v w fx fy z Q s p rx ry e k
end
/-! ### pop(i) -/
def gPopI (o : O) (xs : List SV) : Option (SV × O) := match o, xs with
  | .lst ds, [.sh (.int i)] => if 0 ≤ i ∧ i < 1000 then (ds[i.toNat]?).map fun d => (.sh d, .lst (ds.eraseIdx i.toNat)) else none
  | _, _ => none
section
variable {X : Cx}
theorem rps_erase {K : PySem.W.Frag} {mg : MG} {F : Hp} : ∀ {vs : List V} {ds : List D} (k : Nat), Rps K mg F vs ds → Rps K mg F (vs.eraseIdx k) (ds.eraseIdx k)
  | _, _, k, .nil => .nil
  | _, _, 0, .cons h r => r
  | _, _, k + 1, .cons h r => .cons h (rps_erase k r)
theorem mg_popI : MutG X (MtR X "list.pop") gPopI := by
  intro Pr F H a o xs vs z o' Q s p hF how r e k
  unfold gPopI at e
  split at e
  · rename_i ds i
    split at e
    · rename_i h0
      cases e1 : ds[i.toNat]? with
      | none => rw [e1] at e; cases e
      | some d =>
        rw [e1] at e
        cases e
        obtain ⟨ws, h, rs⟩ := Ow.lst_of how
        obtain ⟨v, rfl, rv⟩ := xs1 r
        cases rv with
        | sh rv =>
          cases rv
          obtain ⟨w, ew, rw'⟩ := rs.at e1
          have hl := (List.getElem?_eq_some_iff.mp e1).1
          have hw := (List.getElem?_eq_some_iff.mp ew).1
          exact ⟨_, mt_popAt, a, ws, i, i.toNat, w, rfl, rfl, h, by omega, by omega, by
              unfold seqIndex?
              have : ¬ i < 0 := by omega
              simp only [this, if_false]
              rw [if_pos (by simp; omega)], ew, k _ _ ⟨_, rfl⟩ (.lst upd_same (rps_erase _ rs)) (.sh rw')⟩
    · cases e
  · cases e
end
/-! ### methods of values -/
def D.bty : D → Option String
  | .lst _ => some "list" | .scr _ => some "list" | .str _ => some "str" | _ => none
def methM (Ty : String) (g : SV → List SV → Option SV) (mo : M SV) (ma : M (List SV)) : M SV := fun ρ => (mo ρ).bind fun x ρ1 => if x.data.bty = some Ty then (ma ρ1).bind fun xs ρ2 => match g x xs with
  | some z => .ok z ρ2
  | none => .bad
  else .bad
def MtG (X : Cx) (id : String) (g : SV → List SV → Option SV) : Prop := ∀ (Pr F H : Hp) (x : SV) (v : V) (fx : List Addr) (xs : List SV) (vs : List V) (z : SV) (Q : VK), Same F H → Same Pr H → XvR X.K X.wg Pr F H v x fx → XsR X.K X.wg Pr F H vs xs → g x xs = some z →
  (∀ F' H' u fz, Grow F H F' H' → XvR X.K X.wg Pr F' H' u z fz → (∀ p ∈ fz, F' p = none ∧ H p = none) → Q u H') → anyM (MtR X id) v vs H Q
section
variable {X : Cx} {W : WX} {q : Bool} {o e : Expr} {es : List Expr} {name : Str} {apos cpos : Pos} {Ty id : String} {g : SV → List SV → Option SV} {mo : M SV} {ms : M (List SV)}
theorem XvR.tyv {Pr F H : Hp} {v : V} {x : SV} {fp : List Addr} {T : String} (h : XvR X.K X.wg Pr F H v x fp) (s : Same F H) (p : Same Pr H) (e : x.data.bty = some T) : tyV X.K T v H := by
  have r := h.rp s p
  cases ed : x.data with
  | lst ds =>
    rw [ed] at r e
    cases e
    cases r with
    | lst h9 r9 => exact .inl ⟨rfl, _, .inl (.inl h9)⟩
  | scr ns =>
    rw [ed] at r e
    cases e
    cases r with
    | scr h9 => exact .inl ⟨rfl, _, h9⟩
  | str z =>
    rw [ed] at r e
    cases e
    cases r
    rfl
  | _ => rw [ed] at e; cases e
theorem px_meth (hg : MtG X id g) (pa : PlainAttrs Ty) (slot : Slot Ty name id) (hty : typeOf (.builtin id) = pure (.type "method_descriptor")) (ho : PX X W o q mo) (ha : PAs X W (e :: es) true ms)
    (hbase : attributeBase o name X.env (eval o X.env) = eval o X.env := by rfl)
    (hfew : ((backTo cpos (starEach (e :: es) X.env)).all (fun x => !x.1) && (backToKw cpos (keywordEach [] X.env)).all (fun x => x.1.isSome)
      && decide ((e :: es).length + ([] : List Keyword).length + (if ([] : List Keyword).isEmpty then 0 else 1) < 30)) = true := by rfl)
    (hline : (apos.endLine == cpos.line) = true := by rfl) (hs : starEach (e :: es) X.env = (false, eval e X.env) :: starEach es X.env := by rfl) (hplain : (backTo cpos (starEach es X.env)).any (·.1) = false := by rfl) :
    PX X W (.Call (.Attribute o name apos) (e :: es) [] cpos) q (methM Ty g mo ms) := PE.imp (pe_bm pa slot hty MtR.any ho ha hbase hfew hline hs hplain) fun σ H Q ⟨G, F, ρ, ok, z⟩ => by
  unfold methM at z
  refine T.bind ok z fun x ρ1 F1 H1 v fp0 e1 s1 s2 k1 rx z => ?_
  by_cases c : x.data.bty = some Ty
  · rw [if_pos c] at z
    refine ⟨rx.tyv k1.sub k1.pr c, ?_⟩
    refine T.bind k1.drop (Post.adv s1 s2 z) fun xs ρ2 F2 H2 vs fp2 e2 s3 s4 k2 ry z => ?_
    obtain ⟨ry, rfl⟩ := ry
    cases e3 : g x xs with
    | none => rw [e3] at z; exact z.elim
    | some u =>
      rw [e3] at z
      exact hg G.Pr F2 H2 x v fp0 xs vs u Q k2.sub k2.pr (rx.same s3 (s4 rfl)) ry e3 fun F' H' t fz gr rz nz => z F' H' t fz (s3.trans gr.sub) (fun e => (s4 rfl).trans gr.same) (Ok.growX k2.drop gr nz) rz
  · rw [if_neg c] at z; exact z.elim
end
/-- the place of the first equal one -/
def gIndex (x : SV) (xs : List SV) : Option SV := match x.data, xs with
  | .lst ds, [y] => match D.pys ds, y.data.py with
    | some es, some e => if SeqAt.shaped (.list es) = true ∧ SeqAt.shaped e = true then (es.findIdx? fun z => PyData.eqv z e).map fun j => .sh (.int (j : Nat)) else none
    | _, _ => none
  | _, _ => none
section
variable {X : Cx}
theorem mtg_index (hu : X.A.units + 65 < cLine) : MtG X "list.index" gIndex := by
  intro Pr F H x v fx xs vs z Q s p rx rs e k
  unfold gIndex at e
  split at e
  · rename_i ds y ed
    cases e1 : D.pys ds with
    | none => rw [e1] at e; cases e
    | some es =>
      cases e2 : y.data.py with
      | none => rw [e1, e2] at e; cases e
      | some ep =>
        rw [e1, e2] at e
        have e : (if SeqAt.shaped (.list es) = true ∧ SeqAt.shaped ep = true then (es.findIdx? fun z => PyData.eqv z ep).map fun j => SV.sh (.int (j : Nat)) else none) = some z := e
        by_cases c : SeqAt.shaped (.list es) = true ∧ SeqAt.shaped ep = true
        · rw [if_pos c] at e
          cases e4 : es.findIdx? (fun z => PyData.eqv z ep) with
          | none => rw [e4] at e; cases e
          | some j =>
            rw [e4] at e
            cases e
            obtain ⟨hj, h1, h2⟩ := List.findIdx?_eq_some_iff_getElem.mp e4
            obtain ⟨w, rfl, rw'⟩ := xs1 rs
            have rd := rx.rp s p
            rw [ed] at rd
            have hdl : D.py (.lst ds) = some (.list es) := by rw [D.py, e1]
            have hdp := rd.dp hdl
            have hv : ∃ a, v = .ref a := by cases rd; exact ⟨_, rfl⟩
            obtain ⟨a, rfl⟩ := hv
            exact ⟨_, mt_indexD hu, a, w, ep, es, j, es[j], rfl, rfl, hdp, (rw'.rp s p).dp e2, c.1, c.2, List.getElem?_eq_getElem hj, h1, fun m z' hm hz => by
              have hl : m < es.length := by omega
              rw [List.getElem?_eq_getElem hl] at hz
              cases hz
              have := h2 m hm
              simpa using this, k F H (.int (j : Nat)) [] (Grow.refl s) (.sh (.int _)) (by simp)⟩
        · rw [if_neg c] at e; cases e
  · cases e
end
end R

/-! R19: tuples of own objects: returned, taken apart. -/
namespace R
open PySem PySem.Spec PyProof.Rows L2
/-- a part: what a name holds (moved out of it), a number -/
inductive PkE where
  | s (i : Nat) | k (n : Int)
def pkE1 : PkE → Nv → Option (FV × Nv)
  | .s i, ρ => match ρ[i]? with
    | some (some (.sh d)) => some (.sh d, ρ)
    | some (some (.own (.lst ds))) => some (.lst ds, ρ.set i none)
    | some (some (.own (.dic t ps))) => some (.dic t ps, ρ.set i none)
    | _ => none
  | .k n, ρ => some (.sh (.int n), ρ)
def pkEs : List PkE → Nv → Option (List FV × Nv)
  | [], ρ => some ([], ρ)
  | e :: es, ρ => match pkE1 e ρ with
    | some (x, ρ1) => match pkEs es ρ1 with
      | some (xs, ρ2) => some (x :: xs, ρ2)
      | none => none
    | none => none
def pkT (es : List PkE) : M SV := fun ρ => match pkEs es ρ with
  | some (xs, ρ1) => .ok (.own (.pk true xs)) ρ1
  | none => .bad
/-- the parts' values at the slots -/
inductive PkV (σ : St) : List PkE → List V → Prop
  | nil : PkV σ [] []
  | s {i : Nat} {v : V} {l : List PkE} {vs : List V} : σ[i]? = some (some v) → PkV σ l vs → PkV σ (.s i :: l) (v :: vs)
  | k {n : Int} {l : List PkE} {vs : List V} : PkV σ l vs → PkV σ (.k n :: l) (.int n :: vs)
abbrev PAk (X : Cx) (es : List Expr) (l : List PkE) : Prop := PA X es (fun σ H Q => ∃ vs, PkV σ l vs ∧ Q vs H)
section
variable {X : Cx} {e : Expr} {es : List Expr} {l : List PkE} {i : Nat} {n : Int}
theorem pak_nil : PAk X [] [] := PA.imp pa_nil fun σ H Q ⟨vs, h, q⟩ => by cases h; exact q
theorem pak_s (hv : PE X e (tVar i)) (hr : PAk X es l) (hs : starEach (e :: es) X.env = (false, eval e X.env) :: starEach es X.env := by rfl) : PAk X (e :: es) (.s i :: l) :=
  PA.imp (pa_cons hv hr hs) fun σ H Q ⟨vs, h, q⟩ => by
    cases h with
    | s e r => exact ⟨_, e, _, r, q⟩
theorem pak_k {j : Nat} {pos : Pos} (hr : PAk X es l) (hs : starEach (.Constant (.int n) j pos :: es) X.env = (false, eval (.Constant (.int n) j pos) X.env) :: starEach es X.env := by rfl) : PAk X (.Constant (.int n) j pos :: es) (.k n :: l) :=
  PA.imp (pa_cons pe_int hr hs) fun σ H Q ⟨vs, h, q⟩ => by
    cases h with
    | k r => exact ⟨_, r, q⟩
end
section
variable {K : PySem.W.Frag} {mg : MG} {G : Gh} {F F' H H' : Hp} {σ : St}
theorem PkV.len {l : List PkE} {vs : List V} (h : PkV σ l vs) : vs.length = l.length := by
  induction h with
  | nil => rfl
  | s e r ih => rw [List.length_cons, List.length_cons, ih]
  | k r ih => rw [List.length_cons, List.length_cons, ih]
/-- the parts are taken out of their names -/
theorem pk_take : ∀ {l : List PkE} {ρ ρ' : Nv} {xs : List FV} {fp0 : List Addr}, OkX K mg G F H σ ρ fp0 → pkEs l ρ = some (xs, ρ') →
    ∃ vs fp, PkV σ l vs ∧ Flz K mg F H vs xs fp ∧ fp.Nodup ∧ (∀ p ∈ fp, p ∉ fp0) ∧ OkX K mg G F H σ ρ' (fp ++ fp0)
  | [], ρ, ρ', xs, fp0, k, e => by
    unfold pkEs at e
    cases e
    exact ⟨[], [], .nil, .nil, List.nodup_nil, by simp, k⟩
  | a :: l, ρ, ρ', xs, fp0, k, e => by
    unfold pkEs at e
    cases e1 : pkE1 a ρ with
    | none => rw [e1] at e; cases e
    | some r1 =>
      obtain ⟨x, ρ1⟩ := r1
      rw [e1] at e
      have e : (match pkEs l ρ1 with
        | some (xs, ρ2) => some (x :: xs, ρ2)
        | none => none) = some (xs, ρ') := e
      cases e2 : pkEs l ρ1 with
      | none => rw [e2] at e; cases e
      | some r2 =>
        obtain ⟨ys, ρ2⟩ := r2
        rw [e2] at e
        cases e
        have own : ∀ (i : Nat) (o : O) (y : FV), a = .s i → ρ[i]? = some (some (.own o)) → ρ1 = ρ.set i none → (∀ v fq, Ow K mg F H v o fq → Fl K mg F H v y fq) → y = x →
            ∃ vs fp, PkV σ (a :: l) vs ∧ Flz K mg F H vs (x :: ys) fp ∧ fp.Nodup ∧ (∀ p ∈ fp, p ∉ fp0) ∧ OkX K mg G F H σ ρ' (fp ++ fp0) := by
          intro i o y ea er eρ hf ey
          subst ea ey
          obtain ⟨v, fq, ev, how, nd, dj, k1⟩ := k.outX (.inl er)
          rw [← eρ] at k1
          obtain ⟨vs, fp, h1, h2, h3, h4, h5⟩ := pk_take k1 e2
          refine ⟨v :: vs, fq ++ fp, .s ev h1, .cons (hf v fq how) h2, ?_, ?_, h5.part ?_⟩
          · exact List.nodup_append.mpr ⟨nd, h3, fun a ha b hb c => h4 b hb (by rw [← c]; exact List.mem_append_left _ ha)⟩
          · intro p hp
            rcases List.mem_append.mp hp with hp | hp
            · exact dj p hp
            · exact fun z => h4 p hp (List.mem_append_right _ z)
          · intro p hp
            simp only [List.mem_append] at hp ⊢
            rcases hp with (hp | hp) | hp
            · exact .inr (.inl hp)
            · exact .inl hp
            · exact .inr (.inr hp)
        cases a with
        | k n =>
          unfold pkE1 at e1
          cases e1
          obtain ⟨vs, fp, h1, h2, h3, h4, h5⟩ := pk_take k e2
          exact ⟨.int n :: vs, [] ++ fp, .k h1, .cons (.sh (.int n)) h2, h3, h4, h5⟩
        | s i =>
          unfold pkE1 at e1
          cases e3 : ρ[i]? with
          | none => simp only [e3] at e1; cases e1
          | some y =>
            cases y with
            | none => simp only [e3] at e1; cases e1
            | some y =>
              cases y with
              | sh d =>
                simp only [e3] at e1
                cases e1
                obtain ⟨v, fq, ev, s⟩ := k.slot e3
                obtain ⟨vs, fp, h1, h2, h3, h4, h5⟩ := pk_take k e2
                cases s with
                | sh s => exact ⟨v :: vs, [] ++ fp, .s ev h1, .cons (.sh s) h2, h3, h4, h5⟩
              | own o =>
                cases o with
                | lst ds =>
                  simp only [e3] at e1
                  cases e1
                  exact own i _ (.lst ds) rfl e3 rfl (fun v fq h => by cases h with | lst h r => exact .lst h r) rfl
                | dic t ps =>
                  simp only [e3] at e1
                  cases e1
                  exact own i _ (.dic t ps) rfl e3 rfl (fun v fq h => by cases h with | dK h r => exact .dK h r | dT h r => exact .dT h r | dX h r => exact .dX h r) rfl
                | ins C fs => simp only [e3] at e1; cases e1
                | pk b fs => simp only [e3] at e1; cases e1
              | io o => simp only [e3] at e1; cases e1
              | bo o => simp only [e3] at e1; cases e1
              | tr o => simp only [e3] at e1; cases e1
theorem Flz.len {vs : List V} {xs : List FV} {fp : List Addr} (h : Flz K mg F H vs xs fp) : vs.length = xs.length := by
  induction h with
  | nil => rfl
  | cons h r ih => rw [List.length_cons, List.length_cons, ih]
/-- behind what made new things only, the own value kept -/
theorem OkX.growX {ρ : Nv} {fp0 fp : List Addr} (k : OkX K mg G F H σ ρ fp0) (g : Grow F H F' H') (h0 : ∀ p ∈ fp0, ∃ o, H p = some o) (n : ∀ p ∈ fp, F' p = none ∧ H p = none) : OkX K mg G F' H' σ ρ (fp ++ fp0) := by
  have k' := OkX.grow k g h0
  obtain ⟨ff, e1, e2, e3, e4⟩ := k'.env
  obtain ⟨gg, f1, f2, f3, f4⟩ := k.env
  have nf : ∀ i p, p ∈ gg i → F' p = none := fun i p hp => by
    cases q : F' p with
    | none => rfl
    | some u =>
      obtain ⟨o, z⟩ := (f1 i).at p hp
      have := g.new p (f4 i p hp).1 (by rw [q]; simp)
      rw [z] at this; cases this
  refine ⟨⟨gg, fun i => (f1 i).mono g.sub fun p hp => ?_, f2, f3, fun i p hp => ⟨nf i p hp, (f4 i p hp).2.1, fun hf => ?_⟩⟩, fun p hp => ?_, k'.sub, k'.pr, k'.f0, k'.fz, k'.pin, k'.len, k'.nft⟩
  · obtain ⟨o, q⟩ := (f1 i).at p hp
    rw [q]; exact g.same _ _ q
  · rcases List.mem_append.mp hf with hf | hf
    · obtain ⟨o, z⟩ := (f1 i).at p hp
      rw [(n p hf).2] at z; cases z
    · exact (f4 i p hp).2.2 hf
  · rcases List.mem_append.mp hp with hp | hp
    · refine ⟨(n p hp).1, ?_, fun z => ?_⟩
      · cases z : G.Pr p with
        | none => rfl
        | some o => have := k.pr p o z; rw [(n p hp).2] at this; cases this
      · obtain ⟨o, e⟩ := k.nft p z
        rw [(n p hp).2] at e; cases e
    · exact k'.own p hp
end
section
variable {X : Cx} {W : WX} {es : List Expr} {l : List PkE} {pos : Pos}
/-- (a, b, ..) of names -/
theorem px_pkT {x1} (h : PAk X es l) (hl : l.length ≤ 100 := by decide) : PX X W (.Tuple es x1 pos) true (pkT l) :=
  PE.imp (pe_tup h) fun σ H Q ⟨G, F, ρ, ok, z⟩ => by
    unfold pkT at z
    cases e : pkEs l ρ with
    | none => rw [e] at z; exact z.elim
    | some r =>
      obtain ⟨xs, ρ1⟩ := r
      rw [e] at z
      obtain ⟨vs, fp, h1, h2, h3, h4, h5⟩ := pk_take ok e
      have sl := sizeLine_eq
      refine ⟨vs, h1, by rw [h1.len, sl]; omega, fun p hp => ?_⟩
      have g := grow_own (o := .tup vs) ok.sub hp
      have hfp : ∀ q ∈ fp, ∃ o, H q = some o := h2.at
      have k2 := OkX.growX (fp := [p]) (OkX.part h5 (fp1 := fp) fun q hq => List.mem_append_left _ hq) g hfp (fun q hq => by
        rw [List.mem_singleton] at hq
        subst hq
        exact ⟨Same.free ok.sub hp, hp⟩)
      refine z F _ (.ref p) (p :: fp) (Same.refl F) (fun _ => g.same) k2 (.own (.pk (b := true) upd_same (h2.mono (Same.refl F) fun q hq => ?_)) ?_)
      · obtain ⟨o, eo⟩ := hfp q hq
        exact upd_ne (ne_of_none eo hp)
      · refine List.nodup_cons.mpr ⟨fun hq => ?_, h3⟩
        obtain ⟨o, eo⟩ := hfp p hq
        rw [hp] at eo; cases eo
end
/-! ### taken apart -/
def putP : List Nat → List FV → Nv → Option Nv
  | [], [], ρ => some ρ
  | i :: is, x :: xs, ρ => if i < ρ.length then putP is xs (ρ.set i (some x.own)) else none
  | _, _, _ => none
def unpP (is : List Nat) (m : M SV) : MS := fun ρ => (m ρ).bindS fun x ρ1 => match x with
  | .own (.pk true xs) => (match putP is xs ρ1 with | some ρ2 => .nx ρ2 | none => .bad)
  | _ => .bad
section
variable (K : PySem.W.Frag) (mg : MG)
def TGp (is : List Nat) : TGs := fun vs σ H Q => ∃ G F ρ xs fp ρ', OkX K mg G F H σ ρ fp ∧ Flz K mg F H vs xs fp ∧ fp.Nodup ∧ putP is xs ρ = some ρ' ∧ ∀ σ', Ok K mg G F H σ' ρ' → Q σ' H
end
section
variable {K : PySem.W.Frag} {mg : MG} {G : Gh} {F H : Hp} {σ : St} {ρ : Nv} {fp0 f1 f2 : List Addr} {v : V} {x : SV}
/-- a slot is stored, the rest is kept -/
theorem OkX.setX (k : OkX K mg G F H σ ρ (f1 ++ f2)) {i : Nat} (hi : i < ρ.length) (h : SvR K mg G.Pr F H v x f1) (hn : f1.Nodup) (dj : ∀ p ∈ f1, p ∉ f2) (nx : ∀ o, x ≠ .io o ∧ x ≠ .bo o) :
    OkX K mg G F H (σ.set i (some v)) (ρ.set i (some x)) f2 := by
  obtain ⟨fp, e1, e2, e3, e4⟩ := k.env
  have hs : i < σ.length := by rw [k.len]; exact hi
  refine ⟨⟨fun j => if j = i then f1 else fp j, fun j => ?_, fun j => ?_, fun j l p hj hl => ?_, fun j p hp => ?_⟩, fun p hp => k.own p (List.mem_append_right _ hp), k.sub, k.pr, k.f0, k.fz, fun j o hj => ?_, (by rw [List.length_set, List.length_set]; exact k.len), k.nft⟩
  · show SlotR _ _ _ _ _ _ _ (if j = i then f1 else fp j)
    by_cases c : j = i
    · subst c
      rw [if_pos rfl, List.getElem?_set_self hs, List.getElem?_set_self hi]
      exact ⟨v, rfl, h⟩
    · rw [if_neg c, List.getElem?_set_ne (Ne.symm c), List.getElem?_set_ne (Ne.symm c)]
      exact e1 j
  · show (if j = i then f1 else fp j).Nodup
    split
    · exact hn
    · exact e2 j
  · have hj' : p ∈ (if j = i then f1 else fp j) := hj
    have hl' : p ∈ (if l = i then f1 else fp l) := hl
    by_cases cj : j = i
    · by_cases cl : l = i
      · rw [cj, cl]
      · rw [if_pos cj] at hj'; rw [if_neg cl] at hl'
        exact absurd (List.mem_append_left _ hj') (e4 l p hl').2.2
    · by_cases cl : l = i
      · rw [if_neg cj] at hj'; rw [if_pos cl] at hl'
        exact absurd (List.mem_append_left _ hl') (e4 j p hj').2.2
      · rw [if_neg cj] at hj'; rw [if_neg cl] at hl'
        exact e3 j l p hj' hl'
  · have hp' : p ∈ (if j = i then f1 else fp j) := hp
    by_cases c : j = i
    · rw [if_pos c] at hp'
      exact ⟨(k.own p (List.mem_append_left _ hp')).1, (k.own p (List.mem_append_left _ hp')).2, dj p hp'⟩
    · rw [if_neg c] at hp'
      exact ⟨(e4 j p hp').1, (e4 j p hp').2.1, fun z => (e4 j p hp').2.2 (List.mem_append_right _ z)⟩
  · by_cases c : j = i
    · subst c
      rw [List.getElem?_set_self hi] at hj
      rcases hj with hj | hj
      · cases hj; exact absurd rfl (nx o).1
      · cases hj; exact absurd rfl (nx o).2
    · rw [List.getElem?_set_ne (Ne.symm c)] at hj ⊢
      exact k.pin j o hj
theorem Fl.sv {y : FV} (h : Fl K mg F H v y f1) {Pr : Hp} : SvR K mg Pr F H v y.own f1 ∧ ∀ o, y.own ≠ .io o ∧ y.own ≠ .bo o := by
  cases h with
  | sh h => exact ⟨.sh h, fun o => ⟨(fun z => by cases z), (fun z => by cases z)⟩⟩
  | lst h r => exact ⟨.own (.lst h r), fun o => ⟨(fun z => by cases z), (fun z => by cases z)⟩⟩
  | dK h r => exact ⟨.own (.dK h r), fun o => ⟨(fun z => by cases z), (fun z => by cases z)⟩⟩
  | dT h r => exact ⟨.own (.dT h r), fun o => ⟨(fun z => by cases z), (fun z => by cases z)⟩⟩
  | dX h r => exact ⟨.own (.dX h r), fun o => ⟨(fun z => by cases z), (fun z => by cases z)⟩⟩
end
section
variable {X : Cx} {W : WX} {q : Bool} {e : Expr} {es : List Expr} {is : List Nat} {i : Nat} {m : M SV} {pos : Pos}
theorem tgp_nil : PGs X [] (TGp X.K X.wg []) := PGs.imp pgs_nil fun v σ H Q ⟨G, F, ρ, xs, fp, ρ', ok, r, n, e, z⟩ => by
  cases r with
  | nil => unfold putP at e; cases e; exact ⟨rfl, z σ ok⟩
  | cons h r => unfold putP at e; cases e
theorem tgp_cons {x : Str} (hN : X.N.Nodup) (hi : X.N[i]? = some x) (hx : Loc X.env.scope x) (h2 : PGs X es (TGp X.K X.wg is)) (hf : X.fn x = true ∨ X.env.scope.names.lookup x = some .local := by first | exact .inl rfl | exact .inr rfl | assumption)
    (hs : (assignEach (.Name x pos :: es) X.env).map (·.2) = assign (.Name x pos) X.env :: (assignEach es X.env).map (·.2) := by rfl) : PGs X (.Name x pos :: es) (TGp X.K X.wg (i :: is)) :=
  PGs.imp (pgs_cons (pg_name hN hi hx hf) h2 hs) fun v σ H Q ⟨G, F, ρ, xs, fp, ρ', ok, r, n, e, z⟩ => by
    cases r with
    | nil => unfold putP at e; cases e
    | @cons v1 y vs ys fa fb h r =>
      unfold putP at e
      by_cases c : i < ρ.length
      · rw [if_pos c] at e
        obtain ⟨s1, s2⟩ := h.sv (Pr := G.Pr)
        have nd := List.nodup_append.mp n
        exact ⟨v1, vs, rfl, G, F, ρ.set i (some y.own), ys, fb, ρ', OkX.setX ok c s1 nd.1 (fun p hp hq => nd.2.2 p hp p hq rfl) s2, r, nd.2.1, e, z⟩
      · rw [if_neg c] at e; cases e
theorem putP_len : ∀ {is : List Nat} {xs : List FV} {ρ ρ' : Nv}, putP is xs ρ = some ρ' → is.length = xs.length
  | [], [], _, _, _ => rfl
  | [], _ :: _, _, _, e => by unfold putP at e; cases e
  | _ :: _, [], _, _, e => by unfold putP at e; cases e
  | i :: is, x :: xs, ρ, ρ', e => by
    unfold putP at e
    by_cases c : i < ρ.length
    · rw [if_pos c] at e
      rw [List.length_cons, List.length_cons, putP_len e]
    · rw [if_neg c] at e; cases e
/-- a, b, .. = e, e a tuple of own objects -/
theorem st_unpP {k : Nat} {tpos : Pos} (hc : X.calm = true) (hg : PGs X es (TGp X.K X.wg is)) (h : PX X W e q m) (hn : (assignEach es X.env).length = is.length := by rfl) (hst : (assignEach es X.env).findIdx? (·.1) = none := by rfl)
    (hs : swapsWithSole [.Tuple es k tpos] e pos.line X.env = pure false := by rfl) (hw : swappedStores [.Tuple es k tpos] e X.env = pure none := by rfl)
    (h1 : (assignEach [.Tuple es k tpos] X.env).map (·.2) = [assign (.Tuple es k tpos) X.env] := by rfl) : PSt X W (.Assign [.Tuple es k tpos] e pos) (unpP is m) := PS.imp (ps_asg h (pg_tup hc hg hn hst) hs hw h1) fun D σ H ⟨G, F, ρ, ok, z⟩ => by
  unfold unpP at z
  refine T.bindS ok z fun x ρ1 F1 H1 v fp0 e1 s1 s2 k1 r z => ?_
  have fin : ∀ xs, x = .own (.pk true xs) → ∃ (a : Addr) (ys : List V), v = .ref a ∧ SqT X.K H1 a ys ∧ ys.length = is.length ∧ TGp X.K X.wg is ys σ H1 fun σ' H' => D.nx σ' H' := by
    intro xs ex
    subst ex
    cases r with
    | own r nd =>
      cases r with
      | @pk a b vs xs fp ha hf =>
        have z : PostS X.K X.wg W G F1 D (match putP is xs ρ1 with | some ρ2 => .nx ρ2 | none => .bad) := z
        cases e2 : putP is xs ρ1 with
        | none => rw [e2] at z; exact z.elim
        | some ρ2 =>
          rw [e2] at z
          refine ⟨a, vs, rfl, .inl (.inl ha), ?_, G, F1, ρ1, xs, fp, ρ2, k1.part fun p hp => List.mem_cons_of_mem _ hp, hf, (List.nodup_cons.mp nd).2, e2, fun σ' k => z F1 H1 σ' (Same.refl F1) k⟩
          rw [hf.len]; exact (putP_len e2).symm
  cases x with
  | own o =>
    cases o with
    | pk b xs =>
      cases b with
      | true => exact fin xs rfl
      | false => exact z.elim
    | _ => exact z.elim
  | _ => exact z.elim
end
end R

/-! R20: sorted of data that are alike (tuples of one shape). -/
namespace R
open PySem PySem.Spec PyProof.Rows L2
section
open PySem.W PySem.Calls
variable {prog : Program} {w : World} {A : Around} {E : Value → Shared → Prop} {s : Shared} {κ : KeyKind}
theorem sorted_of_sort_tup {l : Addr} {vs : List Value} {Q : Value → Shared → Prop} (hl : s.heap.IsTuple l vs.toArray) (hL : vs.length ≤ sizeLine)
    (body : ∀ E' : Value → Shared → Prop, wpAny (model prog w) A.in1.in1 (Builtin.«list.sort» ⟨[.ref (s.heap.objs.size + 1)], []⟩) (fun f s' => f = .done (.ret .none) ∧ Q (.ref (s.heap.objs.size + 1)) s') E' { s with heap := copyHeap s.heap vs }) :
    wpAny (model prog w) A (call (.builtin "sorted") [.ref l]) Q E s := by
  refine call_function_entry_kw kind_sorted plain_sorted entry_sorted (args_sorted1 _) ?_
  unfold Builtin.«sorted»
  refine wpAny_bind (m := checkCount "sorted" 1 1 _) (wpAny_pure ?_)
  refine wpAny_bind (collect_tup hl ?_ hL)
  refine wpAny_bind (wpAny_newList ?_ hL)
  have hsz : ((s.heap.push (seqObj "list" #[] 0)).update s.heap.objs.size (Obj.mapSeq (· ++ vs.toArray))).objs.size = s.heap.objs.size + 1 := by
    rw [Heap.size_update, size_push']
  show wpAny _ _ _ _ _ { s with heap := copyHeap s.heap vs }
  rw [hsz]
  refine wpAny_bind (wpAny_holding (wpAny_call_entry_kw slot_list_sort ⟨_, copyHeap_at s.heap vs, rfl⟩ entry_list_sort ?body (args_list_sort _)))
  case body =>
    show wpAny (model prog w) A.in1.in1 (Builtin.«list.sort» ⟨[.ref (s.heap.objs.size + 1)], []⟩) _ _ _
    refine wpAny_mono (body _) (fun f s' hf => ?_) fun _ _ e => e
    obtain ⟨rfl, hq⟩ := hf
    exact ⟨_, rfl, wpAny_pure ⟨_, rfl, hq⟩⟩
theorem sorted_vals_tup {l : Addr} {vs : List Value} {Q : Value → Shared → Prop} (hl : s.heap.IsTuple l vs.toArray) (S : SortsAt prog w A.in1.in1 { s with heap := sortingHeap (copyHeap s.heap vs) (s.heap.objs.size + 1) vs } κ vs) (hL : vs.length ≤ sizeLine)
    (h : Q (.ref (s.heap.objs.size + 1)) { s with heap := sortedAll s.heap vs (sortVals κ false vs vs).toArray }) : wpAny (model prog w) A (call (.builtin "sorted") [.ref l]) Q E s :=
  sorted_of_sort_tup hl hL fun _ => list_sort_vals (s := { s with heap := copyHeap s.heap vs }) (copyHeap_at s.heap vs) S hL ⟨rfl, h⟩
variable {β : Type} {R : Value → β → Prop} {enc : β → PyData} {vs : List Value} {bs : List β}
theorem sorted_data_tup {l : Addr} {Q : Value → Shared → Prop} (hl : s.heap.IsTuple l vs.toArray) (e : EachIs R vs bs) (er : EachIs (fun v b => ∃ as, Reads s.heap v (enc b) as) vs bs) (hal : AllAlike (bs.map enc)) (hk : PySem.W.Sortable (bs.map enc)) (hL : bs.length ≤ sizeLine)
    (hu : ∀ b, b ∈ bs → A.units + 2 + (enc b).depth < cLine) (h : ∀ out, out.length = bs.length → EachIs R out (bs.mergeSort (dataLe false enc)) → Q (.ref (s.heap.objs.size + 1)) { s with heap := sortedAll s.heap vs (List.toArray out) }) :
    wpAny (model prog w) A (call (.builtin "sorted") [.ref l]) Q E s := by
  have er' : EachIs (fun v b => ∃ as, Reads (sortingHeap (copyHeap s.heap vs) (s.heap.objs.size + 1) vs) v (enc b) as) vs bs := er.mono fun _ _ ⟨as, r⟩ => ⟨as, PyProof.Rows.Reads.keeps (fun _ _ => sorting_copy_old) r⟩
  exact sorted_vals_tup hl (SortsAt.data (s := { s with heap := sortingHeap (copyHeap s.heap vs) (s.heap.objs.size + 1) vs }) (each_map (R := fun v d => ∃ as, Reads (sortingHeap (copyHeap s.heap vs) (s.heap.objs.size + 1) vs) v d as) enc er') hal hk (bound_map hu)) (by rw [e.length]; exact hL)
    (h _ (by rw [sortVals_length false rfl]; exact e.length) (sortVals_data false e er' hal))
end
/-! ### by values -/
def pyD (d : D) : PyData := (D.py d).getD .none
def leD (a b : D) : Bool := PySem.W.dataLe false pyD a b
def sortD (ds : List D) : List D := ds.mergeSort leD
def isTup1 : PyData → Bool
  | .tuple (_ :: _) => true | _ => false
/-- what may be sorted -/
def sortOk (ds : List D) : Bool := match D.pys ds with
  | some es => (es.all fun a => es.all fun b => PySem.W.alike a b) && es.all isTup1 && es.all (fun a => decide (a.depth ≤ 30)) && decide (ds.length ≤ 1000)
  | none => false
theorem pys_map : ∀ {ds : List D} {es : List PyData}, D.pys ds = some es → ds.map pyD = es ∧ ∀ d ∈ ds, D.py d = some (pyD d)
  | [], es, h => by cases h; exact ⟨rfl, by simp⟩
  | d :: ds, es, h => by
    unfold D.pys at h
    split at h
    · rename_i e es' h1 h2
      cases h
      obtain ⟨i1, i2⟩ := pys_map h2
      have e0 : pyD d = e := by unfold pyD; rw [h1]; rfl
      refine ⟨by rw [List.map_cons, i1, e0], fun x hx => ?_⟩
      rcases List.mem_cons.mp hx with rfl | hx
      · rw [h1, e0]
      · exact i2 x hx
    · cases h
section
variable {X : Cx} {K : PySem.W.Frag} {mg : MG} {F H : Hp}
theorem rps_zip : ∀ {vs : List V} {ds : List D}, Rps K mg F vs ds → ∀ b ∈ vs.zip ds, Rp K mg F b.1 b.2
  | _, _, .nil, b, h => by simp at h
  | _, _, .cons h r, b, hb => by
    rw [List.zip_cons_cons] at hb
    rcases List.mem_cons.mp hb with rfl | hb
    · exact h
    · exact rps_zip r b hb
theorem rps_unzip : ∀ {l : List (V × D)}, (∀ b ∈ l, Rp K mg F b.1 b.2) → Rps K mg F (l.map Prod.fst) (l.map Prod.snd)
  | [], _ => .nil
  | b :: l, h => .cons (h b List.mem_cons_self) (rps_unzip fun c hc => h c (List.mem_cons_of_mem _ hc))
theorem each_vals {l : List (V × D)} : ∀ {out : List Value}, PySem.W.EachIs (fun (v : Value) (b : V × D) => RelV b.1 v) out l → Vals (l.map Prod.fst) out := by
  intro out h
  induction h with
  | nil => exact .nil
  | cons h r ih => exact .cons h ih
theorem cr_sortedD (hu : X.A.units + 65 < cLine) : CallR X (.builtin "sorted") (fun us H Q => ∃ (a : Addr) (b : Bool) (vs : List V) (ds : List D) (F : Hp), us = [V.ref a] ∧ SqB X.K b H a vs ∧ Rps X.K X.wg F vs ds ∧ Same F H ∧ sortOk ds = true ∧
    ∀ (vs' : List V) (p : Addr), Rps X.K X.wg F vs' (sortD ds) → H p = none → Q (.ref p) (upd H p (.lst vs'))) := by
  intro pins s σ H us ws Q I r h
  obtain ⟨a, b, vs, ds, F, rfl, hs, rs, sF, hok, q⟩ := h
  have hw := Vals.ref1 r
  subst hw
  obtain ⟨its, rv, ob⟩ := inv_seq I hs
  unfold sortOk at hok
  cases e1 : D.pys ds with
  | none => rw [e1] at hok; cases hok
  | some es =>
    rw [e1] at hok
    simp only [Bool.and_eq_true, decide_eq_true_eq] at hok
    obtain ⟨⟨⟨h1, h2⟩, h3⟩, h4⟩ := hok
    obtain ⟨m1, m2⟩ := pys_map e1
    have lv := rv.length
    have ld := Rps.length rs
    have each : ∀ {vs : List V} {its : List Value} {ds : List D}, Vals vs its → Rps X.K X.wg F vs ds → PySem.W.EachIs (fun (v : Value) (b : V × D) => RelV b.1 v) its (vs.zip ds) := by
      intro vs its ds rv rs
      induction rv generalizing ds with
      | nil => cases rs; exact .nil
      | cons h r ih =>
        cases rs with
        | cons h2 r2 => rw [List.zip_cons_cons]; exact .cons h (ih r2)
    have er : ∀ {vs : List V} {its : List Value} {ds : List D}, Vals vs its → Rps X.K X.wg F vs ds → (∀ d ∈ ds, D.py d = some (pyD d)) → PySem.W.EachIs (fun (v : Value) (b : V × D) => ∃ as, Reads s.heap v (pyD b.2) as) its (vs.zip ds) := by
      intro vs its ds rv rs hp
      induction rv generalizing ds with
      | nil => cases rs; exact .nil
      | cons h r ih =>
        cases rs with
        | cons h2 r2 =>
          rw [List.zip_cons_cons]
          exact .cons (Dp.reads I _ _ _ ((h2.mono sF).dp (hp _ List.mem_cons_self)) h) (ih r2 fun d hd => hp d (List.mem_cons_of_mem _ hd))
    have hsnd : (vs.zip ds).map Prod.snd = ds := List.map_snd_zip (by omega)
    have henc : (vs.zip ds).map (fun b : V × D => pyD b.2) = es := by
      rw [← m1]
      conv => rhs; rw [← hsnd]
      rw [List.map_map]
      rfl
    have sl := sizeLine_eq
    have hL : (vs.zip ds).length ≤ sizeLine := by rw [List.length_zip]; omega
    have hal : PySem.W.AllAlike ((vs.zip ds).map (fun b : V × D => pyD b.2)) := by
      rw [henc]
      intro d hd d' hd'
      exact List.all_eq_true.mp (List.all_eq_true.mp h1 d hd) d' hd'
    have hk : PySem.W.Sortable ((vs.zip ds).map (fun b : V × D => pyD b.2)) := by
      rw [henc]
      refine .inl fun d hd => ?_
      have := List.all_eq_true.mp h2 d hd
      unfold isTup1 at this
      split at this
      · exact ⟨_, _, rfl⟩
      · cases this
    have hdep : ∀ b, b ∈ vs.zip ds → X.A.units + 2 + (pyD b.2).depth < cLine := by
      intro b hb
      have : pyD b.2 ∈ es := by rw [← henc]; exact List.mem_map.mpr ⟨b, hb, rfl⟩
      have := of_decide_eq_true (List.all_eq_true.mp h3 _ this)
      omega
    have fin : ∀ out : List Value, out.length = (vs.zip ds).length → PySem.W.EachIs (fun (v : Value) (b : V × D) => RelV b.1 v) out ((vs.zip ds).mergeSort (PySem.W.dataLe false fun b : V × D => pyD b.2)) →
        EP X pins σ Q (.ref (s.heap.objs.size + 1)) { s with heap := sortedAll s.heap its (List.toArray out) } := by
      intro out hlen he
      have hv := each_vals he
      obtain ⟨ep, hep⟩ := sortedAll_at s.heap its out.toArray
      have hz : (((vs.zip ds).mergeSort (PySem.W.dataLe false fun b : V × D => pyD b.2)).map Prod.fst).length ≤ sizeLine := by
        rw [hv.length, hlen]; exact hL
      refine ⟨.ref _, upd H (s.heap.objs.size + 1) (.lst (((vs.zip ds).mergeSort (PySem.W.dataLe false fun b : V × D => pyD b.2)).map Prod.fst)), I.laid (t' := s.toks) (fun _ _ => PyProof.Rows.sortedAll_old) (Nat.le_succ _) ⟨hz, out, ep, hv, hep⟩, rfl, q _ _ ?_ (I.hok.fresh (Nat.le_succ _))⟩
      have h5 := rps_unzip (K := X.K) (mg := X.wg) (F := F) (l := (vs.zip ds).mergeSort (PySem.W.dataLe false fun b : V × D => pyD b.2)) fun b hb => rps_zip rs b ((List.mergeSort_perm _ _).mem_iff.mp hb)
      have h6 := List.map_mergeSort (r := PySem.W.dataLe false fun b : V × D => pyD b.2) (s := leD) (f := Prod.snd) (l := vs.zip ds) (fun a _ b _ => rfl)
      rw [hsnd] at h6
      rw [h6] at h5
      exact h5
    cases b with
    | false => exact PySem.W.sorted_data (show s.heap.IsList a its.toArray from ob) (each rv rs) (er rv rs m2) hal hk hL hdep fin
    | true => exact sorted_data_tup (show s.heap.IsTuple a its.toArray from ob) (each rv rs) (er rv rs m2) hal hk hL hdep fin
def gSortD1 (x : SV) : Option SV := match x.data.seq with
  | some (_, ds) => if sortOk ds = true then some (.own (.lst (sortD ds))) else none
  | none => none
/-- sorted: of ints, of tuples of one shape -/
def gSort2 : List SV → Option SV := un1 fun x => match gSorted1 x with
  | some z => some z
  | none => gSortD1 x
theorem cg_sort2 (hu : X.A.units + 65 < cLine) : CallG X (CallR X (.builtin "sorted")) gSort2 := by
  refine cg1 fun Pr F H x v z Q s p rx e k => ?_
  cases e1 : gSorted1 x with
  | some y =>
    rw [e1] at e
    cases e
    exact cg_sorted Pr F H [x] [v] z Q s p (.cons rx .nil) e1 k
  | none =>
    rw [e1] at e
    have e : gSortD1 x = some z := e
    unfold gSortD1 at e
    split at e
    · rename_i b ds ed
      by_cases c : sortOk ds = true
      · rw [if_pos c] at e
        cases e
        obtain ⟨a, ws, rfl, hs, rs, _⟩ := seq_stays (G := ⟨Pr, F, [], fun _ => False⟩) (qs := true) s p rx ed (.inr rfl)
        exact ⟨_, cr_sortedD hu, a, b, ws, ds, F, rfl, hs, rs, s, c, fun vs' q h5 hq => give_lst rfl h5 s k q hq⟩
      · rw [if_neg c] at e; cases e
    · cases e
end
end R

/-! R21: constants of the module. -/
namespace R
open PySem PySem.Spec PyProof.Rows L2
section
variable {X : Cx} {W : WX} {pos : Pos}
theorem px_gint {x : Str} {i : Int} (hg : Gl X x) (hm : ∃ t, X.mg x = some (.int i t)) (hd : (x == ("__debug__" : Str)) = false := by decide) : PX X W (.Name x pos) true (pureM (.sh (.int i))) := by
  obtain ⟨t, hm⟩ := hm
  exact px_pure (pe_glob (v := .int i) hg hm ⟨t, rfl⟩ hd) fun _ _ _ => .sh (.int i)
theorem px_gstr {x : Str} {i : Str} (hg : Gl X x) (hm : ∃ t, X.mg x = some (.str i t)) (hd : (x == ("__debug__" : Str)) = false := by decide) : PX X W (.Name x pos) true (pureM (.sh (.str i))) := by
  obtain ⟨t, hm⟩ := hm
  exact px_pure (pe_glob (v := .str i) hg hm ⟨t, rfl⟩ hd) fun _ _ _ => .sh (.str i)
end
end R

/-! R22: an own list of two own lists: made, an item read, changed, the whole compared. -/
namespace R
open PySem PySem.Spec PyProof.Rows L2
def getPk (i k : Nat) (ρ : Nv) : Option O := match ρ[i]? with
  | some (some (.own (.pk false xs))) => (xs[k]?).bind FV.cont
  | _ => none
def putPk (i k : Nat) (o : O) (ρ : Nv) : Nv := match ρ[i]? with
  | some (some (.own (.pk false xs))) => ρ.set i (some (.own (.pk false (xs.set k o.fv))))
  | _ => ρ
def AtPk (i k : Nat) (σ : St) (H : Hp) (a : Addr) : Prop := ∃ b vs, σ[i]? = some (some (.ref b)) ∧ H b = some (.lst vs) ∧ vs[k]? = some (.ref a)
section
variable {K : PySem.W.Frag} {mg : MG} {G : Gh} {F H : Hp} {σ : St} {ρ : Nv} {o : O}
theorem Flz.at1 {x : FV} {o : O} : ∀ {vs : List V} {xs : List FV} {fp : List Addr} {k : Nat}, Flz K mg F H vs xs fp → xs[k]? = some x → x.cont = some o →
    ∃ a, vs[k]? = some (.ref a) ∧ Ow K mg F H (.ref a) o [a] ∧ a ∈ fp ∧ (fp.Nodup → ∀ ho o', (∃ q, o'.cont = some q) → Ow K mg F (upd H a ho) (.ref a) o' [a] → Flz K mg F (upd H a ho) vs (xs.set k o'.fv) fp) := by
  intro vs xs fp k h
  induction h generalizing k with
  | nil => intro e; simp at e
  | @cons v y vs xs f1 f2 h t ih =>
    intro e ec
    cases k with
    | zero =>
      rw [List.getElem?_cons_zero] at e
      cases e
      have key : ∃ a, v = .ref a ∧ f1 = [a] ∧ Ow K mg F H (.ref a) o [a] := by
        cases h with
        | sh h => cases ec
        | lst h r => cases ec; exact ⟨_, rfl, rfl, .lst h r⟩
        | dK h r => cases ec; exact ⟨_, rfl, rfl, .dK h r⟩
        | dT h r => cases ec; exact ⟨_, rfl, rfl, .dT h r⟩
        | dX h r => cases ec; exact ⟨_, rfl, rfl, .dX h r⟩
      obtain ⟨a, rfl, rfl, ow⟩ := key
      refine ⟨a, rfl, ow, by simp, fun nd ho o' hc hw => ?_⟩
      have na : a ∉ f2 := fun z => by
        rw [List.singleton_append, List.nodup_cons] at nd
        exact nd.1 z
      rw [List.set_cons_zero]
      refine .cons ?_ (t.mono (Same.refl F) fun p hp => upd_ne fun z => na (z ▸ hp))
      cases hw with
      | lst h r => exact .lst h r
      | dK h r => exact .dK h r
      | dT h r => exact .dT h r
      | dX h r => exact .dX h r
      | ins c h r => obtain ⟨q, hc⟩ := hc; cases hc
      | pk h r => obtain ⟨q, hc⟩ := hc; cases hc
    | succ k =>
      rw [List.getElem?_cons_succ] at e
      obtain ⟨a, e1, ow, ha, kk⟩ := ih e ec
      refine ⟨a, by rw [List.getElem?_cons_succ]; exact e1, ow, List.mem_append_right _ ha, fun nd ho o' hc hw => ?_⟩
      have nd2 := List.nodup_append.mp nd
      rw [List.set_cons_succ]
      refine .cons (h.mono (Same.refl F) fun p hp => upd_ne fun z => ?_) (kk nd2.2.1 ho o' hc hw)
      subst z
      exact nd2.2.2 p hp p ha rfl
theorem Flz.look {x : FV} : ∀ {vs : List V} {xs : List FV} {fp : List Addr} {k : Nat}, Flz K mg F H vs xs fp → xs[k]? = some x → ∃ v f1, vs[k]? = some v ∧ Fl K mg F H v x f1 := by
  intro vs xs fp k h
  induction h generalizing k with
  | nil => intro e; simp at e
  | @cons v y vs xs f1 f2 h t ih =>
    intro e
    cases k with
    | zero => rw [List.getElem?_cons_zero] at e; cases e; exact ⟨v, f1, rfl, h⟩
    | succ k =>
      rw [List.getElem?_cons_succ] at e
      obtain ⟨v', f', e1, h'⟩ := ih e
      exact ⟨v', f', by rw [List.getElem?_cons_succ]; exact e1, h'⟩
theorem Ok.pk (k : Ok K mg G F H σ ρ) {i j : Nat} (e : getPk i j ρ = some o) : ∃ a, AtPk i j σ H a ∧ Ow K mg F H (.ref a) o [a] ∧ F a = none ∧ ∀ ho o', (∃ q, o'.cont = some q) → Ow K mg F (upd H a ho) (.ref a) o' [a] → Ok K mg G F (upd H a ho) σ (putPk i j o' ρ) := by
  unfold getPk at e
  split at e
  · rename_i xs ex
    obtain ⟨v, fp, ev, ow, nd, kx⟩ := OkX.out k (.inl ex)
    cases el : xs[j]? with
    | none => rw [el] at e; cases e
    | some y =>
      rw [el] at e
      cases ow with
      | @pk b bb vs _ fp hb hfs =>
        obtain ⟨a, e1, ow, ha, kk⟩ := hfs.at1 el e
        obtain ⟨u, hu⟩ := ow.at a (by simp)
        have nab : a ≠ b := fun z => by
          subst z
          exact (List.nodup_cons.mp nd).1 ha
        refine ⟨a, ⟨b, vs, ev, hb, e1⟩, ow, (kx.own a (List.mem_cons_of_mem _ ha)).1, fun ho o' hc hw => ?_⟩
        have k2 := kx.wr (o := ho) (List.mem_cons_of_mem _ ha) ⟨u, hu⟩
        have ow2 : Ow K mg F (upd H a ho) (.ref b) (.pk false (xs.set j o'.fv)) (b :: fp) := .pk (by rw [upd_ne (Ne.symm nab)]; exact hb) (kk (List.nodup_cons.mp nd).2 ho o' hc hw)
        rw [show putPk i j o' ρ = ρ.set i (some (.own (.pk false (xs.set j o'.fv)))) by simp only [putPk, ex]]
        exact OkX.back k2 ev (.own ow2) nd fun o h => by rcases h with h | h <;> cases h
  · cases e
/-- own things kept off while another expression runs -/
def Gh.off (G : Gh) (fp : List Addr) : Gh := { G with nf := fun p => G.nf p ∨ p ∈ fp }
theorem Gh.off_free {fp : List Addr} {p : Addr} : (G.off fp).free p ↔ G.free p ∧ p ∉ fp := by
  unfold Gh.off Gh.free
  constructor
  · rintro ⟨h1, h2⟩
    exact ⟨⟨h1, fun z => h2 (.inl z)⟩, fun z => h2 (.inr z)⟩
  · rintro ⟨⟨h1, h2⟩, h3⟩
    exact ⟨h1, fun z => z.elim h2 h3⟩
theorem OkX.more {fp : List Addr} (k : OkX K mg G F H σ ρ fp) (h : ∀ p ∈ fp, ∃ o, H p = some o) : Ok K mg (G.off fp) F H σ ρ := by
  obtain ⟨g, e1, e2, e3, e4⟩ := k.env
  refine ⟨⟨g, e1, e2, e3, fun i p hp => ⟨(e4 i p hp).1, Gh.off_free.mpr ⟨(e4 i p hp).2.1, (e4 i p hp).2.2⟩, by simp⟩⟩, by simp, k.sub, k.pr, k.f0, fun p hp => ?_, k.pin, k.len, fun p hp => hp.elim (k.nft p) (h p)⟩
  by_cases c : p ∈ fp
  · have h1 := (k.own p c).1
    rw [h1]
    cases q : G.F0 p with
    | none => exact q.symm
    | some o => have := k.f0 p o q; rw [h1] at this; cases this
  · exact k.fz p fun z => hp (Gh.off_free.mpr ⟨z, c⟩)
theorem OkX.less {fp fp2 : List Addr} (k : OkX K mg (G.off fp) F H σ ρ fp2) (hf : ∀ p ∈ fp, G.free p) (h0 : ∀ p ∈ fp, G.F0 p = none) : OkX K mg G F H σ ρ (fp ++ fp2) ∧ ∀ p ∈ fp2, p ∉ fp := by
  obtain ⟨g, e1, e2, e3, e4⟩ := k.env
  refine ⟨⟨⟨g, e1, e2, e3, fun i p hp => ⟨(e4 i p hp).1, (Gh.off_free.mp (e4 i p hp).2.1).1, fun z => ?_⟩⟩, fun p hp => ?_, k.sub, k.pr, k.f0, fun p hp => k.fz p fun z => hp (Gh.off_free.mp z).1, k.pin, k.len, fun p hp => k.nft p (.inl hp)⟩, fun p hp => (Gh.off_free.mp (k.own p hp).2).2⟩
  · rcases List.mem_append.mp z with z | z
    · exact (Gh.off_free.mp (e4 i p hp).2.1).2 z
    · exact (e4 i p hp).2.2 z
  · rcases List.mem_append.mp hp with hp | hp
    · exact ⟨by rw [k.fz p fun z => (Gh.off_free.mp z).2 hp]; exact h0 p hp, hf p hp⟩
    · exact ⟨(k.own p hp).1, (Gh.off_free.mp (k.own p hp).2).1⟩
end

/-! ### made -/
def pk2 (x y : SV) : Option (List D × List D) := match x, y with
  | .own (.lst ds), .own (.lst es) => some (ds, es)
  | _, _ => none
theorem pk2_of {x y : SV} {ds es : List D} (h : pk2 x y = some (ds, es)) : x = .own (.lst ds) ∧ y = .own (.lst es) := by
  unfold pk2 at h
  split at h
  · cases h; exact ⟨rfl, rfl⟩
  · cases h
def pkL2 (m1 m2 : M SV) : M SV := fun ρ => (m1 ρ).bind fun x ρ1 => (m2 ρ1).bind fun y ρ2 => match pk2 x y with
  | some (ds, es) => .ok (.own (.pk false [.lst ds, .lst es])) ρ2
  | none => .bad
/-- an item, looked at -/
def ixPk (i k : Nat) : M SV := fun ρ => match ρ[i]? with
  | some (some (.own (.pk false xs))) => (match xs[k]? with | some x => .ok x.tr ρ | none => .bad)
  | _ => .bad
/-- the whole as a list of lists, and a step to a truth -/
def opL (g : SV → SV → Option SV) (i : Nat) (mb : M SV) : M SV := fun ρ => match ρ[i]? with
  | some (some (.own (.pk false _))) => (mb ρ).bind fun y ρ1 => (match ρ1[i]? with
    | some (some (.own (.pk false xs))) => (match g (.sh (.lst (xs.map FV.data))) y with
      | some (.sh (.bl b)) => .ok (.sh (.bl b)) ρ1
      | _ => .bad)
    | _ => .bad)
  | _ => .bad
def mutP (i k : Nat) (Ty : String) (g : O → List SV → Option (SV × O)) (ms : M (List SV)) : M SV := fun ρ => match getPk i k ρ with
  | some o => if o.ty = Ty then (ms ρ).bind fun xs ρ1 => match getPk i k ρ1 with
    | some o1 => match g o1 xs with
      | some (z, o2) => .ok z (putPk i k o2 ρ1)
      | none => .bad
    | none => .bad
    else .bad
  | none => .bad
def mutP0 (i k : Nat) (Ty : String) (g : O → List SV → Option (SV × O)) : M SV := mutP i k Ty g a0
section
variable {X : Cx} {W : WX} {q : Bool} {e a b e1 e2 : Expr} {es : List Expr} {m1 m2 mb : M SV} {pos : Pos} {i k : Nat}
theorem px_pkL2 (h1 : PX X W e1 q m1) (h2 : PX X W e2 true m2) (s1 : starEach [e1, e2] X.env = (false, eval e1 X.env) :: starEach [e2] X.env := by rfl) (s2 : starEach [e2] X.env = (false, eval e2 X.env) :: starEach [] X.env := by rfl) : PX X W (.List [e1, e2] pos) q (pkL2 m1 m2) :=
  PE.imp (pe_lst (pa_cons h1 (pa_cons h2 pa_nil s2) s1)) fun σ H Q ⟨G, F, ρ, ok, z⟩ => by
    unfold pkL2 at z
    have sl := sizeLine_eq
    refine T.bind ok z fun x ρ1 F1 H1 v fp1 e1 s1 s2 k1 rx z => ?_
    cases e3 : m2 ρ1 with
    | bad => rw [e3] at z; exact z.elim
    | exc ex ρ2 =>
      rw [e3] at z
      by_cases hl : ∃ ds, x = .own (.lst ds)
      · obtain ⟨ds, rfl⟩ := hl
        cases rx with
        | own rx nd =>
          have hex : ∀ p ∈ fp1, ∃ o, H1 p = some o := rx.at
          have hf0 : ∀ p ∈ fp1, G.F0 p = none := fun p hp => by
            cases qq : G.F0 p with
            | none => rfl
            | some o => have := k1.f0 p o qq; rw [(k1.own p hp).1] at this; cases this
          refine ⟨G.off fp1, F1, ρ1, k1.more hex, ?_⟩
          rw [e3]
          exact fun F2 H2 c d s3 k2 re => z F2 H2 c d (s1.trans s3) ((k2.less (fun p hp => (k1.own p hp).2) hf0).1.drop) re
      · refine ⟨G, F1, ρ1, k1.drop, ?_⟩
        rw [e3]
        exact fun F2 H2 c d s3 k2 re => z F2 H2 c d (s1.trans s3) k2 re
    | ok y ρ2 =>
      rw [e3] at z
      cases ep : pk2 x y with
      | none =>
        have z : Post X.K X.wg (relX X.K X.wg) W G F H σ q Q (match pk2 x y with
          | some (ds, es) => .ok (.own (.pk false [.lst ds, .lst es])) ρ2
          | none => .bad) := z
        rw [ep] at z; exact z.elim
      | some de =>
        obtain ⟨ds, es⟩ := de
        have z : Post X.K X.wg (relX X.K X.wg) W G F H σ q Q (match pk2 x y with
          | some (ds, es) => .ok (.own (.pk false [.lst ds, .lst es])) ρ2
          | none => .bad) := z
        rw [ep] at z
        obtain ⟨rfl, rfl⟩ := pk2_of ep
        cases rx with
        | own rx nd =>
          have hex : ∀ p ∈ fp1, ∃ o, H1 p = some o := rx.at
          have hf0 : ∀ p ∈ fp1, G.F0 p = none := fun p hp => by
            cases qq : G.F0 p with
            | none => rfl
            | some o => have := k1.f0 p o qq; rw [(k1.own p hp).1] at this; cases this
          refine ⟨G.off fp1, F1, ρ1, k1.more hex, ?_⟩
          rw [e3]
          intro F2 H2 w fp2 s3 s4 k2 ry
          obtain ⟨k3, dj⟩ := k2.less (fun p hp => (k1.own p hp).2) hf0
          refine ⟨by show 2 ≤ _; rw [sl]; omega, fun p hp => ?_⟩
          have sH : Same H1 H2 := s4 rfl
          cases ry with
          | own ry nd2 =>
            have hex1 : ∀ q ∈ fp1, ∃ o, H2 q = some o := fun q hq => by
              obtain ⟨o, ho⟩ := hex q hq
              exact ⟨o, sH _ _ ho⟩
            have hex2 : ∀ q ∈ fp2, ∃ o, H2 q = some o := ry.at
            have g := grow_own (o := .lst [v, w]) k3.sub hp
            have hall : ∀ q ∈ fp1 ++ fp2, ∃ o, H2 q = some o := fun q hq => (List.mem_append.mp hq).elim (hex1 q) (hex2 q)
            have k4 := OkX.growX (fp := [p]) k3 g hall (fun q hq => by
              rw [List.mem_singleton] at hq
              subst hq
              exact ⟨Same.free k3.sub hp, hp⟩)
            have np : ∀ q ∈ fp1 ++ fp2, upd H2 p (.lst [v, w]) q = H2 q := fun q hq => by
              obtain ⟨o, eo⟩ := hall q hq
              exact upd_ne (ne_of_none eo hp)
            have fl1 : Fl X.K X.wg F2 (upd H2 p (.lst [v, w])) v (.lst ds) fp1 := by
              cases rx with
              | lst h r => exact .lst ((np _ (List.mem_append_left _ (by simp))).trans (sH _ _ h)) (r.mono s3)
            have fl2 : Fl X.K X.wg F2 (upd H2 p (.lst [v, w])) w (.lst es) fp2 := by
              cases ry with
              | lst h r => exact .lst ((np _ (List.mem_append_right _ (by simp))).trans h) r
            refine z F2 _ (.ref p) (p :: (fp1 ++ (fp2 ++ []))) (s1.trans s3) (fun hq => ((s2 hq).trans sH).trans g.same) (by rw [List.append_nil]; exact k4) (.own (.pk (b := false) upd_same (.cons fl1 (.cons fl2 .nil))) ?_)
            rw [List.append_nil]
            refine List.nodup_cons.mpr ⟨fun hq => ?_, List.nodup_append.mpr ⟨nd, nd2, fun a ha b hb c => dj b hb (c ▸ ha)⟩⟩
            obtain ⟨o, eo⟩ := hall p hq
            rw [hp] at eo; cases eo
theorem px_ixPk {n : Int} (ha : PE X a (tVar i)) (hb : PE X b (tC (.int n))) (hn : n = (k : Nat)) (hs : PlainIx b) : PX X W (.Subscript a b pos) true (ixPk i k) :=
  PE.imp (pe_ix IxR.any ha hb hs) fun σ H Q ⟨G, F, ρ, ok, z⟩ => by
    unfold ixPk at z
    split at z
    · rename_i xs ex
      obtain ⟨v, fp, ev, hw⟩ := ok.slot ex
      cases hw with
      | own hw =>
        cases hw with
        | @pk p bb vs _ fp hbb hfs =>
          cases ek : xs[k]? with
          | none => rw [ek] at z; exact z.elim
          | some x =>
            rw [ek] at z
            obtain ⟨u, f1, eu, hfl⟩ := hfs.look ek
            subst hn
            refine ⟨.ref p, ev, ?_⟩
            show anyR (IxR X) (.ref p) (.int (k : Nat)) H Q
            exact ⟨_, ix_list, p, vs, (k : Nat), u, rfl, rfl, .inl (.inl hbb), atI_nat eu, z F H u [] (Same.refl F) (fun _ => Same.refl H) ok hfl.trr⟩
    · exact z.elim
theorem cmpL_of {op : CmpOp} {g : SV → SV → Option SV} (hg : OpG X (OpR X (compareOp op)) g) {σ : St} {H : Hp} {Q : VK} (h : T X.K X.wg (relX X.K X.wg) W true (opL g i mb) σ H Q) : tOp (anyR (OpR X (compareOp op))) (tVar i) (T X.K X.wg (relX X.K X.wg) W true mb) σ H Q := by
    obtain ⟨G, F, ρ, ok, z⟩ := h
    unfold opL at z
    split at z
    · rename_i xs0 ex0
      obtain ⟨v, fp, ev, _⟩ := ok.slot ex0
      refine ⟨v, ev, ?_⟩
      refine T.bind ok z fun y ρ1 F1 H1 w fp2 e2 s1 s2 k1 ry z => ?_
      split at z
      · rename_i xs ex
        obtain ⟨v', fp', ev', hw⟩ := k1.slot ex
        rw [ev] at ev'
        cases ev'
        cases hw with
        | own hw =>
          cases hw with
          | @pk p bb vs _ fp hb hfs =>
            have rx : XvR X.K X.wg G.Pr H1 H1 (.ref p) (.sh (.lst (xs.map FV.data))) [] := .sh (.lst hb (hfs.rp k1.sub))
            cases eg : g (.sh (.lst (xs.map FV.data))) y with
            | none => rw [eg] at z; exact z.elim
            | some u =>
              rw [eg] at z
              have fin : ∀ bb, u = .sh (.bl bb) → Post X.K X.wg (relX X.K X.wg) W G F H σ true Q (.ok (.sh (.bl bb)) ρ1) → anyR (OpR X (compareOp op)) (.ref p) w H1 Q := fun bb hu z => by
                subst hu
                refine hg G.Pr H1 H1 _ y (.ref p) w [] fp2 _ Q (Same.refl H1) k1.pr rx (XvR.same k1.sub (Same.refl H1) ry) eg fun F' H' t fz gr rz nz => ?_
                cases rz with
                | sh rz =>
                  cases rz with
                  | bl =>
                    exact z F1 H' (.bl bb) [] s1 (fun hq => (s2 hq).trans gr.same) (Ok.grow k1.drop ⟨Same.refl F1, gr.same, k1.sub.trans gr.same, fun p e n => absurd e n⟩) (.sh (.bl bb))
              split at z
              · rename_i bb hu
                cases hu
                exact fin bb rfl z
              · exact z.elim
      · exact z.elim
    · exact z.elim
theorem px_cmpL {op : CmpOp} {g : SV → SV → Option SV} (hg : OpG X (OpR X (compareOp op)) g) (ha : PE X a (tVar i)) (hb : PX X W b true mb) (hm : behindInMarks op b = false := by first | exact nobehind _ (by decide) (by decide) | rfl) : PX X W (.Compare a [op] [b] pos) true (opL g i mb) :=
  PE.imp (pe_cmpR OpR.any ha hb hm) fun σ H Q h => cmpL_of hg h
theorem pb_cmpL {op : CmpOp} {g : SV → SV → Option SV} (hg : OpG X (OpR X (compareOp op)) g) (ha : PE X a (tVar i)) (hb : PX X W b true mb) (hm : behindInMarks op b = false := by first | exact nobehind _ (by decide) (by decide) | rfl) : PB X W (.Compare a [op] [b] pos) true (valT (opL g i mb)) :=
  PT.imp (pt_cmpR OpR.any ha hb hm) fun σ H Q h => by
    obtain h := tB_of (m := opL g i mb) h
    exact cmpL_of hg h
theorem mutp_core {Ty : String} {g : O → List SV → Option (SV × O)} {ms : M (List SV)} {P : (V → List V → Hp → VK → Prop) → Prop} {σ : St} {H : Hp} {Q : VK} (hT : Ty ≠ "") (hg : MutG X P g)
    (h : T X.K X.wg (relX X.K X.wg) W false (mutP i k Ty g ms) σ H Q) : ∃ a, AtPk i k σ H a ∧ tyV X.K Ty (.ref a) H ∧ T X.K X.wg (relA X.K X.wg) W true ms σ H fun vs H2 => anyM P (.ref a) vs H2 Q := by
  obtain ⟨G, F, ρ, ok, z⟩ := h
  unfold mutP at z
  cases e1 : getPk i k ρ with
  | none => rw [e1] at z; exact z.elim
  | some o =>
    rw [e1] at z
    have z : Post X.K X.wg (relX X.K X.wg) W G F H σ false Q (if o.ty = Ty then (ms ρ).bind fun xs ρ1 => match getPk i k ρ1 with
      | some o1 => match g o1 xs with
        | some (z, o2) => .ok z (putPk i k o2 ρ1)
        | none => .bad
      | none => .bad
      else .bad) := z
    by_cases c : o.ty = Ty
    · rw [if_pos c] at z
      obtain ⟨a, hat, how, hF, hback⟩ := Ok.pk ok e1
      refine ⟨a, hat, Ow.tyv how Ty c hT, ?_⟩
      refine T.bind ok z fun xs ρ1 F1 H1 vs fp0 e2 s1 s2 k1 r z => ?_
      obtain ⟨r, rfl⟩ := r
      cases e3 : getPk i k ρ1 with
      | none => rw [e3] at z; exact z.elim
      | some o1 =>
        rw [e3] at z
        have z : Post X.K X.wg (relX X.K X.wg) W G F H σ false Q (match g o1 xs with
        | some (z, o2) => .ok z (putPk i k o2 ρ1)
        | none => .bad) := z
        cases e4 : g o1 xs with
        | none => rw [e4] at z; exact z.elim
        | some zo =>
          obtain ⟨u, o2⟩ := zo
          rw [e4] at z
          obtain ⟨a1, hat1, how1, hF1, hback1⟩ := Ok.pk k1 e3
          have ea : a1 = a := by
            obtain ⟨b, vs, q1, q2, q3⟩ := hat
            obtain ⟨b1, vs1, p1, p2, p3⟩ := hat1
            rw [q1] at p1; cases p1
            have := (s2 rfl) _ _ q2
            rw [this] at p2; cases p2
            rw [q3] at p3; cases p3; rfl
          subst ea
          exact hg G.Pr F1 H1 a1 o1 xs vs u o2 Q k1.sub k1.pr hF1 how1 r e4 fun ho t hc hw hx => z F1 (upd H1 a1 ho) t [] s1 (fun e => nomatch e) (hback1 ho o2 hc hw) hx
    · rw [if_neg c] at z; exact z.elim
/-- the receiver's reading -/
def PkR (X : Cx) (i k : Nat) (to : TE) : Prop := ∀ (σ : St) (H : Hp) (Q : VK) (a : Addr), AtPk i k σ H a → Q (.ref a) H → to σ H Q
theorem pkr_ix {n : Int} (hn : n = (k : Nat)) : PkR X i k (tOp (anyR (IxR X)) (tVar i) (tC (.int n))) := fun σ H Q a ⟨b, vs, h1, h2, h3⟩ z => by
  subst hn
  refine ⟨.ref b, h1, ?_⟩
  show anyR (IxR X) (.ref b) (.int (k : Nat)) H Q
  exact ⟨_, ix_list, b, vs, (k : Nat), .ref a, rfl, rfl, .inl (.inl h2), atI_nat h3, z⟩
variable {o : Expr} {name : Str} {apos cpos : Pos} {Ty id : String} {to : TE} {g : O → List SV → Option (SV × O)} {ms : M (List SV)}
theorem px_mutP (hT : Ty ≠ "") (pa : PlainAttrs Ty) (slot : Slot Ty name id) (hty : typeOf (.builtin id) = pure (.type "method_descriptor")) (hg : MutG X (MtR X id) g) (ho : PE X o to) (hto : PkR X i k to) (ha : PAs X W (e :: es) true ms)
    (hbase : attributeBase o name X.env (eval o X.env) = eval o X.env := by rfl)
    (hfew : ((backTo cpos (starEach (e :: es) X.env)).all (fun x => !x.1) && (backToKw cpos (keywordEach [] X.env)).all (fun x => x.1.isSome)
      && decide ((e :: es).length + ([] : List Keyword).length + (if ([] : List Keyword).isEmpty then 0 else 1) < 30)) = true := by rfl)
    (hline : (apos.endLine == cpos.line) = true := by rfl) (hs : starEach (e :: es) X.env = (false, eval e X.env) :: starEach es X.env := by rfl) (hplain : (backTo cpos (starEach es X.env)).any (·.1) = false := by rfl) :
    PX X W (.Call (.Attribute o name apos) (e :: es) [] cpos) false (mutP i k Ty g ms) := PE.imp (pe_bm pa slot hty MtR.any ho ha hbase hfew hline hs hplain) fun σ H Q h =>
  let ⟨a, h1, h2, h3⟩ := mutp_core hT hg h
  hto σ H _ a h1 ⟨h2, h3⟩
theorem px_mutP0 (hT : Ty ≠ "") (pa : PlainAttrs Ty) (slot : Slot Ty name id) (hty : typeOf (.builtin id) = pure (.type "method_descriptor")) (hg : MutG X (MtR X id) g) (ho : PE X o to) (hto : PkR X i k to)
    (hbase : attributeBase o name X.env (eval o X.env) = eval o X.env := by rfl) (hline : (apos.endLine == cpos.line) = true := by rfl) :
    PX X W (.Call (.Attribute o name apos) [] [] cpos) false (mutP0 i k Ty g) := PE.imp (pe_bm0 pa slot hty MtR.any ho hbase hline) fun σ H Q h => by
  obtain ⟨a, h1, h2, h3⟩ := mutp_core hT hg h
  obtain ⟨G, F, ρ, ok, z⟩ := h3
  exact hto σ H _ a h1 ⟨h2, z F H [] [] (Same.refl F) (fun _ => Same.refl H) ok ⟨.nil, rfl⟩⟩
end
end R

/-! R23: slices of lists with a step told by a number. -/
namespace R
open PySem PySem.Spec PyProof.Rows L2
def cutI (n : Nat) (lo hi : Option Int) (k : Int) : List Nat := sliceRange (sliceBounds lo hi (some k) n).1 (sliceBounds lo hi (some k) n).2.1 (sliceBounds lo hi (some k) n).2.2
def cut3V (vs : List V) (lo hi : Option Int) (k : Int) : List V := (cutI vs.length lo hi k).filterMap (vs[·]?)
def cut3D (ds : List D) (lo hi : Option Int) (k : Int) : List D := (cutI ds.length lo hi k).filterMap (ds[·]?)
theorem vals_get {xs : List V} {us : List Value} (r : Vals xs us) (i : Nat) : (xs[i]? = none ∧ us[i]? = none) ∨ ∃ x u, xs[i]? = some x ∧ us[i]? = some u ∧ RelV x u := by
  induction r generalizing i with
  | nil => exact .inl ⟨by simp, by simp⟩
  | cons h r ih =>
    cases i with
    | zero => exact .inr ⟨_, _, rfl, rfl, h⟩
    | succ i => rw [List.getElem?_cons_succ, List.getElem?_cons_succ]; exact ih i
theorem vals_pick {xs : List V} {us : List Value} (r : Vals xs us) : ∀ L : List Nat, Vals (L.filterMap (xs[·]?)) (L.filterMap (us[·]?))
  | [] => .nil
  | i :: L => by
    rcases vals_get r i with ⟨h1, h2⟩ | ⟨x, u, h1, h2, h3⟩
    · rw [List.filterMap_cons, List.filterMap_cons, h1, h2]; exact vals_pick r L
    · rw [List.filterMap_cons, List.filterMap_cons, h1, h2]; exact .cons h3 (vals_pick r L)
section
variable {K : PySem.W.Frag} {mg : MG} {F : Hp}
theorem rps_get : ∀ {vs : List V} {ds : List D}, Rps K mg F vs ds → ∀ i : Nat, (vs[i]? = none ∧ ds[i]? = none) ∨ ∃ x u, vs[i]? = some x ∧ ds[i]? = some u ∧ Rp K mg F x u
  | _, _, .nil, i => .inl ⟨by simp, by simp⟩
  | _, _, .cons h r, 0 => .inr ⟨_, _, rfl, rfl, h⟩
  | _, _, .cons h r, i + 1 => by rw [List.getElem?_cons_succ, List.getElem?_cons_succ]; exact rps_get r i
theorem rps_pick {vs : List V} {ds : List D} (r : Rps K mg F vs ds) : ∀ L : List Nat, Rps K mg F (L.filterMap (vs[·]?)) (L.filterMap (ds[·]?))
  | [] => .nil
  | i :: L => by
    rcases rps_get r i with ⟨h1, h2⟩ | ⟨x, u, h1, h2, h3⟩
    · rw [List.filterMap_cons, List.filterMap_cons, h1, h2]; exact rps_pick r L
    · rw [List.filterMap_cons, List.filterMap_cons, h1, h2]; exact .cons h3 (rps_pick r L)
theorem Rps.cut3 {vs : List V} {ds : List D} (r : Rps K mg F vs ds) (lo hi : Option Int) (k : Int) : Rps K mg F (cut3V vs lo hi k) (cut3D ds lo hi k) := by
  unfold cut3V cut3D
  rw [Rps.length r]
  exact rps_pick r _
end
theorem cut3D_mem {ds : List D} {lo hi : Option Int} {k : Int} {d : D} (h : d ∈ cut3D ds lo hi k) : d ∈ ds := by
  obtain ⟨i, _, h⟩ := List.mem_filterMap.mp h
  exact List.mem_of_getElem? h
def rSl3 (K : PySem.W.Frag) (k : Int) : V → Option Int → Option Int → Hp → VK → Prop := fun x lo hi H Q => ∃ a xs, x = .ref a ∧ SqL K H a xs ∧ ∀ p, H p = none → Q (.ref p) (upd H p (.lst (cut3V xs lo hi k)))
section
variable {X : Cx} {W : WX} {q : Bool} {a e : Expr} {te : TE} {tl th : TO} {m : M SV} {pos p2 p0 : Pos} {lo hi : Option Expr} {ml mh : M (Option Int)} {k : Int}
theorem pe_slice3 {j} (hk : k ≠ 0) (he : PE X e te) (hl : PO X lo tl) (hu : PO X hi th) : PE X (.Subscript e (.Slice lo hi (some (.Constant (.int k) j p0)) p2) pos) (tSl (rSl3 X.K k) te tl th) := by
  refine ⟨fun pins s σ H Q I h => ?_⟩
  refine Subscript_ (thn (he.run pins s σ H _ I h) fun v s1 ⟨x, H1, I1, r1, q1⟩ => ?_)
  refine wpAny_Slice (thn (hl.run pins s1 σ H1 _ I1 q1) fun vl s2 ⟨l, H2, I2, pl, q2⟩ => thn (hu.run pins s2 σ H2 _ I2 q2) fun vu s3 ⟨u, H3, I3, pu, q3⟩ => ?_)
  refine thn ((po_some (pe_int (i := k) (j := j) (pos := p0))).run pins s3 σ H3 (fun o H' => o = some k ∧ rSl3 X.K k x l u H' Q) I3 ⟨k, rfl, rfl, q3⟩) fun vst s4 ⟨o, H4, I4, pst, ho, q4⟩ => ?_
  subst ho
  have I5 : Inv X pins σ H4 { s4 with heap := s4.heap.push { cls := .type "slice", data := .fields #[vl, vu, vst] } } := I4.kept (t' := s4.toks) fun b ob q => Heap.get?_push_of_some _ q
  obtain ⟨a, xs, rfl, hx, qq⟩ := q4
  cases r1
  obtain ⟨its, r, ht, hz⟩ := I5.list hx
  have hlen := r.length
  show wpAny (model X.prog X.w) X.A (subscriptTail e (.Slice lo hi (some (.Constant (.int k) j p0)) p2) (.ref a) (.ref s4.heap.objs.size)) (EP X pins σ Q) X.xe { s4 with heap := s4.heap.push { cls := .type "slice", data := .fields #[vl, vu, vst] } }
  refine tail_any (ops := [.ref a, .ref s4.heap.objs.size]) ht.isList.typeIs slot_list_getitem.lookup ?_ (by with_unfolding_all rfl)
  refine wpAny_getItem_list_slice ht.isList (Heap.IsSliceOf.new ..) pl pu pst (fun z => hk (Option.some.inj z)) ?_ (by rw [List.size_toArray]; omega)
  have hp := slicePick_size_le its.toArray l u (some k)
  have e1 : slicePick its.toArray l u (some k) = ((cutI xs.length l u k).filterMap (its[·]?)).toArray := by
    unfold slicePick cutI
    rw [List.size_toArray, ← hlen]
    simp
  rw [e1] at hp ⊢
  rw [List.size_toArray, List.size_toArray, ← hlen] at hp
  have rv := vals_pick r (cutI xs.length l u k)
  have hl2 : (cut3V xs l u k).length ≤ sizeLine := by
    have := rv.length
    unfold cut3V
    omega
  refine ⟨.ref _, _, I5.laid (t' := s4.toks) (o := .lst (cut3V xs l u k)) (fun b ob q => Heap.get?_push_of_some _ q) (Nat.le_refl _) ?_, rfl, qq _ (I5.hok.fresh (Nat.le_refl _))⟩
  exact ⟨hl2, _, 0, rv, Heap.get?_push_size _ rfl⟩
/-- xs[lo:hi:k] -/
def sl3M (k : Int) (m : M SV) (lo hi : M (Option Int)) : M SV := fun ρ => (m ρ).bind fun x ρ1 => (lo ρ1).bind fun l ρ2 => (hi ρ2).bind fun h ρ3 => match x.data with
  | .lst ds => .ok (.own (.lst (cut3D ds l h k))) ρ3
  | _ => .bad
theorem px_sl3 {j} (hk : k ≠ 0) (ha : PX X W a q m) (hl : POs X W lo ml) (hh : POs X W hi mh) : PX X W (.Subscript a (.Slice lo hi (some (.Constant (.int k) j p0)) p2) pos) q (sl3M k m ml mh) :=
  PE.imp (pe_slice3 hk ha hl hh) fun σ H Q ⟨G, F, ρ, ok, z⟩ => by
    unfold sl3M at z
    refine T.bind ok z fun x ρ1 F1 H1 v fp0 e1 s1 s2 k1 rx z => ?_
    refine T.bind k1.drop (Post.adv s1 s2 z) fun l ρ2 F2 H2 lv fp2 e2 s3 s4 k2 rl z => ?_
    refine T.bind k2.drop (Post.adv s3 (fun _ => s4 rfl) z) fun u ρ3 F3 H3 uv fp3 e3 s5 s6 k3 ru z => ?_
    obtain ⟨rfl, rfl⟩ := rl
    obtain ⟨rfl, rfl⟩ := ru
    have rx3 := (rx.same s3 (s4 rfl)).same s5 (s6 rfl)
    split at z
    · rename_i ds ex
      obtain ⟨a, vs, ev, h, r⟩ := rx3.list k3.pr k3.sub ex
      refine ⟨a, vs, ev, .inl (.inl h), give_lst rfl (r.cut3 lv uv k) k3.sub fun F' H' t fz gr rz nz => z F' H' t fz (s5.trans gr.sub) (fun _ => (s6 rfl).trans gr.same) (Ok.growX k3 gr nz) rz⟩
    · exact z.elim
end
end R

/-! R24: list.count of data. -/
namespace R
open PySem PySem.Spec PyProof.Rows L2
section
variable {X : Cx}
def rCountD (K : PySem.W.Frag) : V → List V → Hp → VK → Prop := fun x xs H Q => ∃ (a : Addr) (y : V) (d : PyData) (ds : List PyData), x = V.ref a ∧ xs = [y] ∧ Dp K H (V.ref a) (.list ds) ∧ Dp K H y d ∧
  SeqAt.shaped (.list ds) = true ∧ SeqAt.shaped d = true ∧ Q (.int (ds.countP (fun z => PyData.eqv z d) : Nat)) H
theorem mt_countD (hu : X.A.units + 65 < cLine) : MtR X "list.count" (rCountD X.K) := by
  intro pins s σ H x xs v us Q I rx rxs h
  obtain ⟨a, y, d, ds, rfl, rfl, hl, hy, sl, sd, q⟩ := h
  cases rx
  cases rxs with
  | cons ry rt =>
    rename_i uy ut
    cases rt
    obtain ⟨bs, r1⟩ := Dp.reads I d y uy hy ry
    have hxs : PyData.canLayAll0 ds = true := SeqAt.canLay_of_shaped sl
    have hroom : X.A.units + 1 + min (PyData.depthAll ds) d.depth < cLine := room_in_shaped sd hu
    cases hl with
    | lst hs ha =>
      obtain ⟨its, rv, ⟨⟨cls, dd, data, sls⟩, n, ho, hc, hdn, hdt⟩, hlen⟩ := I.list hs
      simp only at hc hdt
      subst hc hdt
      obtain ⟨as, h4⟩ := Dp.readsAll I ds _ its ha rv
      have hmap : its.map (SeqAt.readOf s.heap) = ds := SeqAt.readsAll_map ds its as hxs h4
      refine call_meets PySem.F.slot_list_count ⟨_, ho, rfl⟩ PySem.F.entry_list_count (PySem.F.args_list_count_2 _ _)
        (SeqAt.list_countAt a its.toArray n dd sls uy (fun u => PyData.eqv (SeqAt.readOf s.heap u) d)) ⟨ho, SeqAt.items_eqAt (vs := its.toArray) (show ReadsAll s.heap its.toArray.toList ds as from h4) r1 hxs (SeqAt.canLay_of_shaped sd) hroom, ?_⟩
      have ec : its.toArray.toList.countP (fun u => PyData.eqv (SeqAt.readOf s.heap u) d) = ds.countP (fun z => PyData.eqv z d) := by
        rw [← hmap, List.countP_map]
        rfl
      refine ⟨.int (ds.countP (fun z => PyData.eqv z d) : Nat), H, I.tok _, ⟨s.toks, ?_⟩, q⟩
      show Value.int ((its.toArray.toList.countP (fun u => PyData.eqv (SeqAt.readOf s.heap u) d) : Nat) : Int) s.toks = Value.int ((ds.countP (fun z => PyData.eqv z d) : Nat) : Int) s.toks
      rw [ec]
/-- how many equal ones -/
def gCount (x : SV) (xs : List SV) : Option SV := match x.data, xs with
  | .lst ds, [y] => match D.pys ds, y.data.py with
    | some es, some e => if SeqAt.shaped (.list es) = true ∧ SeqAt.shaped e = true then some (.sh (.int (es.countP (fun z => PyData.eqv z e) : Nat))) else none
    | _, _ => none
  | _, _ => none
theorem mtg_count (hu : X.A.units + 65 < cLine) : MtG X "list.count" gCount := by
  intro Pr F H x v fx xs vs z Q s p rx rs e k
  unfold gCount at e
  split at e
  · rename_i ds y ed
    cases e1 : D.pys ds with
    | none => rw [e1] at e; cases e
    | some es =>
      cases e2 : y.data.py with
      | none => rw [e1, e2] at e; cases e
      | some ep =>
        rw [e1, e2] at e
        have e : (if SeqAt.shaped (.list es) = true ∧ SeqAt.shaped ep = true then some (SV.sh (.int (es.countP (fun z => PyData.eqv z ep) : Nat))) else none) = some z := e
        by_cases c : SeqAt.shaped (.list es) = true ∧ SeqAt.shaped ep = true
        · rw [if_pos c] at e
          cases e
          obtain ⟨w, rfl, rw'⟩ := xs1 rs
          have rd := rx.rp s p
          rw [ed] at rd
          have hdl : D.py (.lst ds) = some (.list es) := by rw [D.py, e1]
          have hdp := rd.dp hdl
          have hv : ∃ a, v = .ref a := by cases rd; exact ⟨_, rfl⟩
          obtain ⟨a, rfl⟩ := hv
          exact ⟨_, mt_countD hu, a, w, ep, es, rfl, rfl, hdp, (rw'.rp s p).dp e2, c.1, c.2, k F H (.int _) [] (Grow.refl s) (.sh (.int _)) (by simp)⟩
        · rw [if_neg c] at e; cases e
  · cases e
end
end R

/-! R25: own exceptions: raised, caught and kept as data, asked for their class. -/
namespace R
open PySem PySem.Spec PyProof.Rows L2
section
variable {X : Cx} {pins : List (Addr × Obj)} {σ : L2.St} {H : Hp} {sI s' : Shared} {B : Heap} {a : Addr} {oe : Obj}
theorem hok_track {P : Program} {w : World} {h : Heap} (ok : HOk P w H h) (na : H a = none) (he : h.get? a = some oe) : HOk P w (upd H a (.ext (isO a oe))) h := fun b o q => by
  by_cases c : b = a
  · subst c
    rw [upd_same] at q
    cases q
    exact ⟨he, ⟨oe, he⟩, fun h1 h2 q k => k _ q⟩
  · rw [upd_ne c] at q
    refine (ok b o q).stay (fun _ _ _ e => e) (fun d hd => ?_) fun d xs hd => ?_
    · rw [upd_ne (fun z => by subst z; rw [na] at hd; cases hd)]; exact hd
    · rw [upd_ne (fun z => by subst z; rw [na] at hd; cases hd)]; exact hd
/-- back on the ground, the exception's object tracked -/
theorem landedX (I : Inv X pins σ H sI) (nb : ∀ b o, sI.heap.get? b = some o → b ∉ frs X.stack → B.get? b = some o) (st : B.StaysIn s'.heap) (up : sI.heap.UpToSlots s'.heap) (os : s'.os = sI.os) (ag : AllBare s'.gens) (hne : B.get? a = none) (nF : a ∉ frs X.stack)
    (na : H a = none) (he : s'.heap.get? a = some oe) : Inv X pins σ (upd H a (.ext (isO a oe))) s' := by
  have hs : ∀ b o, sI.heap.get? b = some o → b ≠ a := fun b o e z => by
    subst z
    have := nb b o e nF
    rw [hne] at this
    cases this
  have nf : ∀ b ∈ frs X.stack, ∀ o, sI.heap.get? b = some o → ∃ sl, s'.heap.get? b = some { o with slots := sl } := fun b hb o e => by
    obtain ⟨_, o', e', hd⟩ := I.stack.mem hb
    rw [e] at e'; cases e'
    exact up b o e hd
  have nh : ∀ b u, H b = some u → b ≠ a := fun b u e z => by rw [z, na] at e; cases e
  have J := I.call (ch := []) (h' := s'.heap) (g' := s'.gens) (t' := s'.toks) (d' := s'.drawn) (H' := upd H a (.ext (isO a oe)))
    ⟨fun b o e _ hb _ => st b o (nb b o e hb), fun b o e _ hb _ => nf b hb o e, fun b o e n _ => by rw [upd_ne (hs b o e)]; exact n, fun b o e _ => by
      by_cases hb : b ∈ frs X.stack
      · obtain ⟨sl, q⟩ := nf b hb o e
        exact ⟨_, q⟩
      · exact ⟨o, st b o (nb b o e hb)⟩, fun b xs e => by rw [upd_ne (nh b _ e)]; exact e, fun b o u e => by rw [upd_ne (nh b _ e)]; exact e, fun b ps e => ⟨#[], by rw [upd_ne (nh b _ e), e]; simp⟩⟩
    (hok_track ((I.inGround nb).kept st) na he) ag (fun _ z => nomatch z)
  obtain ⟨a1, a2, a3, a4, a5⟩ := s'
  have e5 : a5 = sI.os := os
  subst e5
  exact J
end
/-- the context of an except suite, nothing pinned for it -/
theorem inv_suite0 {X : Cx} {pins : List (Addr × Obj)} {σ : L2.St} {H : Hp} {s : Shared} (I : Inv X pins σ H s) (a : Addr) : Inv (X.suite a (X.pn ++ pins)) [] σ H s :=
  ⟨I.ok.suite _ _, I.os, I.bare, I.base, I.loc, I.cell, I.free, I.freeC, fun p hp => I.pin p (by simpa using hp), I.hok, I.len⟩
theorem inv_unsuite0 {X : Cx} {pins pn' : List (Addr × Obj)} {σ : L2.St} {H : Hp} {s : Shared} {a : Addr} (I : Inv (X.suite a (X.pn ++ pins)) pn' σ H s) (ok : X.Ok) : Inv X pins σ H s :=
  ⟨ok, I.os, I.bare, I.base, I.loc, I.cell, I.free, I.freeC, fun p hp => I.pin p (List.mem_append_left _ hp), I.hok, I.len⟩
/-- what the clause 'except x as n' wishes, where it names all that comes: slot i is n's -/
def wAsK (K : PySem.W.Frag) (c : Value) (i : Nat) (ts : Addr → TS) (D : Ends) : WX := fun cls d σ H =>
  PySem.W.exmOne K cls c = some true ∧ ∀ a oe, H a = none → Zc cls d oe → (∃ vs, oe.data = .fields vs) → ts a { nx := fun σ' H' => D.nx (σ'.set i none) H', rt := D.rt, bk := fun σ' H' => D.bk (σ'.set i none) H', ct := fun σ' H' => D.ct (σ'.set i none) H' } (σ.set i (some (.ref a))) (upd H a (.ext (isO a oe)))
section
variable {X : Cx} {x n : Str} {c : Value} {i : Nat} {body suite : List Stmt} {b₀ : Stmt} {np pos pos' : Pos} {tb : WX → TS} {ts : Addr → TS}
theorem ps_try_asK (hs : X.stack = X.env :: X.outer) (hf : X.env.frame = some X.env.locals) (hN : X.N.Nodup) (hi : X.N[i]? = some n) (hln : X.env.kindOf n = some .local) (hc : Names X x c)
    (hb : ∀ (W : WX) (pn : List (Addr × Obj)) (xe : Value → Shared → Prop), L2N.Takes (X.tr pn xe) W → PassesOwn (model X.prog X.w) X.A X.env xe → PSs (X.tr pn xe) body (tb W))
    (hsu : ∀ (a : Addr) (pn : List (Addr × Obj)), PSs (X.suite a pn) (b₀ :: suite) (ts a)) :
    PS X (.Try body [.ExceptHandler (some (.Name x np)) (some n) (b₀ :: suite) pos'] [] [] pos) (fun D σ H => tb (wAsK X.K c i ts D) D σ H) := by
  refine ⟨fun pins s σ H D I h => ?_⟩
  have ok := I.ok
  have hfr : X.A.frames = some (X.env :: X.outer) := by rw [ok.frames, hs]
  have hloc : Loc X.env.scope n := .inl hln
  refine wpAny_Try_except ?_
  refine wpAny_mono ((hb (wAsK X.K c i ts D) (X.pn ++ pins) (fun e s₁ => wpAny (model X.prog X.w) X.A (noteFrame e X.env) (fun _ s₂ => wpAny (model X.prog X.w) X.A (setFlight e none) (fun _ s₃ =>
    wpAny (model X.prog X.w) X.A (handleBy e X.env [.ExceptHandler (some (.Name x np)) (some n) (b₀ :: suite) pos']) (SP X pins D) X.xe s₃) X.xe s₂) X.xe s₁) (fun u s' xx => ?_) PassesOwn.looking).run [] s σ H D (I.toTry _) h) (fun f s1 hsp => ?_) (fun e s1 he => he)
  · -- the catch
    obtain ⟨a, B, sI, pins', σ', H', cls, d, rfl, J', nb, up, sky, na, os, ag, hb1, hyes⟩ := xx
    have J : Inv X pins σ' H' sI := J'.ofTry ok
    have sky' : Sky B (X.env :: X.outer) a (L2N.Zn cls d) X.env.locals s'.heap := by rw [← hs]; exact sky
    show wpAny (model X.prog X.w) X.A (noteFrame (.ref a) X.env) _ _ _
    refine L2N.Sky.land L2N.Zn.steady hfr hf sky' fun h3 fl3 up3 => ?_
    have J3 : Inv X pins σ' H' { s' with heap := h3 } := J.landed nb fl3.1 (up.trans up3) os ag
    obtain ⟨oe3, vs3, he3, hz3, hd3⟩ := fl3.there
    have notFr : ∀ {h : Heap} {o : Obj} {vs : Array Value}, h.FunFrames B (X.env :: X.outer) → h.get? a = some o → o.data = .fields vs → a ∉ frs (X.env :: X.outer) := fun {h o vs} ff e dd hm => by
      obtain ⟨_, o', e', hnf⟩ := ff.mem hm
      rw [e] at e'; cases e'
      exact hnf _ dd
    have nfr := notFr fl3.2.2.1 he3 hd3
    have nL : a ≠ X.env.locals := fun z => nfr (List.mem_filterMap.mpr ⟨X.env, List.mem_cons_self, by rw [hf, z]⟩)
    have nF : a ∉ X.fs := fun hm => by
      obtain ⟨e, he, q⟩ := List.mem_filterMap.mp hm
      exact nfr (List.mem_filterMap.mpr ⟨e, List.mem_cons_of_mem _ he, q⟩)
    have S3 := J3.suite he3 hd3 na nL nF
    refine wpAny_handleBy_cons (codeAny_handlers_test ?_) (by intro q; cases q)
    have LT : PySem.W.Looks (model X.prog X.w) h3 (typeOf (.ref a)) cls := fun A Q E s k q => wpAny_typeOf_ref (k _ _ he3) (by rw [hz3.1]; exact q)
    have LM := PySem.W.exm_one (M := model X.prog X.w) (J3.kIn) LT hb1
    have test : ∀ {Q : Value → Shared → Prop} {E : Value → Shared → Prop}, Q c { s' with heap := h3 } → wpAny (model X.prog X.w) (X.A.mark (some (.ref a))) (eval (.Name x np) X.env) Q E { s' with heap := h3 } := fun {Q E} q => by
      obtain ⟨hg, hdbg, hm | ⟨hm, hv, hnn⟩⟩ := hc
      · exact ld_glob (X := X.suite a ((a, oe3) :: (X.pn ++ pins))) S3 hg hm q hdbg
      · exact ld_blt (X := X.suite a ((a, oe3) :: (X.pn ++ pins))) S3 hg hm hv q hnn hdbg
    refine test (LM.here ?_)
    refine codeAny_handlers_suite_as ?_
    refine HandSPX.lands_againZ fl3 fun h4 fl4 up4 => ?_
    obtain ⟨oe4, vs4, he4, hz4, hd4⟩ := fl4.there
    have nfr' : a ∉ frs X.stack := by rw [hs]; exact nfr
    have J4 : Inv X pins σ' (upd H' a (.ext (isO a oe4))) { s' with heap := h4 } := landedX J nb fl4.1 ((up.trans up3).trans up4) os ag fl4.2.1 nfr' na he4
    have S4 := inv_suite0 J4 a
    refine store_ok (X := X.suite a (X.pn ++ pins)) (v := .ref a) S4 hN hi hloc rfl (fun s5 S5 => ?_) (.inr hln)
    refine wpAny_mono ((hsu a (X.pn ++ pins)).run [] s5 _ _ _ S5 (hyes a oe4 na hz4.zc ⟨_, hd4⟩)) (fun f s6 hsp => ?_) (fun _ _ z => False.elim z)
    have end_ : ∀ {σ6 : L2.St} {H6 : Hp} {Q : Shared → Prop}, Inv (X.suite a (X.pn ++ pins)) [] σ6 H6 s6 → (∀ s7, Inv X pins (σ6.set i none) H6 s7 → Q s7) →
        wpAny (model X.prog X.w) X.A (do bindName X.env n .none; unbindBehindTheSuite X.env n pos') (fun _ s7 => Q s7) X.xe s6 := fun {σ6 H6 Q} S6 hq => gone_ok (inv_unsuite0 S6 ok) hN hi hln hq
    cases f with
    | next =>
      obtain ⟨σ6, H6, S6, q6⟩ := hsp
      exact end_ S6 fun s7 J7 => ⟨_, _, J7, q6⟩
    | brk =>
      obtain ⟨σ6, H6, S6, q6⟩ := hsp
      exact end_ S6 fun s7 J7 => ⟨_, _, J7, q6⟩
    | cont =>
      obtain ⟨σ6, H6, S6, q6⟩ := hsp
      exact end_ S6 fun s7 J7 => ⟨_, _, J7, q6⟩
    | ret u =>
      obtain ⟨v6, σ6, H6, S6, r6, q6⟩ := hsp
      exact end_ S6 fun s7 J7 => ⟨_, _, _, J7, r6, q6⟩
  · cases f with
    | next =>
      obtain ⟨σ', H', J', q⟩ := hsp
      exact wpAny_execs_nil ⟨σ', H', J'.ofTry ok, q⟩
    | brk =>
      obtain ⟨σ', H', J', q⟩ := hsp
      exact ⟨σ', H', J'.ofTry ok, q⟩
    | cont =>
      obtain ⟨σ', H', J', q⟩ := hsp
      exact ⟨σ', H', J'.ofTry ok, q⟩
    | ret u =>
      obtain ⟨v, σ', H', J', r, q⟩ := hsp
      exact ⟨v, σ', H', J'.ofTry ok, r, q⟩
end
/-! ### the classes -/
/-- where an exception class of the text stands, and what is asked of it -/
structure EcAt (K : PySem.W.Frag) (mg : Str → Option Value) (C : Str) (c : Addr) : Prop where
  g : mg C = some (.ref c)
  ga : PySem.W.findIn K (.ref c) "__getattribute__" = some (some (.builtin "BaseException.__getattribute__"))
  gg : PySem.W.findIn K (.ref c) "__getattr__" = some none
  sb : PySem.W.subIn K (.ref c) (.type "BaseException") = some true
  hd : PySem.W.hasDictIn K c = true
  ha : PySem.W.findIn K (.ref c) "__class__" = some (some (.builtin "object.__class__"))
  hn : PySem.W.specialIn K (.builtin "object.__class__") "__get__" = some (some (.builtin "getset_descriptor.__get__"))
  ht : PySem.W.takesIn K (.builtin "object.__class__") = some true
  hm : PySem.W.mroIn K c (.type "object") = some true
  ty : PySem.W.typeIn K (.ref c) = some (.type "type")
  kp : PySem.W.keepIn K (.ref c) = true
/-- .. of one without an own __init__ -/
structure Ec0 (K : PySem.W.Frag) (mg : Str → Option Value) (C : Str) : Prop where
  ex : ∃ c, EcAt K mg C c ∧ PySem.W.excIn K c [.type "ValueError", .type "Exception", .type "BaseException", .type "object"] "ValueError.__new__" = true
section
variable {K : PySem.W.Frag} {mg : Str → Option Value} {C D : Str} {c d : Addr} {b : Bool}
theorem EcAt.isCls (E : EcAt K mg C c) : (PySem.W.clsIn K c).isSome = true := by
  obtain ⟨cd, h, _⟩ := PySem.W.any_some E.hd
  rw [h]; rfl
theorem EcAt.kit (E : EcAt K mg D d) {t : Value} (h : PySem.W.subIn K t (.ref d) = some b) (hs : t = .ref d → b = true) : PySem.W.kitOne K t (.ref d) = some b := by
  unfold PySem.W.kitOne
  split
  · rename_i q
    rw [hs (beq_iff_eq.mp q)]
  · show (if ((PySem.W.clsIn K d).isSome && PySem.W.typeIn K (.ref d) == some (.type "type")) = true then PySem.W.subIn K t (.ref d) else none) = some b
    rw [if_pos (by rw [E.isCls, E.ty]; rfl)]
    exact h
theorem EcAt.kitB {t : Value} {n : String} (h : PySem.W.subIn K t (.type n) = some b) (hm : PySem.W.kitMeta n = true) (hs : (t == Value.type n) = false) : PySem.W.kitOne K t (.type n) = some b := by
  unfold PySem.W.kitOne
  rw [if_neg (by rw [hs]; exact Bool.false_ne_true)]
  show (if PySem.W.kitMeta n = true then PySem.W.subIn K t (.type n) else none) = some b
  rw [if_pos hm]
  exact h
theorem EcAt.exm (E : EcAt K mg D d) {t : Value} (h : PySem.W.subIn K t (.ref d) = some b) : PySem.W.exmOne K t (.ref d) = some b := PySem.W.exm_ref E.sb E.hd E.ty h
end
/-- which class is a subclass of which: of the text's, of the built-in ones -/
structure XT where
  own : List ((Str × Str) × Bool)
  blt : List ((Str × String) × Bool)
structure SubT (K : PySem.W.Frag) (mg : Str → Option Value) (T : XT) : Prop where
  own : ∀ p ∈ T.own, ∃ c d, EcAt K mg p.1.1 c ∧ mg p.1.2 = some (.ref d) ∧ PySem.W.kitOne K (.ref c) (.ref d) = some p.2
  blt : ∀ p ∈ T.blt, ∃ c, EcAt K mg p.1.1 c ∧ PySem.W.kitOne K (.ref c) (.type p.1.2) = some p.2
theorem lookup_mem {α β : Type} [BEq α] [LawfulBEq α] {k : α} {b : β} : ∀ {l : List (α × β)}, l.lookup k = some b → (k, b) ∈ l
  | [], h => by cases h
  | (a, c) :: l, h => by
    rw [List.lookup_cons] at h
    by_cases q : k = a
    · subst q
      rw [beq_self_eq_true] at h
      cases h
      exact List.mem_cons_self
    · rw [beq_eq_false_iff_ne.mpr q] at h
      exact List.mem_cons_of_mem _ (lookup_mem h)
/-- the class that an except clause names, and classes that it catches -/
structure HdlAt (K : PySem.W.Frag) (mg : Str → Option Value) (R : Str) (yes : List Str) : Prop where
  ex : ∃ r, mg R = some (.ref r) ∧ ∀ C ∈ yes, ∃ c, mg C = some (.ref c) ∧ PySem.W.exmOne K (.ref c) (.ref r) = some true

/-! ### raise C() -/
def raise0 (C : Str) : MS := fun ρ => .exc ⟨C, []⟩ ρ
theorem pmk_own0 {X : Cx} {C : Addr} {bmB : List Value} {B newId initId : String} {x : Str} {p pos : Pos} (F : ExcBaseFacts B newId initId bmB) (q : PySem.W.excIn X.K C bmB newId = true) (gC : X.mg x = some (.ref C)) (kC : PySem.W.keepIn X.K (.ref C) = true) (r : Raises X (.ref C)) (hg : Gl X x)
    (hdb : (x == ("__debug__" : Str)) = false := by decide) : L2N.PMk X (.Call (.Name x p) [] [] pos) (fun _ H Q => Q (.ref C) none H) := by
  intro pins s σ H Q I h
  refine wpAny_Call_Name_kw (ld_glob I hg gC ?_ hdb)
  refine PySem.W.callWith_K0 I.kIn kC ?_
  show wpAny _ _ (call (.ref C) []) _ _ _
  obtain ⟨bm, N, nm, qn, bs, hdct, sn, sub, ab, col, dd, k0, k1, k2, k3, k5, mN, hC, hN, hni, T⟩ := exc_obj I.kIn q
  refine wpAny_call_exc_subT F T hC hN hni (fun h' e hm => ?_) (Nat.zero_le _)
  exact L2N.mk_of I hm r h (I.hok.gone hm.new)
theorem st_raise0 {X : Cx} {W : WX} {C : Str} {p pos pos' : Pos} (hc : X.calm = true) (tk : L2N.Takes X W) (hg : Gl X C) (E : Ec0 X.K X.mg C) (hdb : (C == ("__debug__" : Str)) = false := by decide) :
    PSt X W (.Raise (some (.Call (.Name C p) [] [] pos)) none pos') (raise0 C) := by
  obtain ⟨c, E, q⟩ := E.ex
  refine PS.imp (L2N.ps_raise hc tk (pmk_own0 PySem.F.excBase_ValueError q E.g E.kp (raises_own E.sb E.ty) hg hdb)) fun D σ H ⟨G, F, ρ, ok, z⟩ => ?_
  exact z F H σ (.ref c) none (Same.refl F) ok ⟨E.g, .inl ⟨rfl, rfl⟩⟩

/-! ### try: body, except R as n: suite -/
def tryM (yes : List Str) (i : Nat) (mb ms : MS) : MS := fun ρ => match mb ρ with
  | .exc e ρ1 => if e.C ∈ yes ∧ i < ρ1.length then (match ms (ρ1.set i (some (.sh (.exn e.C e.fs)))) with
    | .nx ρ2 => .nx (ρ2.set i none) | .bk ρ2 => .bk (ρ2.set i none) | .ct ρ2 => .ct (ρ2.set i none) | _ => .bad) else .bad
  | o => o
section
variable {K : PySem.W.Frag} {mg : MG} {G : Gh} {F H : Hp} {σ : St} {ρ : Nv} {fp0 : List Addr}
theorem OkX.gone (k : OkX K mg G F H σ ρ fp0) (i : Nat) : OkX K mg G F H (σ.set i none) (ρ.set i none) fp0 := by
  obtain ⟨fp, e1, e2, e3, e4⟩ := (k.forget i).env
  refine ⟨⟨fun j => fp j, fun j => ?_, e2, e3, e4⟩, k.own, k.sub, k.pr, k.f0, k.fz, fun j o hj => ?_, (by rw [List.length_set, List.length_set]; exact k.len), k.nft⟩
  · by_cases c : j = i
    · subst c
      have := e1 j
      unfold SlotR at this ⊢
      by_cases hi : j < ρ.length
      · rw [List.getElem?_set_self hi] at this ⊢; exact this
      · rw [List.getElem?_eq_none (by rw [List.length_set]; omega)] at this ⊢; exact this
    · have := e1 j
      rw [List.getElem?_set_ne (Ne.symm c)]
      exact this
  · by_cases c : j = i
    · subst c
      by_cases hi : j < ρ.length
      · rw [List.getElem?_set_self hi] at hj; rcases hj with hj | hj <;> cases hj
      · rw [List.getElem?_eq_none (by rw [List.length_set]; omega)] at hj; rcases hj with hj | hj <;> cases hj
    · rw [List.getElem?_set_ne (Ne.symm c)] at hj ⊢
      exact k.pin j o hj
end
theorem st_try {X : Cx} {W : WX} {Rn n : Str} {i : Nat} {yes : List Str} {body suite : List Stmt} {b₀ : Stmt} {mb ms : MS} {np pos pos' : Pos} (hs : X.stack = X.env :: X.outer) (hf : X.env.frame = some X.env.locals) (hN : X.N.Nodup) (hi : X.N[i]? = some n) (hln : X.env.kindOf n = some .local) (hg : Gl X Rn)
    (E : HdlAt X.K X.mg Rn yes) (hb : ∀ (W : WX) (pn : List (Addr × Obj)) (xe : Value → Shared → Prop), L2N.Takes (X.tr pn xe) W → PassesOwn (model X.prog X.w) X.A X.env xe → PSts (X.tr pn xe) W body mb)
    (hsu : ∀ (a : Addr) (pn : List (Addr × Obj)), PSts (X.suite a pn) W0 (b₀ :: suite) ms) (hdb : (Rn == ("__debug__" : Str)) = false := by decide) :
    PSt X W (.Try body [.ExceptHandler (some (.Name Rn np)) (some n) (b₀ :: suite) pos'] [] [] pos) (tryM yes i mb ms) := by
  obtain ⟨r, gr, hy⟩ := E.ex
  refine PS.imp (ps_try_asK (tb := fun W => TSt X.K X.wg W mb) (ts := fun _ => TSt X.K X.wg W0 ms) hs hf hN hi hln ⟨hg, hdb, .inl gr⟩ hb hsu) fun D σ H ⟨G, F, ρ, ok, z⟩ => ?_
  refine ⟨G, F, ρ, ok, ?_⟩
  unfold tryM at z
  cases em : mb ρ with
  | nx ρ' => rw [em] at z; exact z
  | rt x ρ' => rw [em] at z; exact z
  | bk ρ' => rw [em] at z; exact z
  | ct ρ' => rw [em] at z; exact z
  | bad => rw [em] at z; exact z
  | exc e ρ1 =>
    rw [em] at z
    have z : PostS X.K X.wg W G F D (if e.C ∈ yes ∧ i < ρ1.length then (match ms (ρ1.set i (some (.sh (.exn e.C e.fs)))) with
      | .nx ρ2 => .nx (ρ2.set i none) | .bk ρ2 => .bk (ρ2.set i none) | .ct ρ2 => .ct (ρ2.set i none) | _ => .bad) else .bad) := z
    by_cases c : e.C ∈ yes ∧ i < ρ1.length
    · rw [if_pos c] at z
      intro F' H' σ' cls d s1 ok1 hx
      obtain ⟨hC, hx⟩ := hx
      obtain ⟨cc, gc, hm⟩ := hy e.C c.1
      have hC' : X.mg e.C = some cls := hC
      rw [gc] at hC'
      cases hC'
      refine ⟨hm, fun a oe na hz hd => ?_⟩
      have nF : F' a = none := Same.free ok1.sub na
      have g : Grow F' H' (upd F' a (.ext (isO a oe))) (upd H' a (.ext (isO a oe))) := by
        refine ⟨fun b o e => ?_, fun b o e => ?_, fun b o e => ?_, fun p e n => ?_⟩
        · rw [upd_ne (fun z => by subst z; rw [nF] at e; cases e)]; exact e
        · rw [upd_ne (fun z => by subst z; rw [na] at e; cases e)]; exact e
        · by_cases q : b = a
          · subst q; rw [upd_same] at e ⊢; exact e
          · rw [upd_ne q] at e ⊢; exact ok1.sub _ _ e
        · by_cases q : p = a
          · subst q; exact na
          · rw [upd_ne q] at n; exact absurd e n
      have rp : Rp X.K X.wg (upd F' a (.ext (isO a oe))) (.ref a) (.exn e.C e.fs) := by
        rcases hx with ⟨e1, e2⟩ | ⟨dd, vfs, e1, e2, e3⟩
        · rw [e1]; subst e2
          exact .exn0 hC upd_same hz hd
        · subst e1
          exact .exn1 hC upd_same hz hd (g.sub _ _ e2) (e3.mono g.sub)
      have ok2 : Ok X.K X.wg G (upd F' a (.ext (isO a oe))) (upd H' a (.ext (isO a oe))) (σ'.set i (some (.ref a))) (ρ1.set i (some (.sh (.exn e.C e.fs)))) :=
        OkX.set (Ok.grow ok1 g) c.2 (.sh rp) List.nodup_nil fun o => ⟨(fun z => by cases z), (fun z => by cases z)⟩
      refine ⟨G, _, _, ok2, ?_⟩
      cases es : ms (ρ1.set i (some (.sh (.exn e.C e.fs)))) with
      | nx ρ2 => rw [es] at z; exact fun F3 H3 σ3 s3 ok3 => z F3 H3 _ ((s1.trans g.sub).trans s3) (OkX.gone ok3 i)
      | bk ρ2 => rw [es] at z; exact fun F3 H3 σ3 s3 ok3 => z F3 H3 _ ((s1.trans g.sub).trans s3) (OkX.gone ok3 i)
      | ct ρ2 => rw [es] at z; exact fun F3 H3 σ3 s3 ok3 => z F3 H3 _ ((s1.trans g.sub).trans s3) (OkX.gone ok3 i)
      | rt x ρ2 => rw [es] at z; exact z.elim
      | exc e ρ2 => rw [es] at z; exact z.elim
      | bad => rw [es] at z; exact z.elim
    · rw [if_neg c] at z; exact z.elim

/-! ### isinstance(e, C), of a kept exception -/
theorem px_cls {X : Cx} {W : WX} {C : Str} {pos : Pos} (hg : Gl X C) (hm : ∃ c, EcAt X.K X.mg C c) (hd : (C == ("__debug__" : Str)) = false := by decide) : PX X W (.Name C pos) true (pureM (.sh (.cls C))) := by
  obtain ⟨c, E⟩ := hm
  exact px_pure (pe_glob (v := .ref c) hg E.g rfl hd) fun _ _ _ => .sh (.cls E.g)
section
variable {X : Cx} {pins : List (Addr × Obj)} {σ : L2.St} {H : Hp} {s : Shared} {a D : Addr} {oe : Obj} {dd : Option Addr}
theorem inst_of (I : Inv X pins σ H s) (ha : H a = some (.ext (isO a oe))) (hz : Zc (.ref D) dd oe) (hf : ∃ vs, oe.data = .fields vs) (hd : ∀ d, dd = some d → ∃ vfs, H d = some (.xd vfs)) : ∃ od, PySem.W.InstAt s.heap a oe D od := by
  obtain ⟨hget, _⟩ := (show ObjOk X.prog X.w H s.heap a (.ext (isO a oe)) from I.hok a _ ha)
  obtain ⟨vs, hv⟩ := hf
  cases dd with
  | none => exact ⟨none, hget, hz.1, (by unfold PySem.W.notCls; rw [hv]), by rw [hz.2]; exact True.intro⟩
  | some d =>
    obtain ⟨vfs, hx⟩ := hd d rfl
    obtain ⟨_, ⟨o, _, _, e, _⟩, _⟩ := (show ObjOk X.prog X.w H s.heap d (.xd vfs) from I.hok d _ hx)
    exact ⟨some o, hget, hz.1, (by unfold PySem.W.notCls; rw [hv]), by rw [hz.2]; exact e⟩
end
/-- an exception, its class at D -/
def ExnV (K : PySem.W.Frag) (mg : Str → Option Value) (H : Hp) (x : V) (D : Addr) : Prop := ∃ a oe dd, x = .ref a ∧ H a = some (.ext (isO a oe)) ∧ Zc (.ref D) dd oe ∧ (∃ vs, oe.data = .fields vs) ∧ (∀ d, dd = some d → ∃ vfs, H d = some (.xd vfs)) ∧ ∃ C, EcAt K mg C D
theorem call_isK {X : Cx} : CallR X (.builtin "isinstance") (fun xs H Q => ∃ x D c cv b, xs = [x, c] ∧ ExnV X.K X.mg H x D ∧ (∀ u, RelV c u → u = cv) ∧ PySem.W.kitOne X.K (.ref D) cv = some b ∧ Q (.bl b) H) := by
  intro pins s σ H xs us Q I r h
  obtain ⟨x, D, c, cv, b, rfl, ⟨a, oe, dd, rfl, ha, hz, hf, hd, C, E⟩, hcv, e, q⟩ := h
  cases r with
  | cons rx rr =>
    cases rr with
    | cons rt rr =>
      cases rr
      cases rx
      have ec := hcv _ rt
      subst ec
      obtain ⟨od, J⟩ := inst_of I ha hz hf hd
      exact PySem.W.kia_one (PySem.W.kitx_exc E.isCls E.ga E.gg E.sb E.ha E.hn E.ht E.hm) I.kIn J e (fun z => nomatch z) fun tk => ⟨.bl b, H, I.kept (t' := tk) fun _ _ z => z, rfl, q⟩
theorem call_isKT {X : Cx} : CallR X (.builtin "isinstance") (fun xs H Q => ∃ x D t cs b, xs = [x, .ref t] ∧ ExnV X.K X.mg H x D ∧ H t = some (.tup cs) ∧ (∀ us, Vals cs us → PySem.W.kitAny X.K (.ref D) us = some b) ∧ Q (.bl b) H) := by
  intro pins s σ H xs us Q I r h
  obtain ⟨x, D, t, cs, b, rfl, ⟨a, oe, dd, rfl, ha, hz, hf, hd, C, E⟩, ht, hcv, q⟩ := h
  cases r with
  | cons rx rr =>
    cases rr with
    | cons rt rr =>
      cases rr
      cases rx
      cases rt
      obtain ⟨od, J⟩ := inst_of I ha hz hf hd
      obtain ⟨_, its, rv, o, ho, hc, n, hdat⟩ := (show ObjOk X.prog X.w H s.heap t (.tup cs) from I.hok t _ ht)
      have e := hcv its rv
      obtain ⟨oc, odi, oda, osl⟩ := o
      dsimp only at hc hdat
      subst hc hdat
      exact PySem.W.kia_tup (PySem.W.kitx_exc E.isCls E.ga E.gg E.sb E.ha E.hn E.ht E.hm) I.kIn J ho e (fun z => nomatch z) fun tk => ⟨.bl b, H, I.kept (t' := tk) fun _ _ z => z, rfl, q⟩
def XT.ask (T : XT) (C : Str) : D → Option Bool
  | .cls D => T.own.lookup (C, D) | .ty n => T.blt.lookup (C, n) | _ => none
def XT.any (T : XT) (C : Str) : List D → Option Bool
  | [] => some false
  | d :: ds => match T.ask C d with
    | some true => some true
    | some false => T.any C ds
    | none => none
def gIsx1 (T : XT) (x y : SV) : Option SV := match x.data with
  | .exn C _ => match y.data with
    | .tup ds => if ds = [] then none else (T.any C ds).map fun b => .sh (.bl b)
    | d => (T.ask C d).map fun b => .sh (.bl b)
  | _ => none
abbrev gIsx (T : XT) := un2 (gIsx1 T)
section
variable {X : Cx} {T : XT}
theorem exnv_of {F H : Hp} {v : V} {C : Str} {fs : List (Str × D)} {c : Addr} (h : Rp X.K X.wg F v (.exn C fs)) (s : Same F H) (E : EcAt X.K X.mg C c) : ExnV X.K X.mg H v c := by
  cases h with
  | exn0 g h z f =>
    have g : X.mg C = some _ := g
    rw [E.g] at g; cases g
    exact ⟨_, _, _, rfl, s _ _ h, z, f, (fun d q => by cases q), C, E⟩
  | exn1 g h z f q r =>
    have g : X.mg C = some _ := g
    rw [E.g] at g; cases g
    exact ⟨_, _, _, rfl, s _ _ h, z, f, (fun d e => by cases e; exact ⟨_, s _ _ q⟩), C, E⟩
theorem EcAt.uniq {K : PySem.W.Frag} {mg : Str → Option Value} {C : Str} {c d : Addr} (h : EcAt K mg C c) (h2 : EcAt K mg C d) : c = d := by
  have := h.g.symm.trans h2.g
  cases this; rfl
/-- a class's value, as isinstance asks -/
theorem SubT.kit1 (S : SubT X.K X.mg T) {C : Str} {b : Bool} {d : D} {F : Hp} {v : V} (hl : T.ask C d = some b) (hv : Rp X.K X.wg F v d) : ∃ c, EcAt X.K X.mg C c ∧ ∃ cv, (∀ u, RelV v u → u = cv) ∧ PySem.W.kitOne X.K (.ref c) cv = some b := by
  cases hv with
  | cls g =>
    obtain ⟨c, d, E, gd, k⟩ := S.own _ (lookup_mem hl)
    have g : X.mg _ = some _ := g
    have gd : X.mg _ = some _ := gd
    rw [gd] at g; cases g
    exact ⟨c, E, .ref _, fun u r => r, k⟩
  | ty n =>
    obtain ⟨c, E, k⟩ := S.blt _ (lookup_mem hl)
    exact ⟨c, E, .type n, fun u r => r, k⟩
  | _ => cases hl
theorem SubT.kits (S : SubT X.K X.mg T) {C : Str} {c : Addr} (E : EcAt X.K X.mg C c) {F : Hp} : ∀ {ds : List D} {vs : List V} {b : Bool}, T.any C ds = some b → Rps X.K X.wg F vs ds → ∀ us, Vals vs us → PySem.W.kitAny X.K (.ref c) us = some b
  | [], _, b, h, .nil => fun us r => by cases r; cases h; rfl
  | d :: ds, _, b, h, .cons hd hr => fun us r => by
    unfold XT.any at h
    cases e : T.ask C d with
    | none => rw [e] at h; cases h
    | some b1 =>
      obtain ⟨c', E', cv, hc, hk⟩ := S.kit1 e hd
      cases E'.uniq E
      rw [e] at h
      cases r with
      | cons a t =>
        rw [hc _ a]
        unfold PySem.W.kitAny
        rw [hk]
        cases b1 with
        | true => cases h; rfl
        | false => exact SubT.kits S E h hr _ t
theorem SubT.ec (S : SubT X.K X.mg T) {C : Str} : ∀ {ds : List D} {b : Bool}, ds ≠ [] → T.any C ds = some b → ∃ c, EcAt X.K X.mg C c
  | [], _, h, _ => absurd rfl h
  | d :: ds, b, _, h => by
    unfold XT.any at h
    cases e : T.ask C d with
    | none => rw [e] at h; cases h
    | some b1 =>
      cases d with
      | cls D =>
        obtain ⟨c, d, E, _⟩ := S.own _ (lookup_mem (show T.own.lookup (C, D) = some b1 from e))
        exact ⟨c, E⟩
      | ty n =>
        obtain ⟨c, E, _⟩ := S.blt _ (lookup_mem (show T.blt.lookup (C, n) = some b1 from e))
        exact ⟨c, E⟩
      | _ => cases e
theorem cg_isx (S : SubT X.K X.mg T) : CallG X (CallR X (.builtin "isinstance")) (gIsx T) := by
  refine cg2 fun Pr F H x y v w z Q s p rx ry e k => ?_
  unfold gIsx1 at e
  have px : ∀ {C : Str} {fs : List (Str × D)}, x.data = .exn C fs → Rp X.K X.wg F v (.exn C fs) := fun {C fs} ex => by
    have key : ∀ {o : O} {fq : List Addr} {H : Hp}, Ow X.K X.wg F H v o fq → o.data ≠ .exn C fs := fun {o fq H} h e => by cases h <;> cases e
    cases rx with
    | sh h => cases (show _ = D.exn C fs from ex); exact h
    | own h n => exact absurd ex (key h)
    | bo h => exact absurd ex (key h)
    | tr h => exact absurd ex (key h)
  split at e
  · rename_i C fs ex
    have hx := px ex
    have hy := ry.rp s p
    split at e
    · rename_i ds ey
      by_cases c : ds = []
      · rw [if_pos c] at e; cases e
      · rw [if_neg c] at e
        cases ea : T.any C ds with
        | none => rw [ea] at e; cases e
        | some b =>
          rw [ea] at e
          cases e
          obtain ⟨cc, E⟩ := S.ec c ea
          rw [ey] at hy
          cases hy with
          | tup ht r => exact ⟨_, call_isKT, v, cc, _, _, b, rfl, exnv_of hx s E, ht, S.kits E ea r, give rfl rfl s k⟩
    · cases ea : T.ask C y.data with
      | none => rw [ea] at e; cases e
      | some b =>
        rw [ea] at e
        cases e
        obtain ⟨cc, E, cv, hc, hk⟩ := S.kit1 ea hy
        exact ⟨_, call_isK, v, cc, w, cv, b, rfl, exnv_of hx s E, hc, hk, give rfl rfl s k⟩
  · cases e
end
end R

/-! R26: sum of a list of ints, list.extend, dict.get with a default. -/
namespace R
open PySem PySem.Spec PyProof.Rows L2
section
variable {X : Cx}
/-! ### sum -/
def gSum1 (x : SV) : Option SV := match x.data with
  | .lst ds => (D.ints ds).map fun ns => .sh (.int ns.sum)
  | _ => none
abbrev gSum := un1 gSum1
theorem cg_sum (hc : X.calm = true) : CallG X (CallR X (.builtin "sum")) gSum := by
  refine cg1 fun Pr F H x v z Q s p rx e k => ?_
  unfold gSum1 at e
  split at e
  · rename_i ds ex
    cases en : D.ints ds with
    | none => rw [en] at e; cases e
    | some ns =>
      rw [en] at e
      cases e
      have rd := rx.rp s p
      rw [ex] at rd
      cases rd with
      | lst hs rs =>
        have e3 := D.ints_eq en
        subst e3
        have e4 := rps_ints_inv rs
        subst e4
        exact ⟨_, cr_sum hc, _, ns, rfl, .inl (.inl hs), give rfl rfl s k⟩
  · cases e
/-! ### extend -/
def gExtend (o : O) (xs : List SV) : Option (SV × O) := match o, xs with
  | .lst ds, [.sh (.lst es)] => if ds.length + es.length ≤ sizeLine then some (.sh .non, .lst (ds ++ es)) else none
  | _, _ => none
theorem rps_app {K : PySem.W.Frag} {mg : MG} {F : Hp} : ∀ {vs : List V} {ds : List D} {ws : List V} {es : List D}, Rps K mg F vs ds → Rps K mg F ws es → Rps K mg F (vs ++ ws) (ds ++ es)
  | _, _, _, _, .nil, h => h
  | _, _, _, _, .cons h r, h2 => .cons h (rps_app r h2)
theorem mg_extend : MutG X (MtR X "list.extend") gExtend := by
  intro Pr F H a o xs vs z o' Q s p hF how r e k
  unfold gExtend at e
  split at e
  · rename_i ds es
    split at e
    · rename_i c
      cases e
      obtain ⟨ws, h, rs⟩ := Ow.lst_of how
      obtain ⟨v, rfl, rv⟩ := xs1 r
      cases rv with
      | sh rv =>
        cases rv with
        | @lst b us _ hb rb =>
          exact ⟨_, mt_extend, a, b, ws, us, rfl, rfl, h, s _ _ hb, by rw [Rps.length rs, Rps.length rb]; exact c, k _ _ ⟨_, rfl⟩ (.lst upd_same (rps_app rs rb)) (.sh .non)⟩
    · cases e
  · cases e
/-! ### dict.get(k, x) -/
def dgetM (mo ma md : M SV) : M SV := fun ρ => (mo ρ).bind fun x ρ1 => match x.data with
  | .dic 0 ps => (ma ρ1).bind fun y ρ2 => match y.data.dkey 0 with
    | some k => (md ρ2).bind fun d ρ3 => match dget ps k, d with
      | some e, _ => .ok (.sh e) ρ3
      | none, .sh d => .ok (.sh d) ρ3
      | _, _ => .bad
    | none => .bad
  | _ => .bad
variable {W : WX} {q : Bool} {o e f : Expr} {apos cpos : Pos} {mo ma md : M SV}
theorem px_dget (hu : X.A.units + 65 < cLine) (ho : PX X W o q mo) (ha : PX X W e true ma) (hd : PX X W f true md) (m : M2 X o "get" apos e f cpos) :
    PX X W (.Call (.Attribute o "get" apos) [e, f] [] cpos) q (dgetM mo ma md) := PE.imp (pe_dget2 (by omega) ho ha hd m) fun σ H Q ⟨G, F, ρ, ok, z⟩ => by
  unfold dgetM at z
  refine T.bind ok z fun x ρ1 F1 H1 v fp0 e1 s1 s2 k1 rx z => ?_
  split at z
  · rename_i ps ex
    obtain ⟨a, rfl, h⟩ := rx.dict k1.pr k1.sub ex
    have hD : IsD H1 a := by
      rcases h with ⟨_, kvs, hk, _⟩ | ⟨hz, _⟩ | ⟨hz, _⟩
      · exact .inl ⟨kvs, .inl hk⟩
      · cases hz
      · cases hz
    refine ⟨a, rfl, hD, ?_⟩
    refine T.bind k1.drop (Post.adv s1 s2 z) fun y ρ2 F2 H2 w fp2 e2 s3 s4 k2 ry z => ?_
    cases ek : y.data.dkey 0 with
    | none => rw [ek] at z; exact z.elim
    | some k =>
      rw [ek] at z
      refine T.bind k2.drop (Post.adv s3 (fun e => s4 rfl) z) fun d ρ3 F3 H3 u fp3 e3 s5 s6 k3 rd z => ?_
      have rx3 := rx.same (s3.trans s5) ((s4 rfl).trans (s6 rfl))
      have ry3 := ry.same s5 (s6 rfl)
      obtain ⟨b, o', eb, g, h⟩ := dget_of k3.pr k3.sub rx3 ry3 ex ek
      cases eb
      have g : DGet H3 a w o' := by
        rcases g with g | ⟨xs, kk, b, hx, _⟩
        · exact g
        · exfalso
          obtain ⟨a', ea, h3⟩ := rx3.dict k3.pr k3.sub ex
          cases ea
          rcases h3 with ⟨_, kvs, hk, _⟩ | ⟨hz, _⟩ | ⟨hz, _⟩
          · rw [hk] at hx; cases hx
          · cases hz
          · cases hz
      refine ⟨o', g, ?_⟩
      rcases h with ⟨e4, e5⟩ | ⟨v2, d2, e4, e5, r2⟩
      · subst e4
        rw [e5] at z
        cases d with
        | sh dd =>
          have z : Post X.K X.wg (relX X.K X.wg) W _ F3 H3 σ q Q (.ok (.sh dd) ρ3) := Post.adv s5 (fun e => s6 rfl) z
          exact z F3 H3 u fp3 (Same.refl _) (fun _ => Same.refl _) k3 rd
        | _ => exact z.elim
      · subst e4
        rw [e5] at z
        have z : Post X.K X.wg (relX X.K X.wg) W _ F3 H3 σ q Q (.ok (.sh d2) ρ3) := Post.adv s5 (fun e => s6 rfl) z
        exact z F3 H3 v2 [] (Same.refl _) (fun _ => Same.refl _) k3.drop (.sh r2)
  · exact z.elim
end
end R

/-! M1: what a mirror gives, read off it (no program in sight). -/
namespace R
open PySem PySem.Spec PyProof.Rows L2
def Res.wp {S A : Type} (r : Res S A) (Q : A → S → Prop) (E : Ex → S → Prop) : Prop := match r with
  | .ok a s => Q a s | .exc e s => E e s | .bad => False
def Out.wp (o : Out) (N : Nv → Prop) (L : Out → Prop) : Prop := match o with
  | .nx ρ => N ρ | .bad => False | .rt x ρ => L (.rt x ρ) | .bk ρ => L (.bk ρ) | .ct ρ => L (.ct ρ) | .exc e ρ => L (.exc e ρ)
def gP {A : Type} (o : Option A) (k : A → Prop) : Prop := match o with | some z => k z | none => False
section
variable {S A B : Type} {Q Q' : A → S → Prop} {E E' : Ex → S → Prop}
theorem wp_ok {a : A} {s : S} : (Res.ok a s : Res S A).wp Q E = Q a s := rfl
theorem wp_exc {e : Ex} {s : S} : (Res.exc e s : Res S A).wp Q E = E e s := rfl
theorem gP_some {a : A} {k : A → Prop} : gP (some a) k = k a := rfl
theorem gP_none {k : A → Prop} : gP none k = False := rfl
theorem gP_map {o : Option B} {f : B → A} {k : A → Prop} : gP (o.map f) k = gP o fun b => k (f b) := by cases o <;> rfl
theorem gP_ite {c : Prop} [Decidable c] {a : Option A} {k : A → Prop} : gP (if c then a else none) k = (c ∧ gP a k) := by
  by_cases h : c
  · rw [if_pos h]; exact propext ⟨fun z => ⟨h, z⟩, fun z => z.2⟩
  · rw [if_neg h]; exact propext ⟨fun z => z.elim, fun z => h z.1⟩
theorem gP_imp {o : Option A} {k k' : A → Prop} (h : gP o k) (j : ∀ a, k a → k' a) : gP o k' := by
  cases o with
  | none => exact h
  | some a => exact j a h
theorem gP_ex {o : Option A} {k : A → Prop} : gP o k = ∃ a, o = some a ∧ k a := by
  cases o with
  | none => exact propext ⟨fun h => h.elim, fun ⟨_, h, _⟩ => by cases h⟩
  | some a => exact propext ⟨fun h => ⟨a, rfl, h⟩, fun ⟨_, h, k⟩ => by cases h; exact k⟩
theorem Res.wp.imp {r : Res S A} (h : r.wp Q E) (k : ∀ a s, Q a s → Q' a s) (l : ∀ e s, E e s → E' e s) : r.wp Q' E' := by
  cases r with
  | ok a s => exact k a s h
  | exc e s => exact l e s h
  | bad => exact h
theorem Res.wp.ok {r : Res S A} (h : r.wp Q fun _ _ => False) : ∃ a s, r = .ok a s ∧ Q a s := by
  cases r with
  | ok a s => exact ⟨a, s, rfl, h⟩
  | exc e s => exact h.elim
  | bad => exact h.elim
theorem Out.wp.imp {o : Out} {N N' : Nv → Prop} {L L' : Out → Prop} (h : o.wp N L) (k : ∀ ρ, N ρ → N' ρ) (l : ∀ o, L o → L' o) : o.wp N' L' := by
  cases o with
  | nx ρ => exact k ρ h
  | bad => exact h
  | rt x ρ => exact l _ h
  | bk ρ => exact l _ h
  | ct ρ => exact l _ h
  | exc e ρ => exact l _ h
theorem wp_bind {r : Res S A} {f : A → S → Res S B} {Q : B → S → Prop} : (r.bind f).wp Q E = r.wp (fun a s => (f a s).wp Q E) E := by cases r <;> rfl
end
section
variable {ρ : Nv} {i n : Nat} {x : SV} {d : D} {o : O} {Q : SV → Nv → Prop} {E : Ex → Nv → Prop} {ma mb m : M SV} {ms : M (List SV)} {QA : List SV → Nv → Prop} {QB : Bool → Nv → Prop} {ta tb t : M Bool}
def vP (x : Option (Option SV)) (k : SV → Prop) : Prop := match x with
  | some (some (.sh d)) => k (.sh d) | some (some (.own o)) => k (.tr o) | some (some (.io o)) => k (.tr o) | some (some (.bo o)) => k (.bo o) | _ => False
def vF (x : Option (Option SV)) (k : SV → Prop) (l : O → Prop) : Prop := match x with
  | some (some (.sh d)) => k (.sh d) | some (some (.own o)) => l o | _ => False
theorem vP_sh {k : SV → Prop} : vP (some (some (.sh d))) k = k (.sh d) := rfl
theorem vP_own {k : SV → Prop} : vP (some (some (.own o))) k = k (.tr o) := rfl
theorem vP_io {k : SV → Prop} : vP (some (some (.io o))) k = k (.tr o) := rfl
theorem vP_bo {k : SV → Prop} : vP (some (some (.bo o))) k = k (.bo o) := rfl
theorem vF_sh {k : SV → Prop} {l : O → Prop} : vF (some (some (.sh d))) k l = k (.sh d) := rfl
theorem vF_own {k : SV → Prop} {l : O → Prop} : vF (some (some (.own o))) k l = l o := rfl
theorem w_pure : (pureM x ρ).wp Q E = Q x ρ := rfl
theorem w_var : (varM i ρ).wp Q E = vP ρ[i]? fun x => Q x ρ := by
  unfold varM vP
  cases ρ[i]? with
  | none => rfl
  | some x => cases x with
    | none => rfl
    | some x => cases x <;> rfl
theorem w_varF : (varF i ρ).wp Q E = vF ρ[i]? (fun x => Q x ρ) fun o => Q (.sh o.data) (ρ.set i (some (.sh o.data))) := by
  unfold varF vF
  cases ρ[i]? with
  | none => rfl
  | some x => cases x with
    | none => rfl
    | some x => cases x <;> rfl
theorem w_varO : (varO i ρ).wp Q E = vF ρ[i]? (fun x => Q x ρ) fun o => Q (.own o) (ρ.set i none) := by
  unfold varO vF
  cases ρ[i]? with
  | none => rfl
  | some x => cases x with
    | none => rfl
    | some x => cases x <;> rfl
def fzP (x : SV) (k : D → Prop) : Prop := match x with | .sh d => k d | .own o => k o.data | _ => False
theorem fzP_sh {k : D → Prop} : fzP (.sh d) k = k d := rfl
theorem fzP_own {k : D → Prop} : fzP (.own o) k = k o.data := rfl
theorem w_frz : (frzM m ρ).wp Q E = (m ρ).wp (fun x ρ1 => fzP x fun d => Q (.sh d) ρ1) E := by
  unfold frzM
  rw [wp_bind]
  congr 1
  funext x ρ1
  cases x <;> rfl
theorem w_op2 {g : SV → SV → Option SV} : (op2 g ma mb ρ).wp Q E = (ma ρ).wp (fun x ρ1 => (mb ρ1).wp (fun y ρ2 => gP (g x y) fun z => Q z ρ2) E) E := by
  unfold op2
  rw [wp_bind]
  congr 1
  funext x ρ1
  rw [wp_bind]
  congr 1
  funext y ρ2
  cases g x y <;> rfl
theorem if_and {c p : Prop} [Decidable c] : (if c then p else False) = (c ∧ p) := by
  by_cases h : c
  · rw [if_pos h]; exact propext ⟨fun z => ⟨h, z⟩, fun z => z.2⟩
  · rw [if_neg h]; exact propext ⟨fun z => z.elim, fun z => h z.1⟩
theorem wp_ite {S A : Type} {c : Prop} [Decidable c] {a b : Res S A} {Q : A → S → Prop} {E : Ex → S → Prop} : (if c then a else b).wp Q E = if c then a.wp Q E else b.wp Q E := by
  by_cases h : c
  · rw [if_pos h, if_pos h]
  · rw [if_neg h, if_neg h]
theorem w_op2c {g : SV → SV → Option SV} : (op2c g ma mb ρ).wp Q E = (ma ρ).wp (fun x ρ1 => x.st = true ∧ (mb ρ1).wp (fun y ρ2 => gP (g x y) fun z => Q z ρ2) E) E := by
  unfold op2c
  rw [wp_bind]
  congr 1
  funext x ρ1
  rw [wp_ite, show (Res.bad : Res Nv SV).wp Q E = False from rfl, if_and, wp_bind]
  congr 2
  funext y ρ2
  cases g x y <;> rfl
theorem w_op1 {g : SV → Option SV} : (op1 g ma ρ).wp Q E = (ma ρ).wp (fun x ρ1 => gP (g x) fun z => Q z ρ1) E := by
  unfold op1
  rw [wp_bind]
  congr 1
  funext x ρ1
  cases g x <;> rfl
theorem w_opA {g : List SV → Option SV} : (opA g ms ρ).wp Q E = (ms ρ).wp (fun xs ρ1 => gP (g xs) fun z => Q z ρ1) E := by
  unfold opA
  rw [wp_bind]
  congr 1
  funext x ρ1
  cases g x <;> rfl
theorem w_a0 : (a0 ρ).wp QA E = QA [] ρ := rfl
theorem w_a1 : (a1 m ms ρ).wp QA E = (m ρ).wp (fun x ρ1 => x.arg = true ∧ (ms ρ1).wp (fun xs ρ2 => QA (x :: xs) ρ2) E) E := by
  unfold a1
  rw [wp_bind]
  congr 1
  funext x ρ1
  rw [wp_ite, show (Res.bad : Res Nv (List SV)).wp QA E = False from rfl, if_and, wp_bind]
  rfl
theorem w_a1c : (a1c m ms ρ).wp QA E = (m ρ).wp (fun x ρ1 => x.st = true ∧ (ms ρ1).wp (fun xs ρ2 => QA (x :: xs) ρ2) E) E := by
  unfold a1c
  rw [wp_bind]
  congr 1
  funext x ρ1
  rw [wp_ite, show (Res.bad : Res Nv (List SV)).wp QA E = False from rfl, if_and, wp_bind]
  rfl
theorem w_valT : (valT m ρ).wp QB E = (m ρ).wp (fun x ρ1 => gP x.isB fun b => QB b ρ1) E := by
  unfold valT
  rw [wp_bind]
  congr 1
  funext x ρ1
  cases x.isB <;> rfl
theorem w_andT : (andT ta tb ρ).wp QB E = (ta ρ).wp (fun c ρ1 => if c = true then (tb ρ1).wp QB E else QB false ρ1) E := by
  unfold andT
  rw [wp_bind]
  congr 1
  funext c ρ1
  cases c <;> rfl
theorem w_orT : (orT ta tb ρ).wp QB E = (ta ρ).wp (fun c ρ1 => if c = true then QB true ρ1 else (tb ρ1).wp QB E) E := by
  unfold orT
  rw [wp_bind]
  congr 1
  funext c ρ1
  cases c <;> rfl
theorem w_notT : (notT ta ρ).wp QB E = (ta ρ).wp (fun c ρ1 => QB (!c) ρ1) E := by
  unfold notT
  rw [wp_bind]
  rfl
theorem w_andV : (andV ma mb ρ).wp Q E = (ma ρ).wp (fun x ρ1 => gP x.isB fun c => if c = true then (mb ρ1).wp Q E else Q (.sh (.bl false)) ρ1) E := by
  unfold andV
  rw [wp_bind]
  congr 1
  funext x ρ1
  cases x.isB with
  | none => rfl
  | some c => cases c <;> rfl
theorem w_orV : (orV ma mb ρ).wp Q E = (ma ρ).wp (fun x ρ1 => gP x.isB fun c => if c = true then Q (.sh (.bl true)) ρ1 else (mb ρ1).wp Q E) E := by
  unfold orV
  rw [wp_bind]
  congr 1
  funext x ρ1
  cases x.isB with
  | none => rfl
  | some c => cases c <;> rfl
theorem w_notV : (notV ma ρ).wp Q E = (ma ρ).wp (fun x ρ1 => gP x.isB fun c => Q (.sh (.bl (!c))) ρ1) E := by
  unfold notV
  rw [wp_bind]
  congr 1
  funext x ρ1
  cases x.isB <;> rfl
theorem w_ifV : (ifV t ma mb ρ).wp Q E = (t ρ).wp (fun c ρ1 => if c = true then (ma ρ1).wp Q E else (mb ρ1).wp Q E) E := by
  unfold ifV
  rw [wp_bind]
  congr 1
  funext c ρ1
  cases c <;> rfl
theorem w_call {f : MF} : (callM n f ms ρ).wp Q E = (ms ρ).wp (fun xs ρ1 => xs.all SV.arg = true ∧ xs.length = n ∧ (f (xs.map SV.toArg)).wp (fun r _ => Q r ρ1) fun e _ => E e ρ1) E := by
  unfold callM
  rw [wp_bind]
  congr 1
  funext xs ρ1
  rw [wp_ite, show (Res.bad : Res Nv SV).wp Q E = False from rfl, if_and, and_assoc]
  congr 2
  cases f (xs.map SV.toArg) <;> rfl
theorem w_sl {lo hi : M (Option Int)} : (slM m lo hi ρ).wp Q E = (m ρ).wp (fun x ρ1 => (lo ρ1).wp (fun l ρ2 => (hi ρ2).wp (fun h ρ3 => gP (gSl x l h) fun z => Q z ρ3) E) E) E := by
  unfold slM
  rw [wp_bind]
  congr 1
  funext x ρ1
  rw [wp_bind]
  congr 1
  funext l ρ2
  rw [wp_bind]
  congr 1
  funext h ρ3
  cases gSl x l h <;> rfl
theorem w_oNone {QO : Option Int → Nv → Prop} : (oNone ρ).wp QO E = QO none ρ := rfl
def D.int? (d : D) : Option Int := match d with | .int i => some i | _ => none
theorem w_oSome {QO : Option Int → Nv → Prop} : (oSome m ρ).wp QO E = (m ρ).wp (fun x ρ1 => gP x.data.int? fun i => QO (some i) ρ1) E := by
  unfold oSome
  rw [wp_bind]
  congr 1
  funext x ρ1
  cases x.data <;> rfl
theorem w_comp {tg : Tg} {it : M (List D)} {c : M Bool} {e : M SV} : (compM tg it c e ρ).wp Q E = (it ρ).wp (fun ds ρ1 => plainAt ρ1 tg.slots = true ∧ (compL tg c e ds [] (wipeN ρ1 tg.slots)).wp (fun acc ρ2 => Q (.own (.lst acc)) (putBack ρ1 ρ2 tg.slots)) E) E := by
  unfold compM
  rw [wp_bind]
  congr 1
  funext ds ρ1
  rw [wp_ite, show (Res.bad : Res Nv SV).wp Q E = False from rfl, if_and, wp_bind]
  rfl
theorem w_mut {p : Pl} {Ty : String} {g : O → List SV → Option (SV × O)} : (mutM p Ty g ms ρ).wp Q E = gP (getPl p ρ) fun o => o.ty = Ty ∧ (ms ρ).wp (fun xs ρ1 => gP (getPl p ρ1) fun o1 => gP (g o1 xs) fun r => Q r.1 (putPl p r.2 ρ1)) E := by
  unfold mutM
  cases getPl p ρ with
  | none => rfl
  | some o =>
    show (if o.ty = Ty then _ else Res.bad : Res Nv SV).wp Q E = _
    rw [wp_ite, show (Res.bad : Res Nv SV).wp Q E = False from rfl, if_and, wp_bind]
    show _ = (_ ∧ _)
    congr 2
    funext xs ρ1
    cases getPl p ρ1 with
    | none => rfl
    | some o1 =>
      show Res.wp (match g o1 xs with | some (z, o2) => _ | none => _) Q E = gP (g o1 xs) _
      cases g o1 xs with
      | none => rfl
      | some r => rfl
theorem w_mut0 {p : Pl} {Ty : String} {g : O → List SV → Option (SV × O)} : (mut0 p Ty g ρ).wp Q E = gP (getPl p ρ) fun o => o.ty = Ty ∧ gP (g o []) fun r => Q r.1 (putPl p r.2 ρ) := by
  unfold mut0
  rw [w_mut]
  cases e : getPl p ρ with
  | none => rfl
  | some o =>
    show (_ ∧ _) = (_ ∧ _)
    rw [w_a0, e]
    rfl
theorem w_itM {QD : List D → Nv → Prop} : (itM m ρ).wp QD E = (m ρ).wp (fun x ρ1 => gP x.data.walk fun ds => x.st = true ∧ QD ds ρ1) E := by
  unfold itM
  rw [wp_bind]
  congr 1
  funext x ρ1
  cases x.data.walk with
  | none => rfl
  | some ds =>
    show (if x.st = true then _ else _ : Res Nv (List D)).wp QD E = (_ ∧ _)
    rw [wp_ite, show (Res.bad : Res Nv (List D)).wp QD E = False from rfl, if_and]
    rfl
theorem w_itT {QD : List D → Nv → Prop} : (itT m ρ).wp QD E = (m ρ).wp (fun x ρ1 => gP x.data.walk fun ds => QD ds ρ1) E := by
  unfold itT
  rw [wp_bind]
  congr 1
  funext x ρ1
  cases x.data.walk <;> rfl
theorem w_itA {g : List SV → Option (List D)} {QD : List D → Nv → Prop} : (itA g ms ρ).wp QD E = (ms ρ).wp (fun x ρ1 => gP (g x) fun ds => QD ds ρ1) E := by
  unfold itA
  rw [wp_bind]
  congr 1
  funext x ρ1
  cases g x <;> rfl
theorem w_yes : (yesM ρ).wp QB E = QB true ρ := rfl
def shP (x : SV) (k : D → Prop) : Prop := match x with | .sh d => k d | _ => False
theorem shP_sh {k : D → Prop} : shP (.sh d) k = k d := rfl
theorem w_p0 {QP : List (DKey × D) → Nv → Prop} : (p0 ρ).wp QP E = QP [] ρ := rfl
theorem w_p1 {k : DKey} {r : PsM} {QP : List (DKey × D) → Nv → Prop} : (p1 k m r ρ).wp QP E = (m ρ).wp (fun x ρ1 => shP x fun d => (r ρ1).wp (fun ps ρ2 => QP ((k, d) :: ps) ρ2) E) E := by
  unfold p1
  rw [wp_bind]
  congr 1
  funext x ρ1
  cases x with
  | sh d => show ((r ρ1).bind _).wp QP E = _; rw [wp_bind]; rfl
  | _ => rfl
theorem w_disp {r : PsM} : (dispM r ρ).wp Q E = (r ρ).wp (fun ps ρ1 => ps.length ≤ 15 ∧ Q (.own (.dic 0 (dputs [] ps))) ρ1) E := by
  unfold dispM
  rw [wp_bind]
  congr 1
  funext ps ρ1
  rw [wp_ite, show (Res.bad : Res Nv SV).wp Q E = False from rfl, if_and]
  rfl
end
section
variable {ρ : Nv} {i n : Nat} {N : Nv → Prop} {L : Out → Prop} {a b : MS} {m : M SV} {t : M Bool} {tg : Tg}
theorem ow_nx : (Out.nx ρ).wp N L = N ρ := rfl
theorem ow_rt {x : SV} : (Out.rt x ρ).wp N L = L (.rt x ρ) := rfl
theorem ow_ct : (Out.ct ρ).wp N L = L (.ct ρ) := rfl
theorem ow_bk : (Out.bk ρ).wp N L = L (.bk ρ) := rfl
theorem ow_bindS {A : Type} {r : Res Nv A} {f : A → Nv → Out} : (r.bindS f).wp N L = r.wp (fun a ρ1 => (f a ρ1).wp N L) fun e ρ1 => L (.exc e ρ1) := by cases r <;> rfl
theorem ow_ite {c : Prop} [Decidable c] {a b : Out} : (if c then a else b).wp N L = if c then a.wp N L else b.wp N L := by
  by_cases h : c
  · rw [if_pos h, if_pos h]
  · rw [if_neg h, if_neg h]
theorem w_nx : (nxS ρ).wp N L = N ρ := rfl
theorem w_bk : (bkS ρ).wp N L = L (.bk ρ) := rfl
theorem w_ct : (ctS ρ).wp N L = L (.ct ρ) := rfl
theorem w_seq : (seqS a b ρ).wp N L = (a ρ).wp (fun ρ1 => (b ρ1).wp N L) L := by
  unfold seqS
  cases a ρ <;> rfl
theorem w_if : (ifS t a b ρ).wp N L = (t ρ).wp (fun c ρ1 => if c = true then (a ρ1).wp N L else (b ρ1).wp N L) fun e ρ1 => L (.exc e ρ1) := by
  unfold ifS
  rw [ow_bindS]
  congr 1
  funext c ρ1
  rw [ow_ite]
theorem w_ret : (retS m ρ).wp N L = (m ρ).wp (fun x ρ1 => x.ret = true ∧ L (.rt x ρ1)) fun e ρ1 => L (.exc e ρ1) := by
  unfold retS
  rw [ow_bindS]
  congr 1
  funext c ρ1
  rw [ow_ite, show Out.bad.wp N L = False from rfl, if_and]
  rfl
theorem w_retN : (retN ρ).wp N L = L (.rt (.sh .non) ρ) := rfl
theorem w_expr : (exprS m ρ).wp N L = (m ρ).wp (fun x ρ1 => N ρ1) fun e ρ1 => L (.exc e ρ1) := by
  unfold exprS
  rw [ow_bindS]
  rfl
theorem w_set : (setS i m ρ).wp N L = (m ρ).wp (fun x ρ1 => x.ret = true ∧ i < ρ1.length ∧ N (ρ1.set i (some x))) fun e ρ1 => L (.exc e ρ1) := by
  unfold setS
  rw [ow_bindS]
  congr 1
  funext c ρ1
  rw [ow_ite, show Out.bad.wp N L = False from rfl, if_and, and_assoc]
  rfl
def augP (x : Option (Option SV)) (k : D → Prop) : Prop := match x with | some (some (.sh d)) => k d | _ => False
theorem augP_sh {d : D} {k : D → Prop} : augP (some (some (.sh d))) k = k d := rfl
theorem w_aug {g : SV → SV → Option SV} : (augS i g m ρ).wp N L = augP ρ[i]? fun d => (m ρ).wp (fun y ρ1 => gP (g (.sh d) y) fun z => z.ret = true ∧ i < ρ1.length ∧ N (ρ1.set i (some z))) fun e ρ1 => L (.exc e ρ1) := by
  unfold augS augP
  cases ρ[i]? with
  | none => rfl
  | some x => cases x with
    | none => rfl
    | some x => cases x with
      | sh d =>
        show ((m ρ).bindS _).wp N L = _
        rw [ow_bindS]
        congr 1
        funext y ρ1
        cases g (.sh d) y with
        | none => rfl
        | some z =>
          show (if _ then _ else Out.bad).wp N L = _
          rw [ow_ite, show Out.bad.wp N L = False from rfl, if_and, and_assoc]
          rfl
      | _ => rfl
theorem w_unp : (unpS tg m ρ).wp N L = (m ρ).wp (fun x ρ1 => shP x fun d => gP (tg.put d ρ1) fun ρ2 => N ρ2) fun e ρ1 => L (.exc e ρ1) := by
  unfold unpS
  rw [ow_bindS]
  congr 1
  funext x ρ1
  cases x with
  | sh d =>
    show Out.wp (match tg.put d ρ1 with | some ρ2 => _ | none => _) N L = gP _ _
    cases tg.put d ρ1 <;> rfl
  | _ => rfl
theorem w_for {it : M (List D)} : (forS tg it b ρ).wp N L = (it ρ).wp (fun ds ρ1 => (forL tg b ds ρ1).wp N L) fun e ρ1 => L (.exc e ρ1) := by
  unfold forS
  rw [ow_bindS]
theorem w_setIx {p : Pl} {mi me : M SV} : (setIxS p mi me ρ).wp N L = (me ρ).wp (fun y ρ1 => shP y fun _ => gP (getPl p ρ1) fun _ => (mi ρ1).wp (fun k ρ2 => gP (getPl p ρ2) fun o => gP (gSetIx o k y) fun o' => N (putPl p o' ρ2)) fun e ρ1 => L (.exc e ρ1)) fun e ρ1 => L (.exc e ρ1) := by
  unfold setIxS
  rw [ow_bindS]
  congr 1
  funext y ρ1
  cases y with
  | sh d =>
    show Out.wp (match getPl p ρ1 with | some _ => _ | none => _) N L = gP _ _
    cases getPl p ρ1 with
    | none => rfl
    | some o0 =>
      show ((mi ρ1).bindS _).wp N L = _
      rw [ow_bindS]
      show _ = (mi ρ1).wp _ _
      congr 1
      funext k ρ2
      show Out.wp (match getPl p ρ2 with | some o => _ | none => _) N L = gP _ _
      cases getPl p ρ2 with
      | none => rfl
      | some o =>
        show Out.wp (match gSetIx o k (.sh d) with | some o' => _ | none => _) N L = gP (gSetIx o k (.sh d)) _
        cases gSetIx o k (.sh d) <;> rfl
  | _ => rfl
/-- how a turn's end is read -/
def tL (N C : Nv → Prop) (L : Out → Prop) (o : Out) : Prop := match o with
  | .ct ρ => C ρ | .bk ρ => N ρ | .nx ρ => False | .rt x ρ => L (.rt x ρ) | .exc e ρ => L (.exc e ρ) | .bad => False
theorem tL_ct {C : Nv → Prop} : tL N C L (.ct ρ) = C ρ := rfl
theorem tL_bk {C : Nv → Prop} : tL N C L (.bk ρ) = N ρ := rfl
theorem tL_rt {C : Nv → Prop} {x : SV} : tL N C L (.rt x ρ) = L (.rt x ρ) := rfl
theorem tL_exc {C : Nv → Prop} {e : Ex} : tL N C L (.exc e ρ) = L (.exc e ρ) := rfl
theorem ow_turn {o : Out} {f : Nv → Out} (h : o.wp (fun ρ => (f ρ).wp N L) (tL N (fun ρ => (f ρ).wp N L) L)) : (o.turn f).wp N L := by
  cases o <;> exact h
/-- a for's invariant -/
theorem for_inv {ds : List D} (I : Nat → Nv → Prop) (h0 : I 0 ρ) (hs : ∀ i d ρ, ds[i]? = some d → I i ρ → gP (tg.put d ρ) fun ρ1 => (b ρ1).wp (I (i + 1)) (tL N (I (i + 1)) L)) (hN : ∀ ρ, I ds.length ρ → N ρ) : (forL tg b ds ρ).wp N L := by
  have : ∀ (es : List D) (k : Nat) (ρ : Nv), (∀ j, es[j]? = ds[k + j]?) → k + es.length = ds.length → I k ρ → (forL tg b es ρ).wp N L := by
    intro es
    induction es with
    | nil => intro k ρ _ e h; exact hN ρ (by rw [← e]; exact h)
    | cons d es ih =>
      intro k ρ e el h
      have hd : ds[k]? = some d := by have := e 0; simp at this; exact this.symm
      have := hs k d ρ hd h
      unfold forL
      cases ep : tg.put d ρ with
      | none => rw [ep] at this; exact this.elim
      | some ρ1 =>
        rw [ep] at this
        have this : (b ρ1).wp (I (k + 1)) (tL N (I (k + 1)) L) := this
        have step : ∀ ρ2, I (k + 1) ρ2 → (forL tg b es ρ2).wp N L := fun ρ2 h2 => ih (k + 1) ρ2 (fun j => by have := e (j + 1); rw [List.getElem?_cons_succ] at this; rw [this]; congr 1; omega) (by rw [List.length_cons] at el; omega) h2
        refine ow_turn (this.imp step fun o ho => ?_)
        cases o with
        | ct ρ2 => exact step ρ2 ho
        | _ => exact ho
  exact this ds 0 ρ (fun j => by rw [Nat.zero_add]) (Nat.zero_add _) h0
/-- a while's invariant -/
theorem while_inv {fuel : Nat} (I : Nv → Prop) (μ : Nv → Nat) (h0 : I ρ) (hf : μ ρ < fuel) (hs : ∀ ρ, I ρ → (t ρ).wp (fun c ρ1 => if c = true then (b ρ1).wp (fun ρ2 => I ρ2 ∧ μ ρ2 < μ ρ) (tL N (fun ρ2 => I ρ2 ∧ μ ρ2 < μ ρ) L) else N ρ1) fun e ρ1 => L (.exc e ρ1)) : (whileL t b fuel ρ).wp N L := by
  induction fuel generalizing ρ with
  | zero => omega
  | succ fuel ih =>
    unfold whileL
    rw [ow_bindS]
    refine (hs ρ h0).imp (fun c ρ1 h => ?_) (fun _ _ h => h)
    rw [ow_ite]
    by_cases c0 : c = true
    · rw [if_pos c0] at h ⊢
      refine ow_turn (h.imp (fun ρ2 h2 => ih h2.1 (by omega)) fun o ho => ?_)
      cases o with
      | ct ρ2 => exact ih ho.1 (by have := ho.2; omega)
      | _ => exact ho
    · rw [if_neg c0] at h ⊢; exact h
theorem w_noEx {A : Type} {r : Res Nv A} {Q : A → Nv → Prop} {E : Ex → Nv → Prop} : (noEx r).wp Q E = r.wp Q (fun _ _ => False) := by cases r <;> rfl
/-- a comprehension's invariant -/
theorem comp_inv {tg : Tg} {c : M Bool} {e : M SV} {ds : List D} {Q : List D → Nv → Prop} {E : Ex → Nv → Prop} (I : Nat → List D → Nv → Prop) (h0 : I 0 [] ρ)
    (hs : ∀ i d acc ρ, ds[i]? = some d → I i acc ρ → gP (tg.put d ρ) fun ρ1 => (c ρ1).wp (fun y ρ2 => if y = true then (e ρ2).wp (fun x ρ3 => shP x fun d' => acc.length < sizeLine ∧ I (i + 1) (acc ++ [d']) (wipeN ρ3 tg.slots)) (fun _ _ => False) else I (i + 1) acc (wipeN ρ2 tg.slots)) (fun _ _ => False))
    (hN : ∀ acc ρ, I ds.length acc ρ → Q acc ρ) : (compL tg c e ds [] ρ).wp Q E := by
  have : ∀ (es : List D) (k : Nat) (acc : List D) (ρ : Nv), (∀ j, es[j]? = ds[k + j]?) → k + es.length = ds.length → I k acc ρ → (compL tg c e es acc ρ).wp Q E := by
    intro es
    induction es with
    | nil => intro k acc ρ _ e h; exact hN acc ρ (by rw [← e]; exact h)
    | cons d es ih =>
      intro k acc ρ e el h
      have hd : ds[k]? = some d := by have := e 0; simp at this; exact this.symm
      have := hs k d acc ρ hd h
      unfold compL
      cases ep : tg.put d ρ with
      | none => rw [ep] at this; exact this.elim
      | some ρ1 =>
        rw [ep] at this
        have step : ∀ acc ρ2, I (k + 1) acc ρ2 → (compL tg c _ es acc ρ2).wp Q E := fun acc ρ2 h2 => ih (k + 1) acc ρ2 (fun j => by have := e (j + 1); rw [List.getElem?_cons_succ] at this; rw [this]; congr 1; omega) (by rw [List.length_cons] at el; omega) h2
        show ((noEx (c ρ1)).bind _).wp Q E
        rw [wp_bind, w_noEx]
        refine Res.wp.imp this (fun y ρ2 h => ?_) (fun _ _ h => h.elim)
        rw [wp_ite]
        by_cases c0 : y = true
        · rw [if_pos c0] at h ⊢
          rw [wp_bind, w_noEx]
          refine Res.wp.imp h (fun x ρ3 h => ?_) (fun _ _ h => h.elim)
          cases x with
          | sh d' =>
            have h : acc.length < sizeLine ∧ I (k + 1) (acc ++ [d']) (wipeN ρ3 tg.slots) := h
            show (if acc.length < sizeLine then _ else _ : Res Nv (List D)).wp Q E
            rw [if_pos h.1]
            exact step _ _ h.2
          | _ => exact h.elim
        · rw [if_neg c0] at h ⊢
          exact step _ _ h
  exact this ds 0 [] ρ (fun j => by rw [Nat.zero_add]) (Nat.zero_add _) h0
/-- how a def's end is read -/
def finL (as : List SV) (Q : SV → List SV → Prop) (E : Ex → List SV → Prop) (o : Out) : Prop := match o with
  | .rt x ρ => x.ret = true ∧ gP (outs as ρ) fun bs => Q x bs
  | .exc e ρ => gP (outs as ρ) fun bs => E e bs
  | _ => False
theorem finL_rt {as : List SV} {Q : SV → List SV → Prop} {E : Ex → List SV → Prop} {x : SV} : finL as Q E (.rt x ρ) = (x.ret = true ∧ gP (outs as ρ) fun bs => Q x bs) := rfl
theorem finL_exc {as : List SV} {Q : SV → List SV → Prop} {E : Ex → List SV → Prop} {e : Ex} : finL as Q E (.exc e ρ) = (gP (outs as ρ) fun bs => E e bs) := rfl
theorem w_runF {np nl : Nat} {ms : MS} {as : List SV} {Q : SV → List SV → Prop} {E : Ex → List SV → Prop} : (runF np nl ms as).wp Q E = (as.length = np ∧ (ms (as.map some ++ List.replicate nl none)).wp (fun ρ => gP (outs as ρ) fun bs => Q (.sh .non) bs) (finL as Q E)) := by
  unfold runF
  rw [wp_ite, show (Res.bad : Res (List SV) SV).wp Q E = False from rfl, if_and]
  congr 1
  cases ms (as.map some ++ List.replicate nl none) with
  | nx ρ => show Res.wp (match outs as ρ with | some bs => _ | none => _) Q E = gP _ _; cases outs as ρ <;> rfl
  | rt x ρ =>
    show Res.wp (match outs as ρ with | some bs => _ | none => _) Q E = (_ ∧ gP _ _)
    cases outs as ρ with
    | none => exact propext ⟨fun h => h.elim, fun h => h.2.elim⟩
    | some bs =>
      show (if x.ret = true then _ else _ : Res (List SV) SV).wp Q E = _
      rw [wp_ite, show (Res.bad : Res (List SV) SV).wp Q E = False from rfl, if_and]
      rfl
  | exc e ρ => show Res.wp (match outs as ρ with | some bs => _ | none => _) Q E = gP _ _; cases outs as ρ <;> rfl
  | _ => rfl
end
/-! steps at known values -/
section
variable {i j : Int} {a b : Str} {x y : SV} {k : SV → Prop}
theorem data_sh {d : D} : (SV.sh d).data = d := rfl
theorem data_tr {o : O} : (SV.tr o).data = o.data := rfl
theorem data_bo {o : O} : (SV.bo o).data = o.data := rfl
theorem data_own {o : O} : (SV.own o).data = o.data := rfl
theorem data_lst {ds : List D} : (O.lst ds).data = .lst ds := rfl
theorem data_dic {t : Nat} {ps : List (DKey × D)} : (O.dic t ps).data = .dic t ps := rfl
theorem ret_sh {d : D} : (SV.sh d).ret = true := rfl
theorem ret_own {o : O} : (SV.own o).ret = true := rfl
theorem arg_sh {d : D} : (SV.sh d).arg = true := rfl
theorem arg_tr {o : O} : (SV.tr o).arg = true := rfl
theorem arg_bo {o : O} : (SV.bo o).arg = true := rfl
theorem st_sh {d : D} : (SV.sh d).st = true := rfl
theorem st_bo {o : O} : (SV.bo o).st = true := rfl
theorem ta_sh {d : D} : (SV.sh d).toArg = .sh d := rfl
theorem ta_tr {o : O} : (SV.tr o).toArg = .bo o := rfl
theorem ta_bo {o : O} : (SV.bo o).toArg = .bo o := rfl
theorem isB_bl {b : Bool} : (SV.sh (.bl b)).isB = some b := rfl
theorem gAdd_ii : gAdd (.sh (.int i)) (.sh (.int j)) = some (.sh (.int (i + j))) := rfl
theorem gAdd_ss : gAdd (.sh (.str a)) (.sh (.str b)) = if a.length + b.length ≤ sizeLine then some (.sh (.str (a ++ b))) else none := rfl
theorem gSub_ii : gSub (.sh (.int i)) (.sh (.int j)) = some (.sh (.int (i - j))) := rfl
theorem gIAdd_ii : gIAdd (.sh (.int i)) (.sh (.int j)) = some (.sh (.int (i + j))) := rfl
theorem gMul_ii : gMul (.sh (.int i)) (.sh (.int j)) = if cMul i j = true then some (.sh (.int (i * j))) else none := rfl
theorem gMul_si : gMul (.sh (.str a)) (.sh (.int j)) = if a.length ≤ 100 ∧ j ≤ 1000 ∧ -1000 ≤ j then some (.sh (.str (strMul a j.toNat))) else none := rfl
theorem gFdiv_ii : gFdiv (.sh (.int i)) (.sh (.int j)) = if cDiv i j = true then some (.sh (.int (i / j))) else none := rfl
theorem gMod_ii : gMod (.sh (.int i)) (.sh (.int j)) = if cMod i j = true then some (.sh (.int (i % j))) else none := rfl
theorem gPow_ii : gPow (.sh (.int i)) (.sh (.int j)) = if cPow i j = true then some (.sh (.int (i ^ j.toNat))) else none := rfl
theorem gNeg_i : gNeg (.sh (.int i)) = some (.sh (.int (-i))) := rfl
theorem gLt_ii : gLt (.sh (.int i)) (.sh (.int j)) = some (.sh (.bl (decide (i < j)))) := rfl
theorem gLe_ii : gLe (.sh (.int i)) (.sh (.int j)) = some (.sh (.bl (decide (i ≤ j)))) := rfl
theorem gGt_ii : gGt (.sh (.int i)) (.sh (.int j)) = some (.sh (.bl (decide (j < i)))) := rfl
theorem gGe_ii : gGe (.sh (.int i)) (.sh (.int j)) = some (.sh (.bl (decide (j ≤ i)))) := rfl
theorem dec_inj {α β : Type} [DecidableEq α] [DecidableEq β] {f : α → β} (h : ∀ x y, f x = f y → x = y) (x y : α) : decide (f x = f y) = decide (x = y) := by
  by_cases e : x = y
  · rw [e, decide_eq_true rfl, decide_eq_true rfl]
  · rw [decide_eq_false e, decide_eq_false fun z => e (h _ _ z)]
theorem eqD_ii : eqD (.int i) (.int j) = some (decide (i = j)) := congrArg some (dec_inj (f := V.int) (fun _ _ h => by cases h; rfl) i j)
theorem eqD_ss : eqD (.str a) (.str b) = some (decide (a = b)) := congrArg some (dec_inj (f := V.str) (fun _ _ h => by cases h; rfl) a b)
theorem eqD_bb {b c : Bool} : eqD (.bl b) (.bl c) = some (decide (b = c)) := congrArg some (dec_inj (f := V.bl) (fun _ _ h => by cases h; rfl) b c)
theorem gEq_ii : gEq (.sh (.int i)) (.sh (.int j)) = some (.sh (.bl (decide (i = j)))) := by unfold gEq; rw [data_sh, data_sh, eqD_ii]; rfl
theorem gEq_ss : gEq (.sh (.str a)) (.sh (.str b)) = some (.sh (.bl (decide (a = b)))) := by unfold gEq; rw [data_sh, data_sh, eqD_ss]; rfl
theorem gEq_bb {b c : Bool} : gEq (.sh (.bl b)) (.sh (.bl c)) = some (.sh (.bl (decide (b = c)))) := by unfold gEq; rw [data_sh, data_sh, eqD_bb]; rfl
theorem gNe_ii : gNe (.sh (.int i)) (.sh (.int j)) = some (.sh (.bl (!decide (i = j)))) := by unfold gNe; rw [data_sh, data_sh, eqD_ii]; rfl
theorem gNe_ss : gNe (.sh (.str a)) (.sh (.str b)) = some (.sh (.bl (!decide (a = b)))) := by unfold gNe; rw [data_sh, data_sh, eqD_ss]; rfl
theorem gNe_bb {b c : Bool} : gNe (.sh (.bl b)) (.sh (.bl c)) = some (.sh (.bl (!decide (b = c)))) := by unfold gNe; rw [data_sh, data_sh, eqD_bb]; rfl
theorem gIx_lst {ds : List D} : gIx (.sh (.lst ds)) (.sh (.int i)) = (atI ds i).map .sh := rfl
theorem gIx_tup {ds : List D} : gIx (.sh (.tup ds)) (.sh (.int i)) = (atI ds i).map .sh := rfl
theorem gIx_kt {ds : List D} : gIx (.sh (.kt ds)) (.sh (.int i)) = (atI ds i).map .sh := rfl
theorem gIx_scr {ns : List Int} : gIx (.sh (.scr ns)) (.sh (.int i)) = (atI (ns.map D.int) i).map .sh := rfl
theorem gIx_olst {ds : List D} : gIx (.own (.lst ds)) (.sh (.int i)) = (atI ds i).map .sh := rfl
theorem gIx_tlst {ds : List D} : gIx (.tr (.lst ds)) (.sh (.int i)) = (atI ds i).map .sh := rfl
theorem gIx_blst {ds : List D} : gIx (.bo (.lst ds)) (.sh (.int i)) = (atI ds i).map .sh := rfl
theorem gIx_str : gIx (.sh (.str a)) (.sh (.int i)) = if a.length ≤ sizeLine then (atI a.cps.toList i).map (fun c => .sh (.str ⟨#[c]⟩)) else none := rfl
theorem gIx_ds {ps : List (DKey × D)} : gIx (.sh (.dic 0 ps)) (.sh (.str a)) = (dget ps (.inl (.inr a))).map .sh := rfl
theorem gIx_tds {ps : List (DKey × D)} : gIx (.tr (.dic 0 ps)) (.sh (.str a)) = (dget ps (.inl (.inr a))).map .sh := rfl
theorem gIx_bds {ps : List (DKey × D)} : gIx (.bo (.dic 0 ps)) (.sh (.str a)) = (dget ps (.inl (.inr a))).map .sh := rfl
theorem gIx_di {ps : List (DKey × D)} : gIx (.sh (.dic 0 ps)) (.sh (.int i)) = (dget ps (.inl (.inl i))).map .sh := rfl
theorem gIx_tdi {ps : List (DKey × D)} : gIx (.tr (.dic 0 ps)) (.sh (.int i)) = (dget ps (.inl (.inl i))).map .sh := rfl
theorem gIx_bdi {ps : List (DKey × D)} : gIx (.bo (.dic 0 ps)) (.sh (.int i)) = (dget ps (.inl (.inl i))).map .sh := rfl
theorem atI_nat {α : Type} {xs : List α} (h0 : 0 ≤ i) : atI xs i = xs[i.toNat]? := by
  unfold atI ixN
  rw [if_pos h0]
  by_cases h : i < xs.length
  · rw [if_pos h]; rfl
  · rw [if_neg h, List.getElem?_eq_none (by omega)]; rfl
theorem atI_neg {α : Type} {xs : List α} (h0 : i < 0) (h1 : -(xs.length : Int) ≤ i) : atI xs i = xs[(i + xs.length).toNat]? := by
  unfold atI ixN
  rw [if_neg (by omega), if_pos (by omega)]
  rfl
theorem gLen_x : gLen [x] = gLen1 x := rfl
theorem gInt_b {b : Bool} : gInt1 [.sh (.bl b)] = some (.sh (.int (if b = true then 1 else 0))) := rfl
theorem gMax_ii : gMax2 [.sh (.int i), .sh (.int j)] = some (.sh (.int (if i < j then j else i))) := rfl
theorem gMin_ii : gMin2 [.sh (.int i), .sh (.int j)] = some (.sh (.int (if j < i then j else i))) := rfl
theorem gAbs_i : gAbs [.sh (.int i)] = some (.sh (.int (if i < 0 then -i else i))) := rfl
theorem gTupX_1 {d : D} : gTupX [.sh d] = some (.sh (.tup [d])) := rfl
theorem gTupX_2 {d e : D} : gTupX [.sh d, .sh e] = some (.sh (.tup [d, e])) := rfl
theorem gTupX_3 {d e f : D} : gTupX [.sh d, .sh e, .sh f] = some (.sh (.tup [d, e, f])) := rfl
theorem gTupX_4 {d e f g : D} : gTupX [.sh d, .sh e, .sh f, .sh g] = some (.sh (.tup [d, e, f, g])) := rfl
theorem gLstX_0 : gLstX [] = some (.own (.lst [])) := rfl
theorem gLstX_1 {d : D} : gLstX [.sh d] = some (.own (.lst [d])) := rfl
theorem gLstX_2 {d e : D} : gLstX [.sh d, .sh e] = some (.own (.lst [d, e])) := rfl
theorem gLstX_3 {d e f : D} : gLstX [.sh d, .sh e, .sh f] = some (.own (.lst [d, e, f])) := rfl
theorem gLstX_4 {d e f g : D} : gLstX [.sh d, .sh e, .sh f, .sh g] = some (.own (.lst [d, e, f, g])) := rfl
theorem gLstX_5 {d e f g h : D} : gLstX [.sh d, .sh e, .sh f, .sh g, .sh h] = some (.own (.lst [d, e, f, g, h])) := rfl
theorem gLstX_6 {d e f g h l : D} : gLstX [.sh d, .sh e, .sh f, .sh g, .sh h, .sh l] = some (.own (.lst [d, e, f, g, h, l])) := rfl
end
end R

/-! M2: the readings, each a step at the head. -/
namespace R
open PySem PySem.Spec PyProof.Rows L2
section
variable {ρ : Nv} {i n : Nat} {x : SV} {d : D} {o : O} {a y : Option SV} {k : SV → Prop} {Q : SV → Nv → Prop} {E : Ex → Nv → Prop} {ma mb m : M SV} {ms : M (List SV)} {QA : List SV → Nv → Prop} {N : Nv → Prop} {L : Out → Prop} {p : Prop}
def vN (ρ : Nv) (i : Nat) (k : SV → Prop) : Prop := vP ρ[i]? k
theorem n_vS : vN (a :: ρ) (i + 1) k = vN ρ i k := rfl
theorem n_v0sh : vN (some (.sh d) :: ρ) 0 k = k (.sh d) := rfl
theorem n_v0own : vN (some (.own o) :: ρ) 0 k = k (.tr o) := rfl
theorem n_v0io : vN (some (.io o) :: ρ) 0 k = k (.tr o) := rfl
theorem n_v0bo : vN (some (.bo o) :: ρ) 0 k = k (.bo o) := rfl
theorem n_var : (varM i ρ).wp Q E = vN ρ i fun x => Q x ρ := w_var
def fN (ρ : Nv) (i : Nat) (Q : SV → Nv → Prop) : Prop := vF ρ[i]? (fun x => Q x ρ) fun o => Q (.sh o.data) (ρ.set i (some (.sh o.data)))
theorem n_fS : fN (a :: ρ) (i + 1) Q = fN ρ i (fun x r => Q x (a :: r)) := rfl
theorem n_f0sh : fN (some (.sh d) :: ρ) 0 Q = Q (.sh d) (some (.sh d) :: ρ) := rfl
theorem n_f0lst {ds : List D} : fN (some (.own (.lst ds)) :: ρ) 0 Q = Q (.sh (.lst ds)) (some (.sh (.lst ds)) :: ρ) := rfl
theorem n_f0dic {t : Nat} {ps : List (DKey × D)} : fN (some (.own (.dic t ps)) :: ρ) 0 Q = Q (.sh (.dic t ps)) (some (.sh (.dic t ps)) :: ρ) := rfl
theorem n_varF : (varF i ρ).wp Q E = fN ρ i Q := w_varF
def oN (ρ : Nv) (i : Nat) (Q : SV → Nv → Prop) : Prop := vF ρ[i]? (fun x => Q x ρ) fun o => Q (.own o) (ρ.set i none)
theorem n_oS : oN (a :: ρ) (i + 1) Q = oN ρ i (fun x r => Q x (a :: r)) := rfl
theorem n_o0sh : oN (some (.sh d) :: ρ) 0 Q = Q (.sh d) (some (.sh d) :: ρ) := rfl
theorem n_o0own : oN (some (.own o) :: ρ) 0 Q = Q (.own o) (none :: ρ) := rfl
theorem n_varO : (varO i ρ).wp Q E = oN ρ i Q := w_varO
def fzN (x : SV) (k : SV → Prop) : Prop := fzP x fun d => k (.sh d)
theorem n_fzsh : fzN (.sh d) k = k (.sh d) := rfl
theorem n_fzlst {ds : List D} : fzN (.own (.lst ds)) k = k (.sh (.lst ds)) := rfl
theorem n_fzdic {t : Nat} {ps : List (DKey × D)} : fzN (.own (.dic t ps)) k = k (.sh (.dic t ps)) := rfl
theorem n_frz : (frzM m ρ).wp Q E = (m ρ).wp (fun x ρ1 => fzN x fun z => Q z ρ1) E := w_frz
def stN (x : SV) (p : Prop) : Prop := x.st = true ∧ p
theorem n_stsh : stN (.sh d) p = p := propext ⟨fun h => h.2, fun h => ⟨rfl, h⟩⟩
theorem n_stbo : stN (.bo o) p = p := propext ⟨fun h => h.2, fun h => ⟨rfl, h⟩⟩
def argN (x : SV) (p : Prop) : Prop := x.arg = true ∧ p
theorem n_argsh : argN (.sh d) p = p := propext ⟨fun h => h.2, fun h => ⟨rfl, h⟩⟩
theorem n_argbo : argN (.bo o) p = p := propext ⟨fun h => h.2, fun h => ⟨rfl, h⟩⟩
theorem n_argtr : argN (.tr o) p = p := propext ⟨fun h => h.2, fun h => ⟨rfl, h⟩⟩
def retN' (x : SV) (p : Prop) : Prop := x.ret = true ∧ p
theorem n_retsh : retN' (.sh d) p = p := propext ⟨fun h => h.2, fun h => ⟨rfl, h⟩⟩
theorem n_retown : retN' (.own o) p = p := propext ⟨fun h => h.2, fun h => ⟨rfl, h⟩⟩
theorem n_op2 {g : SV → SV → Option SV} : (op2 g ma mb ρ).wp Q E = (ma ρ).wp (fun x ρ1 => (mb ρ1).wp (fun y ρ2 => gP (g x y) fun z => Q z ρ2) E) E := w_op2
theorem n_op2c {g : SV → SV → Option SV} : (op2c g ma mb ρ).wp Q E = (ma ρ).wp (fun x ρ1 => stN x ((mb ρ1).wp (fun y ρ2 => gP (g x y) fun z => Q z ρ2) E)) E := w_op2c
theorem n_op1 {g : SV → Option SV} : (op1 g ma ρ).wp Q E = (ma ρ).wp (fun x ρ1 => gP (g x) fun z => Q z ρ1) E := w_op1
theorem n_opA {g : List SV → Option SV} : (opA g ms ρ).wp Q E = (ms ρ).wp (fun xs ρ1 => gP (g xs) fun z => Q z ρ1) E := w_opA
theorem n_a0 : (a0 ρ).wp QA E = QA [] ρ := rfl
theorem n_a1 : (a1 m ms ρ).wp QA E = (m ρ).wp (fun x ρ1 => argN x ((ms ρ1).wp (fun xs ρ2 => QA (x :: xs) ρ2) E)) E := w_a1
theorem n_a1c : (a1c m ms ρ).wp QA E = (m ρ).wp (fun x ρ1 => stN x ((ms ρ1).wp (fun xs ρ2 => QA (x :: xs) ρ2) E)) E := w_a1c
theorem n_isB {b : Bool} {k : Bool → Prop} : gP (SV.isB (.sh (.bl b))) k = k b := rfl
theorem n_itM {QD : List D → Nv → Prop} : (itM m ρ).wp QD E = (m ρ).wp (fun x ρ1 => gP x.data.walk fun ds => stN x (QD ds ρ1)) E := w_itM
theorem wp_eq {S A : Type} {r : Res S A} {a : A} {s : S} (h : r = .ok a s) (Q : A → S → Prop) (E : Ex → S → Prop) : r.wp Q E = Q a s := by rw [h]; rfl
/-! calls -/
def cN (xs : List SV) (n : Nat) (k : List SV → Prop) : Prop := xs.all SV.arg = true ∧ xs.length = n ∧ k (xs.map SV.toArg)
section
variable {xs : List SV} {k : List SV → Prop}
theorem n_c0 : cN [] 0 k = k [] := propext ⟨fun h => h.2.2, fun h => ⟨rfl, rfl, h⟩⟩
theorem n_csh : cN (.sh d :: xs) (n + 1) k = cN xs n fun as => k (.sh d :: as) := by
  unfold cN
  rw [List.all_cons, List.length_cons, show SV.arg (.sh d) = true from rfl, Bool.true_and, Nat.add_right_cancel_iff]
  rfl
theorem n_cbo : cN (.bo o :: xs) (n + 1) k = cN xs n fun as => k (.bo o :: as) := by
  unfold cN
  rw [List.all_cons, List.length_cons, show SV.arg (.bo o) = true from rfl, Bool.true_and, Nat.add_right_cancel_iff]
  rfl
theorem n_ctr : cN (.tr o :: xs) (n + 1) k = cN xs n fun as => k (.bo o :: as) := by
  unfold cN
  rw [List.all_cons, List.length_cons, show SV.arg (.tr o) = true from rfl, Bool.true_and, Nat.add_right_cancel_iff]
  rfl
/-! a def's start -/
def sN (as : List SV) (np nl : Nat) (k : Nv → Prop) : Prop := as.length = np ∧ k (as.map some ++ List.replicate nl none)
variable {as : List SV} {np nl : Nat} {kn : Nv → Prop}
theorem n_s0 : sN [] 0 0 kn = kn [] := propext ⟨fun h => h.2, fun h => ⟨rfl, h⟩⟩
theorem n_sN : sN [] 0 (nl + 1) kn = sN [] 0 nl fun r => kn (none :: r) := rfl
theorem n_sS : sN (x :: as) (np + 1) nl kn = sN as np nl fun r => kn (some x :: r) := by
  unfold sN
  rw [List.length_cons, Nat.add_right_cancel_iff]
  rfl
/-! a def's end -/
def uN (as : List SV) (ρ : Nv) (k : List SV → Prop) : Prop := gP (outs as ρ) k
theorem n_u0 : uN [] ρ k = k [] := rfl
theorem n_ush : uN (.sh d :: as) (a :: ρ) k = uN as ρ fun bs => k (.sh d :: bs) := by
  unfold uN
  show gP ((outs as ρ).map _) k = _
  rw [gP_map]
theorem n_ubo : uN (.bo o :: as) (a :: ρ) k = uN as ρ fun bs => k (.bo o :: bs) := by
  unfold uN
  show gP ((outs as ρ).map _) k = _
  rw [gP_map]
theorem n_uio {o' : O} : uN (.io o :: as) (some (.io o') :: ρ) k = uN as ρ fun bs => k (.io o' :: bs) := by
  unfold uN
  show gP ((outs as ρ).map _) k = _
  rw [gP_map]
end
theorem n_call {f : MF} : (callM n f ms ρ).wp Q E = (ms ρ).wp (fun xs ρ1 => cN xs n fun as => (f as).wp (fun r _ => Q r ρ1) fun e _ => E e ρ1) E := w_call
theorem n_frt {as : List SV} {Q : SV → List SV → Prop} {E : Ex → List SV → Prop} : finL as Q E (.rt x ρ) = retN' x (uN as ρ fun bs => Q x bs) := rfl
theorem n_fexc {as : List SV} {Q : SV → List SV → Prop} {E : Ex → List SV → Prop} {e : Ex} : finL as Q E (.exc e ρ) = uN as ρ fun bs => E e bs := rfl
theorem n_runF {np nl : Nat} {ms : MS} {as : List SV} {Q : SV → List SV → Prop} {E : Ex → List SV → Prop} : (runF np nl ms as).wp Q E = sN as np nl fun ρ => (ms ρ).wp (fun ρ => uN as ρ fun bs => Q (.sh .non) bs) (finL as Q E) := w_runF
/-! places -/
def mP (r : Option (SV × O)) (k : SV → O → Prop) : Prop := gP r fun r => k r.1 r.2
def gN (i : Nat) (ρ : Nv) (k : O → Prop) : Prop := gP (getPl (.v i) ρ) k
def uP (i : Nat) (ρ : Nv) (g : O → Option (SV × O)) (Q : SV → Nv → Prop) : Prop := gP (getPl (.v i) ρ) fun o => mP (g o) fun x o' => Q x (putPl (.v i) o' ρ)
section
variable {ko : O → Prop} {g : O → Option (SV × O)} {ds : List D} {t : Nat} {ps : List (DKey × D)}
theorem n_gS : gN (i + 1) (a :: ρ) ko = gN i ρ ko := rfl
theorem n_gol : gN 0 (some (.own (.lst ds)) :: ρ) ko = ko (.lst ds) := rfl
theorem n_gil : gN 0 (some (.io (.lst ds)) :: ρ) ko = ko (.lst ds) := rfl
theorem n_god : gN 0 (some (.own (.dic t ps)) :: ρ) ko = ko (.dic t ps) := rfl
theorem n_gid : gN 0 (some (.io (.dic t ps)) :: ρ) ko = ko (.dic t ps) := rfl
theorem putPl_S {o' : O} : putPl (.v (i + 1)) o' (a :: ρ) = a :: putPl (.v i) o' ρ := by
  show (match ρ[i]? with
    | some (some (SV.own o_1)) => List.set (a :: ρ) (i + 1) (some (SV.own o'))
    | some (some (SV.io o_1)) => List.set (a :: ρ) (i + 1) (some (SV.io o'))
    | x => a :: ρ) = a :: (match ρ[i]? with
    | some (some (SV.own o_1)) => List.set ρ i (some (SV.own o'))
    | some (some (SV.io o_1)) => List.set ρ i (some (SV.io o'))
    | x => ρ)
  rcases ρ[i]? with _ | _ | x <;> first | rfl | (cases x <;> rfl)
theorem n_uS : uP (i + 1) (a :: ρ) g Q = uP i ρ g (fun x r => Q x (a :: r)) := by
  unfold uP
  show gP (getPl (.v i) ρ) _ = _
  congr 1
  funext o
  congr 1
  funext x o'
  rw [putPl_S]
theorem n_uol : uP 0 (some (.own (.lst ds)) :: ρ) g Q = mP (g (.lst ds)) fun x o' => Q x (some (.own o') :: ρ) := rfl
theorem n_uil : uP 0 (some (.io (.lst ds)) :: ρ) g Q = mP (g (.lst ds)) fun x o' => Q x (some (.io o') :: ρ) := rfl
theorem n_uod : uP 0 (some (.own (.dic t ps)) :: ρ) g Q = mP (g (.dic t ps)) fun x o' => Q x (some (.own o') :: ρ) := rfl
theorem n_uid : uP 0 (some (.io (.dic t ps)) :: ρ) g Q = mP (g (.dic t ps)) fun x o' => Q x (some (.io o') :: ρ) := rfl
def tyN (o : O) (Ty : String) (p : Prop) : Prop := o.ty = Ty ∧ p
theorem n_tyl : tyN (.lst ds) "list" p = p := propext ⟨fun h => h.2, fun h => ⟨rfl, h⟩⟩
theorem n_tyd : tyN (.dic 0 ps) "dict" p = p := propext ⟨fun h => h.2, fun h => ⟨rfl, h⟩⟩
theorem n_tyd1 : tyN (.dic 1 ps) "dict" p = p := propext ⟨fun h => h.2, fun h => ⟨rfl, h⟩⟩
theorem n_shsh {k : D → Prop} : shP (.sh d) k = k d := rfl
theorem n_mut {Ty : String} {g : O → List SV → Option (SV × O)} : (mutM (.v i) Ty g ms ρ).wp Q E = gN i ρ fun o => tyN o Ty ((ms ρ).wp (fun xs ρ1 => uP i ρ1 (fun o1 => g o1 xs) Q) E) := w_mut
theorem n_mut0 {Ty : String} {g : O → List SV → Option (SV × O)} : (mut0 (.v i) Ty g ρ).wp Q E = gN i ρ fun o => tyN o Ty (uP i ρ (fun o1 => g o1 []) Q) := n_mut
theorem n_append {km : SV → O → Prop} : mP (gAppend (.lst ds) [.sh d]) km = (ds.length < sizeLine ∧ km (.sh .non) (.lst (ds ++ [d]))) := by
  unfold mP gAppend
  exact gP_ite
theorem n_pop {km : SV → O → Prop} : mP (gPop (.lst ds) []) km = gP (ds[ds.length - 1]?) fun d => km (.sh d) (.lst ds.dropLast) := by
  unfold mP gPop
  exact gP_map
theorem n_setds {a : Str} {km : SV → O → Prop} : mP ((gSetIx (.dic 0 ps) (.sh (.str a)) (.sh d)).map fun o' => (SV.sh .non, o')) km = (ps.length < sizeLine ∧ km (.sh .non) (.dic 0 (dput ps (.inl (.inr a)) d))) := by
  unfold mP
  rw [gP_map]
  exact gP_ite
theorem n_setdi {j : Int} {km : SV → O → Prop} : mP ((gSetIx (.dic 0 ps) (.sh (.int j)) (.sh d)).map fun o' => (SV.sh .non, o')) km = (ps.length < sizeLine ∧ km (.sh .non) (.dic 0 (dput ps (.inl (.inl j)) d))) := by
  unfold mP
  rw [gP_map]
  exact gP_ite
theorem n_clear {km : SV → O → Prop} : mP (gClear (.lst ds) []) km = km (.sh .non) (.lst []) := rfl
end
/-! statements -/
def eN (ρ : Nv) (i : Nat) (x : SV) (N : Nv → Prop) : Prop := x.ret = true ∧ i < ρ.length ∧ N (ρ.set i (some x))
theorem n_eS : eN (a :: ρ) (i + 1) x N = eN ρ i x fun r => N (a :: r) := by
  unfold eN
  rw [List.length_cons, Nat.add_lt_add_iff_right]
  rfl
theorem n_e0sh : eN (a :: ρ) 0 (.sh d) N = N (some (.sh d) :: ρ) := propext ⟨fun h => h.2.2, fun h => ⟨rfl, Nat.succ_pos _, h⟩⟩
theorem n_e0own : eN (a :: ρ) 0 (.own o) N = N (some (.own o) :: ρ) := propext ⟨fun h => h.2.2, fun h => ⟨rfl, Nat.succ_pos _, h⟩⟩
theorem n_set : (setS i m ρ).wp N L = (m ρ).wp (fun x ρ1 => eN ρ1 i x N) fun e ρ1 => L (.exc e ρ1) := w_set
theorem n_ret : (retS m ρ).wp N L = (m ρ).wp (fun x ρ1 => retN' x (L (.rt x ρ1))) fun e ρ1 => L (.exc e ρ1) := w_ret
def aN (ρ : Nv) (i : Nat) (k : D → Prop) : Prop := augP ρ[i]? k
theorem n_aS {k : D → Prop} : aN (a :: ρ) (i + 1) k = aN ρ i k := rfl
theorem n_a0sh {k : D → Prop} : aN (some (.sh d) :: ρ) 0 k = k d := rfl
theorem n_aug {g : SV → SV → Option SV} : (augS i g m ρ).wp N L = aN ρ i fun d => (m ρ).wp (fun y ρ1 => gP (g (.sh d) y) fun z => eN ρ1 i z N) fun e ρ1 => L (.exc e ρ1) := w_aug
theorem n_setIx {mi me : M SV} : (setIxS (.v i) mi me ρ).wp N L = (me ρ).wp (fun y ρ1 => shP y fun _ => gN i ρ1 fun _ => (mi ρ1).wp (fun k ρ2 => uP i ρ2 (fun o => (gSetIx o k y).map fun o' => (.sh .non, o')) fun _ r => N r) fun e ρ1 => L (.exc e ρ1)) fun e ρ1 => L (.exc e ρ1) := by
  rw [w_setIx]
  congr 1
  funext y ρ1
  congr 1
  funext _
  unfold gN
  congr 1
  funext _
  congr 1
  funext k ρ2
  unfold uP
  congr 1
  funext o
  unfold mP
  rw [gP_map]
def putN (t : Tg) (d : D) (ρ : Nv) (N : Nv → Prop) : Prop := gP (t.put d ρ) N
theorem n_unp {tg : Tg} : (unpS tg m ρ).wp N L = (m ρ).wp (fun x ρ1 => shP x fun d => putN tg d ρ1 N) fun e ρ1 => L (.exc e ρ1) := w_unp
theorem put_S : Tg.put (.nm (i + 1)) d (a :: ρ) = ((Tg.nm i).put d ρ).map (a :: ·) := by
  unfold Tg.put
  by_cases h : i < ρ.length
  · rw [if_pos h, if_pos (by rw [List.length_cons]; omega)]; rfl
  · rw [if_neg h, if_neg (by rw [List.length_cons]; omega)]; rfl
theorem n_pS : putN (.nm (i + 1)) d (a :: ρ) N = putN (.nm i) d ρ fun r => N (a :: r) := by
  unfold putN
  rw [put_S, gP_map]
theorem n_p0 : putN (.nm 0) d (a :: ρ) N = N (some (.sh d) :: ρ) := by
  unfold putN Tg.put
  rw [if_pos (by rw [List.length_cons]; omega)]
  rfl
def putLN (ts : List Tg) (ds : List D) (ρ : Nv) (N : Nv → Prop) : Prop := gP (Tg.putL ts ds ρ) N
theorem n_pt {ts : List Tg} {ds : List D} : putN (.tp ts) (.tup ds) ρ N = putLN ts ds ρ N := by
  unfold putN putLN
  rw [Tg.put]
theorem n_pl0 : putLN [] [] ρ N = N ρ := by
  unfold putLN
  rw [Tg.putL]
  rfl
theorem n_pl1 {t : Tg} {ts : List Tg} {ds : List D} : putLN (t :: ts) (d :: ds) ρ N = putN t d ρ fun r => putLN ts ds r N := by
  unfold putLN putN
  rw [Tg.putL]
  cases t.put d ρ <;> rfl
/-! loops, held -/
structure forK (t : Tg) (m : M (List D)) (b c : MS) (ρ : Nv) (N : Nv → Prop) (L : Out → Prop) : Prop where
  h : (forS t m b ρ).wp (fun ρ1 => (c ρ1).wp N L) L
structure whileK (t : M Bool) (b : MS) (f : Nat) (c : MS) (ρ : Nv) (N : Nv → Prop) (L : Out → Prop) : Prop where
  h : (whileL t b f ρ).wp (fun ρ1 => (c ρ1).wp N L) L
section
variable {t : Tg} {it : M (List D)} {b c : MS} {w : M Bool} {f : Nat}
theorem n_seqfor : (seqL (forS t it b) c ρ).wp N L = forK t it b c ρ N L := w_seq.trans (propext ⟨fun h => ⟨h⟩, fun h => h.h⟩)
theorem n_for : (forS t it b ρ).wp N L = forK t it b nxS ρ N L := propext ⟨fun h => ⟨h⟩, fun h => h.h⟩
theorem n_seqwhile : (seqL (whileL w b f) c ρ).wp N L = whileK w b f c ρ N L := w_seq.trans (propext ⟨fun h => ⟨h⟩, fun h => h.h⟩)
theorem n_while : (whileL w b f ρ).wp N L = whileK w b f nxS ρ N L := propext ⟨fun h => ⟨h⟩, fun h => h.h⟩
structure compK (i : Nat) (t : Tg) (it : M (List D)) (w : M Bool) (e : M SV) (c : MS) (ρ : Nv) (N : Nv → Prop) (L : Out → Prop) : Prop where
  h : (setS i (compM t it w e) ρ).wp (fun ρ1 => (c ρ1).wp N L) L
theorem n_seqcomp {e : M SV} : (seqL (setC i t it w e) c ρ).wp N L = compK i t it w e c ρ N L := w_seq.trans (propext ⟨fun h => ⟨h⟩, fun h => h.h⟩)
theorem n_setcomp {e : M SV} : (setC i t it w e ρ).wp N L = compK i t it w e nxS ρ N L := propext ⟨fun h => ⟨h⟩, fun h => h.h⟩
theorem compK_of {e : M SV} (K1 : List D → Nv → Prop) (J : List D → Nv → Prop) (h1 : (it ρ).wp K1 fun _ _ => False) (h2 : ∀ ds ρ1, K1 ds ρ1 → plainAt ρ1 t.slots = true ∧ (compL t w e ds [] (wipeN ρ1 t.slots)).wp (fun acc ρ2 => J acc (putBack ρ1 ρ2 t.slots)) fun _ _ => False)
    (h3 : ∀ acc ρ1, J acc ρ1 → eN ρ1 i (.own (.lst acc)) fun ρ2 => (c ρ2).wp N L) : compK i t it w e c ρ N L := by
  refine ⟨?_⟩
  rw [n_set, w_comp]
  refine h1.imp (fun ds ρ1 k => ?_) (fun _ _ h => h.elim)
  obtain ⟨a, b⟩ := h2 ds ρ1 k
  exact ⟨a, b.imp (fun acc ρ2 j => h3 _ _ j) (fun _ _ h => h.elim)⟩
structure cutK (a c : MS) (ρ : Nv) (N : Nv → Prop) (L : Out → Prop) : Prop where
  h : (a ρ).wp (fun ρ1 => (c ρ1).wp N L) L
theorem n_seqI {a : MS} : (seqI a c ρ).wp N L = cutK a c ρ N L := w_seq.trans (propext ⟨fun h => ⟨h⟩, fun h => h.h⟩)
/-- what holds where the branches meet -/
theorem cutK_of {a : MS} (J : Nv → Prop) (h1 : (a ρ).wp J L) (h2 : ∀ ρ1, J ρ1 → (c ρ1).wp N L) : cutK a c ρ N L := ⟨h1.imp h2 fun _ h => h⟩
theorem cutK_go {a : MS} (h1 : (a ρ).wp (fun ρ1 => (c ρ1).wp N L) L) : cutK a c ρ N L := ⟨h1⟩
theorem n_forn : (forL t b [] ρ).wp N L = N ρ := by unfold forL; rfl
theorem n_forc {ds : List D} : (forL t b (d :: ds) ρ).wp N L = putN t d ρ fun ρ1 => (b ρ1).wp (fun ρ2 => (forL t b ds ρ2).wp N L) (tL N (fun ρ2 => (forL t b ds ρ2).wp N L) L) := by
  unfold putN
  rw [forL]
  cases t.put d ρ with
  | none => rfl
  | some ρ1 =>
    show Out.wp (Out.turn _ _) _ _ = Out.wp _ _ _
    cases b ρ1 <;> rfl
theorem forK_of (h : (it ρ).wp (fun ds ρ1 => (forL t b ds ρ1).wp (fun ρ1 => (c ρ1).wp N L) L) fun e ρ1 => L (.exc e ρ1)) : forK t it b c ρ N L := by
  refine ⟨?_⟩
  rw [w_for]
  exact h
end
end
/-! steps at known values -/
section
variable {i j : Int} {a b : Str} {x y : SV} {k : SV → Prop} {ds es : List D} {ns : List Int} {t : Nat} {ps : List (DKey × D)}
theorem g_add_ii : gP (gAdd (.sh (.int i)) (.sh (.int j))) k = k (.sh (.int (i + j))) := rfl
theorem g_add_ss : gP (gAdd (.sh (.str a)) (.sh (.str b))) k = (a.length + b.length ≤ sizeLine ∧ k (.sh (.str (a ++ b)))) := gP_ite
theorem g_add_tt : gP (gAdd (.sh (.tup ds)) (.sh (.tup es))) k = (ds.length + es.length ≤ sizeLine ∧ k (.sh (.tup (ds ++ es)))) := gP_ite
theorem g_sub_ii : gP (gSub (.sh (.int i)) (.sh (.int j))) k = k (.sh (.int (i - j))) := rfl
theorem g_iadd_ii : gP (gIAdd (.sh (.int i)) (.sh (.int j))) k = k (.sh (.int (i + j))) := rfl
theorem g_mul_ii : gP (gMul (.sh (.int i)) (.sh (.int j))) k = (cMul i j = true ∧ k (.sh (.int (i * j)))) := gP_ite
theorem g_mul_si : gP (gMul (.sh (.str a)) (.sh (.int j))) k = ((a.length ≤ 100 ∧ j ≤ 1000 ∧ -1000 ≤ j) ∧ k (.sh (.str (strMul a j.toNat)))) := gP_ite
theorem g_fdiv_ii : gP (gFdiv (.sh (.int i)) (.sh (.int j))) k = (cDiv i j = true ∧ k (.sh (.int (i / j)))) := gP_ite
theorem g_mod_ii : gP (gMod (.sh (.int i)) (.sh (.int j))) k = (cMod i j = true ∧ k (.sh (.int (i % j)))) := gP_ite
theorem g_pow_ii : gP (gPow (.sh (.int i)) (.sh (.int j))) k = (cPow i j = true ∧ k (.sh (.int (i ^ j.toNat)))) := gP_ite
theorem g_neg_i : gP (gNeg (.sh (.int i))) k = k (.sh (.int (-i))) := rfl
theorem g_lt_ii : gP (gLt (.sh (.int i)) (.sh (.int j))) k = k (.sh (.bl (decide (i < j)))) := rfl
theorem g_le_ii : gP (gLe (.sh (.int i)) (.sh (.int j))) k = k (.sh (.bl (decide (i ≤ j)))) := rfl
theorem g_gt_ii : gP (gGt (.sh (.int i)) (.sh (.int j))) k = k (.sh (.bl (decide (j < i)))) := rfl
theorem g_ge_ii : gP (gGe (.sh (.int i)) (.sh (.int j))) k = k (.sh (.bl (decide (j ≤ i)))) := rfl
theorem g_eq_ii : gP (gEq (.sh (.int i)) (.sh (.int j))) k = k (.sh (.bl (decide (i = j)))) := by rw [gEq_ii]; rfl
theorem g_eq_ss : gP (gEq (.sh (.str a)) (.sh (.str b))) k = k (.sh (.bl (decide (a = b)))) := by rw [gEq_ss]; rfl
theorem g_eq_bb {b c : Bool} : gP (gEq (.sh (.bl b)) (.sh (.bl c))) k = k (.sh (.bl (decide (b = c)))) := by rw [gEq_bb]; rfl
theorem g_ne_ii : gP (gNe (.sh (.int i)) (.sh (.int j))) k = k (.sh (.bl (!decide (i = j)))) := by rw [gNe_ii]; rfl
theorem g_ne_ss : gP (gNe (.sh (.str a)) (.sh (.str b))) k = k (.sh (.bl (!decide (a = b)))) := by rw [gNe_ss]; rfl
theorem g_ne_bb {b c : Bool} : gP (gNe (.sh (.bl b)) (.sh (.bl c))) k = k (.sh (.bl (!decide (b = c)))) := by rw [gNe_bb]; rfl
def ixP (ds : List D) (i : Int) (k : SV → Prop) : Prop := gP (L2.atI ds i) fun d => k (.sh d)
theorem ixP_of {d : D} (n : Nat) (h0 : i = n) (h : ds[n]? = some d) : ixP ds i k = k (.sh d) := by
  unfold ixP
  rw [atI_nat (by omega), h0, Int.toNat_natCast, h]
  rfl
theorem ixP_neg {d : D} (n : Nat) (h0 : i + ds.length = n) (hi : i < 0) (h : ds[n]? = some d) : ixP ds i k = k (.sh d) := by
  unfold ixP
  rw [atI_neg hi (by omega), h0, Int.toNat_natCast, h]
  rfl
theorem ix_0 {d : D} : ixP (d :: ds) 0 k = k (.sh d) := ixP_of 0 rfl rfl
theorem ix_1 {d e : D} : ixP (d :: e :: ds) 1 k = k (.sh e) := ixP_of 1 rfl rfl
theorem ix_2 {d e f : D} : ixP (d :: e :: f :: ds) 2 k = k (.sh f) := ixP_of 2 rfl rfl
theorem ix_3 {d e f g : D} : ixP (d :: e :: f :: g :: ds) 3 k = k (.sh g) := ixP_of 3 rfl rfl
theorem ix_4 {d e f g h : D} : ixP (d :: e :: f :: g :: h :: ds) 4 k = k (.sh h) := ixP_of 4 rfl rfl
theorem g_ix_lst : gP (gIx (.sh (.lst ds)) (.sh (.int i))) k = ixP ds i k := gP_map
theorem g_ix_tup : gP (gIx (.sh (.tup ds)) (.sh (.int i))) k = ixP ds i k := gP_map
theorem g_ix_kt : gP (gIx (.sh (.kt ds)) (.sh (.int i))) k = ixP ds i k := gP_map
theorem g_ix_scr : gP (gIx (.sh (.scr ns)) (.sh (.int i))) k = ixP (ns.map D.int) i k := gP_map
theorem g_ix_olst : gP (gIx (.own (.lst ds)) (.sh (.int i))) k = ixP ds i k := gP_map
theorem g_ix_tlst : gP (gIx (.tr (.lst ds)) (.sh (.int i))) k = ixP ds i k := gP_map
theorem g_ix_blst : gP (gIx (.bo (.lst ds)) (.sh (.int i))) k = ixP ds i k := gP_map
def cxP (a : Str) (i : Int) (k : SV → Prop) : Prop := a.length ≤ sizeLine ∧ gP (L2.atI a.cps.toList i) fun c => k (.sh (.str ⟨#[c]⟩))
theorem g_ix_str : gP (gIx (.sh (.str a)) (.sh (.int i))) k = cxP a i k := by
  rw [gIx_str, gP_ite, gP_map]
  rfl
def dxP (ps : List (DKey × D)) (i : DKey) (k : SV → Prop) : Prop := gP (dget ps i) fun d => k (.sh d)
theorem g_ix_ds : gP (gIx (.sh (.dic 0 ps)) (.sh (.str a))) k = dxP ps (.inl (.inr a)) k := gP_map
theorem g_ix_tds : gP (gIx (.tr (.dic 0 ps)) (.sh (.str a))) k = dxP ps (.inl (.inr a)) k := gP_map
theorem g_ix_bds : gP (gIx (.bo (.dic 0 ps)) (.sh (.str a))) k = dxP ps (.inl (.inr a)) k := gP_map
theorem g_ix_di : gP (gIx (.sh (.dic 0 ps)) (.sh (.int i))) k = dxP ps (.inl (.inl i)) k := gP_map
theorem g_ix_tdi : gP (gIx (.tr (.dic 0 ps)) (.sh (.int i))) k = dxP ps (.inl (.inl i)) k := gP_map
theorem g_ix_bdi : gP (gIx (.bo (.dic 0 ps)) (.sh (.int i))) k = dxP ps (.inl (.inl i)) k := gP_map
theorem dxP_of {i : DKey} {d : D} (h : dget ps i = some d) : dxP ps i k = k (.sh d) := by unfold dxP; rw [h]; rfl
theorem g_len_str : gP (gLen [.sh (.str a)]) k = (a.length ≤ sizeLine ∧ k (.sh (.int a.length))) := gP_ite
theorem g_len_lst : gP (gLen [.sh (.lst ds)]) k = k (.sh (.int ds.length)) := rfl
theorem g_len_tup : gP (gLen [.sh (.tup ds)]) k = k (.sh (.int ds.length)) := rfl
theorem g_len_kt : gP (gLen [.sh (.kt ds)]) k = k (.sh (.int ds.length)) := rfl
theorem g_len_scr : gP (gLen [.sh (.scr ns)]) k = k (.sh (.int ns.length)) := by
  show k (.sh (.int (ns.map D.int).length)) = _
  rw [List.length_map]
theorem g_len_olst : gP (gLen [.own (.lst ds)]) k = k (.sh (.int ds.length)) := rfl
theorem g_len_tlst : gP (gLen [.tr (.lst ds)]) k = k (.sh (.int ds.length)) := rfl
theorem g_len_blst : gP (gLen [.bo (.lst ds)]) k = k (.sh (.int ds.length)) := rfl
theorem g_len_dic : gP (gLen [.sh (.dic 0 ps)]) k = k (.sh (.int ps.length)) := rfl
theorem g_len_tdic : gP (gLen [.tr (.dic 0 ps)]) k = k (.sh (.int ps.length)) := rfl
theorem g_len_bdic : gP (gLen [.bo (.dic 0 ps)]) k = k (.sh (.int ps.length)) := rfl
theorem g_int_b {b : Bool} : gP (gInt1 [.sh (.bl b)]) k = k (.sh (.int (if b = true then 1 else 0))) := rfl
theorem g_max_ii : gP (gMax2 [.sh (.int i), .sh (.int j)]) k = k (.sh (.int (max i j))) := by
  show k (.sh (.int (if i < j then j else i))) = _
  rw [show (if i < j then j else i) = max i j by split <;> omega]
theorem g_min_ii : gP (gMin2 [.sh (.int i), .sh (.int j)]) k = k (.sh (.int (min i j))) := by
  show k (.sh (.int (if j < i then j else i))) = _
  rw [show (if j < i then j else i) = min i j by split <;> omega]
theorem g_abs_i : gP (gAbs [.sh (.int i)]) k = k (.sh (.int i.natAbs)) := by
  show k (.sh (.int (if i < 0 then -i else i))) = _
  rw [show (if i < 0 then -i else i) = (i.natAbs : Int) by split <;> omega]
theorem g_dict1 : gP (gDict1 [.tr (.dic 0 ps)]) k = k (.own (.dic 0 ps)) := rfl
theorem g_dict1s : gP (gDict1 [.sh (.dic 0 ps)]) k = k (.own (.dic 0 ps)) := rfl
theorem g_dict1b : gP (gDict1 [.bo (.dic 0 ps)]) k = k (.own (.dic 0 ps)) := rfl
section
variable {d e f g h l : D}
theorem g_tup1 : gP (gTupX [.sh d]) k = k (.sh (.tup [d])) := rfl
theorem g_tup2 : gP (gTupX [.sh d, .sh e]) k = k (.sh (.tup [d, e])) := rfl
theorem g_tup3 : gP (gTupX [.sh d, .sh e, .sh f]) k = k (.sh (.tup [d, e, f])) := rfl
theorem g_tup4 : gP (gTupX [.sh d, .sh e, .sh f, .sh g]) k = k (.sh (.tup [d, e, f, g])) := rfl
theorem g_lst0 : gP (gLstX []) k = k (.own (.lst [])) := rfl
theorem g_lst1 : gP (gLstX [.sh d]) k = k (.own (.lst [d])) := rfl
theorem g_lst2 : gP (gLstX [.sh d, .sh e]) k = k (.own (.lst [d, e])) := rfl
theorem g_lst3 : gP (gLstX [.sh d, .sh e, .sh f]) k = k (.own (.lst [d, e, f])) := rfl
theorem g_lst4 : gP (gLstX [.sh d, .sh e, .sh f, .sh g]) k = k (.own (.lst [d, e, f, g])) := rfl
theorem g_lst5 : gP (gLstX [.sh d, .sh e, .sh f, .sh g, .sh h]) k = k (.own (.lst [d, e, f, g, h])) := rfl
theorem g_lst6 : gP (gLstX [.sh d, .sh e, .sh f, .sh g, .sh h, .sh l]) k = k (.own (.lst [d, e, f, g, h, l])) := rfl
end
theorem g_isi_int_int : gP (gIsi [.sh (.int i), .sh (.ty "int")]) k = k (.sh (.bl true)) := by unfold gIsi un2 gIsi1; rfl
theorem g_isi_int_bool : gP (gIsi [.sh (.int i), .sh (.ty "bool")]) k = k (.sh (.bl false)) := by unfold gIsi un2 gIsi1; rfl
theorem g_isi_bl_bool {b : Bool} : gP (gIsi [.sh (.bl b), .sh (.ty "bool")]) k = k (.sh (.bl true)) := by unfold gIsi un2 gIsi1; rfl
theorem g_isi_bl_int {b : Bool} : gP (gIsi [.sh (.bl b), .sh (.ty "int")]) k = k (.sh (.bl true)) := by unfold gIsi un2 gIsi1; rfl
theorem g_isi_tup_tup : gP (gIsi [.sh (.tup ds), .sh (.ty "tuple")]) k = k (.sh (.bl true)) := by unfold gIsi un2 gIsi1; rfl
theorem g_isi_str_tup : gP (gIsi [.sh (.str a), .sh (.ty "tuple")]) k = k (.sh (.bl false)) := by unfold gIsi un2 gIsi1; rfl
theorem g_isi_int_tup : gP (gIsi [.sh (.int i), .sh (.ty "tuple")]) k = k (.sh (.bl false)) := by unfold gIsi un2 gIsi1; rfl
theorem g_isi_str_str : gP (gIsi [.sh (.str a), .sh (.ty "str")]) k = k (.sh (.bl true)) := by unfold gIsi un2 gIsi1; rfl
theorem g_isi_lst_lst : gP (gIsi [.sh (.lst ds), .sh (.ty "list")]) k = k (.sh (.bl true)) := by unfold gIsi un2 gIsi1; rfl
theorem g_int?_i {k : Int → Prop} : gP (D.int? (SV.data (.sh (.int i)))) k = k i := rfl
theorem g_walk_lst {k : List D → Prop} : gP (D.walk (SV.data (.sh (.lst ds)))) k = k ds := rfl
theorem g_walk_tup {k : List D → Prop} : gP (D.walk (SV.data (.sh (.tup ds)))) k = k ds := rfl
theorem g_walk_scr {k : List D → Prop} : gP (D.walk (SV.data (.sh (.scr ns)))) k = k (ns.map D.int) := rfl
theorem g_walk_blst {k : List D → Prop} : gP (D.walk (SV.data (.bo (.lst ds)))) k = k ds := rfl
theorem g_walk_tlst {k : List D → Prop} : gP (D.walk (SV.data (.tr (.lst ds)))) k = k ds := rfl
theorem g_range1 {k : List D → Prop} : gP (range1 [.sh (.int j)]) k = (inLo j = true ∧ k (rangeD 0 j.toNat)) := gP_ite
theorem g_range2 {k : List D → Prop} : gP (range2 [.sh (.int i), .sh (.int j)]) k = ((inLo i = true ∧ inLo j = true) ∧ k (rangeD i (j - i).toNat)) := gP_ite
theorem g_range3 {c : Int} {k : List D → Prop} : gP (range3 [.sh (.int i), .sh (.int j), .sh (.int c)]) k = ((rgOk i j c = true ∧ 0 ≤ Builtin.Range.rangeSize i j c) ∧ k (rangeC i c (Builtin.Range.rangeSize i j c).toNat)) := gP_ite
theorem g_sl_tup {l h : Option Int} : gP (gSl (.sh (.tup ds)) l h) k = k (.sh (.tup (cutD ds l h))) := rfl
theorem g_sl_lst {l h : Option Int} : gP (gSl (.sh (.lst ds)) l h) k = k (.own (.lst (cutD ds l h))) := rfl
theorem g_sl_scr {l h : Option Int} : gP (gSl (.sh (.scr ns)) l h) k = k (.own (.lst (cutD (ns.map .int) l h))) := rfl
end
end R

/-! M3: plain facts. -/
namespace R
open PySem PySem.Spec PyProof.Rows L2
theorem sO (a b : String) : (Str.ofString a = Str.ofString b) = (a = b) := by
  refine propext ⟨fun h => ?_, fun h => by rw [h]⟩
  rw [Str.ofString_eq_toList, Str.ofString_eq_toList] at h
  injection h with h
  have h : (a.toList.map Char.toNat) = b.toList.map Char.toNat := by simpa using h
  have inj : ∀ (l m : List Char), l.map Char.toNat = m.map Char.toNat → l = m := by
    intro l
    induction l with
    | nil => intro m h; cases m with | nil => rfl | cons c m => cases h
    | cons c l ih =>
      intro m h
      cases m with
      | nil => cases h
      | cons d m =>
        rw [List.map_cons, List.map_cons] at h
        injection h with h1 h2
        rw [ih m h2]
        congr 1
        exact Char.ext (UInt32.toNat_inj.mp h1)
  have := inj _ _ h
  exact String.toList_inj.mp this
theorem ite_of {c : Prop} [Decidable c] {a b : Prop} (h1 : c → a) (h2 : ¬ c → b) : if c then a else b := by
  by_cases h : c
  · rw [if_pos h]; exact h1 h
  · rw [if_neg h]; exact h2 h
theorem cMul_of {i j : Int} (hi : i.natAbs < 2 ^ 1000) (hj : j.natAbs < 2 ^ 1000) : cMul i j = true := by
  unfold cMul
  have h1 : ∀ n : Nat, n < 2 ^ 1000 → n.log2 < 1000 := fun n h => by
    by_cases e : n = 0
    · subst e; decide
    · exact (Nat.log2_lt e).mpr h
  have := h1 _ hi
  have := h1 _ hj
  exact decide_eq_true (by omega)
theorem cMul_lt {i j : Int} (hi : -18446744073709551616 < i) (hi' : i < 18446744073709551616) (hj : -18446744073709551616 < j) (hj' : j < 18446744073709551616) : cMul i j = true := by
  have e : (2 : Nat) ^ 64 = 18446744073709551616 := by decide
  have l : (2 : Nat) ^ 64 < 2 ^ 1000 := Nat.pow_lt_pow_right (by decide) (by decide)
  exact cMul_of (by omega) (by omega)
theorem cMod_of {i j : Int} (h : 0 < j) : cMod i j = true := decide_eq_true h
theorem cDiv_of {i j : Int} (h : 0 < j) (h2 : j < 18446744073709551616) : cDiv i j = true := by
  refine decide_eq_true ⟨h, ?_⟩
  have : j.natAbs ≠ 0 := by omega
  have := (Nat.log2_lt (k := 64) this).mpr (by omega)
  omega
theorem inLo_of {i : Int} (h : -4611686018427387904 ≤ i) (h2 : i < 4611686018427387904) : inLo i = true := decide_eq_true ⟨by omega, by omega⟩
theorem rangeD_len {lo : Int} {n : Nat} : (rangeD lo n).length = n := by unfold rangeD; simp
theorem rangeD_at {lo : Int} {n i : Nat} {d : D} (h : (rangeD lo n)[i]? = some d) : i < n ∧ d = .int (lo + i) := by
  unfold rangeD at h
  rw [List.getElem?_map] at h
  by_cases c : i < n
  · rw [List.getElem?_range c] at h; cases h; exact ⟨c, rfl⟩
  · rw [List.getElem?_eq_none (by simpa using c)] at h; cases h
theorem rangeC_len {lo c : Int} {n : Nat} : (rangeC lo c n).length = n := by unfold rangeC; simp
theorem rangeC_at {lo c : Int} {n i : Nat} {d : D} (h : (rangeC lo c n)[i]? = some d) : i < n ∧ d = .int (lo + i * c) := by
  unfold rangeC at h
  rw [List.getElem?_map] at h
  by_cases c : i < n
  · rw [List.getElem?_range c] at h; cases h; exact ⟨c, rfl⟩
  · rw [List.getElem?_eq_none (by simpa using c)] at h; cases h
theorem gmap_int {ns : List Int} {i : Nat} {d : D} (h : (ns.map D.int)[i]? = some d) : ∃ n, d = .int n := by
  rw [List.getElem?_map] at h
  cases e : ns[i]? with
  | none => rw [e] at h; cases h
  | some n => rw [e] at h; cases h; exact ⟨n, rfl⟩
theorem ix_mid {ds : List D} {i : Int} {k : SV → Prop} (h0 : 0 ≤ i) (h1 : i < ds.length) (h : ∀ d, ds[i.toNat]? = some d → k (.sh d)) : ixP ds i k := by
  have hi : i.toNat < ds.length := by omega
  rw [ixP_of (d := ds[i.toNat]) i.toNat (by omega) (List.getElem?_eq_getElem hi)]
  exact h _ (List.getElem?_eq_getElem hi)
theorem ix_back {ds : List D} {i : Int} {k : SV → Prop} (h0 : i < 0) (h1 : -(ds.length : Int) ≤ i) (h : ∀ d, ds[(i + ds.length).toNat]? = some d → k (.sh d)) : ixP ds i k := by
  have hi : (i + ds.length).toNat < ds.length := by omega
  rw [ixP_neg (d := ds[(i + ds.length).toNat]) (i + ds.length).toNat (by omega) h0 (List.getElem?_eq_getElem hi)]
  exact h _ (List.getElem?_eq_getElem hi)
theorem cx_mid {a : Str} {i : Int} {k : SV → Prop} (hl : a.length ≤ sizeLine) (h0 : 0 ≤ i) (h1 : i < a.length) (h : ∀ c : Nat, k (.sh (.str ⟨#[c]⟩))) : cxP a i k := by
  refine ⟨hl, ?_⟩
  have hi : i.toNat < a.cps.toList.length := by
    have : a.cps.toList.length = a.length := rfl
    omega
  rw [atI_nat h0, List.getElem?_eq_getElem hi]
  exact h _
theorem strMul_len {a : Str} {n : Nat} : (strMul a n).length = n * a.length := by
  unfold strMul
  show (((List.replicate n a.cps.toList).flatten).toArray).size = _
  rw [List.size_toArray, List.length_flatten, List.map_replicate, List.sum_replicate_nat]
  rfl
theorem str_add_len {a b : Str} : (a ++ b).length = a.length + b.length := by
  show (a.cps ++ b.cps).size = _
  rw [Array.size_append]
  rfl
theorem one_len {c : Nat} : (⟨#[c]⟩ : Str).length = 1 := rfl
theorem ix_last {ds : List D} {d : D} {k : SV → Prop} : ixP (ds ++ [d]) (-1) k = k (.sh d) := ixP_neg ds.length (by simp; omega) (by decide) (by simp)
theorem ix_last2 {ds : List D} {d e : D} {k : SV → Prop} : ixP (ds ++ [e] ++ [d]) (-2) k = k (.sh e) := ixP_neg ds.length (by simp; omega) (by decide) (by simp)
theorem pop_app {ds : List D} {d : D} {km : SV → O → Prop} : mP (gPop (.lst (ds ++ [d])) []) km = km (.sh d) (.lst ds) := by
  rw [n_pop]
  rw [show (ds ++ [d])[(ds ++ [d]).length - 1]? = some d by simp, List.dropLast_concat]
  rfl
/-! dicts -/
theorem dget_dput {ps : List (DKey × D)} {k k' : DKey} {d : D} : dget (dput ps k d) k' = if k' = k then some d else dget ps k' := by
  unfold dput
  by_cases h : (ps.any fun p => decide (p.1 = k)) = true
  · rw [if_pos h]
    unfold dget
    have : ∀ ps : List (DKey × D), (ps.any fun p => decide (p.1 = k)) = true → ((ps.map fun p => if p.1 = k then (p.1, d) else p).find? fun p => decide (p.1 = k')).map (·.2) = if k' = k then some d else (ps.find? fun p => decide (p.1 = k')).map (·.2) := by
      intro ps
      induction ps with
      | nil => intro h; cases h
      | cons p r ih =>
        intro h
        rw [List.map_cons, List.find?_cons, List.find?_cons]
        by_cases e : p.1 = k
        · rw [if_pos e]
          by_cases e2 : k' = k
          · subst e2
            simp [e]
          · simp only [if_neg e2]
            have e3 : ¬ p.1 = k' := fun z => e2 (by rw [← z, e])
            simp only [decide_eq_false e3]
            by_cases h3 : (r.any fun p => decide (p.1 = k)) = true
            · have := ih h3
              rw [if_neg e2] at this
              exact this
            · have nn : ∀ q ∈ r, ¬ q.1 = k := fun q hq z => h3 (List.any_eq_true.mpr ⟨q, hq, decide_eq_true z⟩)
              congr 2
              conv => rhs; rw [← List.map_id r]
              exact List.map_congr_left fun q hq => by rw [if_neg (nn q hq)]; rfl
        · rw [if_neg e]
          have h' : (r.any fun p => decide (p.1 = k)) = true := by
            rw [List.any_cons, decide_eq_false e, Bool.false_or] at h
            exact h
          by_cases e3 : p.1 = k'
          · rw [decide_eq_true e3]
            have : ¬ k' = k := fun z => e (by rw [e3, z])
            rw [if_neg this]
          · rw [decide_eq_false e3]
            exact ih h'
    exact this ps h
  · rw [if_neg h]
    unfold dget
    have nn : ∀ q ∈ ps, ¬ q.1 = k := fun q hq z => h (List.any_eq_true.mpr ⟨q, hq, decide_eq_true z⟩)
    rw [List.find?_append]
    by_cases e : k' = k
    · subst e
      rw [if_pos rfl, List.find?_eq_none.mpr fun q hq => by simpa using nn q hq]
      simp
    · rw [if_neg e]
      cases ef : ps.find? fun p => decide (p.1 = k') with
      | some q => rfl
      | none => simp [Ne.symm e]
theorem dput_keys {ps : List (DKey × D)} {k : DKey} {d : D} (h : (ps.map (·.1)).Nodup) : ((dput ps k d).map (·.1)).Nodup := by
  unfold dput
  by_cases c : (ps.any fun p => decide (p.1 = k)) = true
  · rw [if_pos c, List.map_map]
    have : (List.map ((fun x => x.fst) ∘ fun p => if p.fst = k then (p.fst, d) else p) ps) = ps.map (·.1) := List.map_congr_left fun p _ => by
      show (if p.1 = k then (p.1, d) else p).1 = p.1
      by_cases e : p.1 = k
      · rw [if_pos e]
      · rw [if_neg e]
    rw [this]
    exact h
  · rw [if_neg c, List.map_append, List.map_cons, List.map_nil]
    rw [List.nodup_append]
    refine ⟨h, by simp, ?_⟩
    intro a ha b hb e
    rw [List.mem_singleton] at hb
    obtain ⟨p, hp, rfl⟩ := List.mem_map.mp ha
    exact c (List.any_eq_true.mpr ⟨p, hp, decide_eq_true (by rw [e, hb])⟩)
theorem dput_all {P : D → Prop} {ps : List (DKey × D)} {k : DKey} {d : D} (h : ∀ p ∈ ps, P p.2) (hd : P d) : ∀ p ∈ dput ps k d, P p.2 := by
  intro p hp
  unfold dput at hp
  by_cases c : (ps.any fun p => decide (p.1 = k)) = true
  · rw [if_pos c] at hp
    obtain ⟨q, hq, rfl⟩ := List.mem_map.mp hp
    by_cases e : q.1 = k
    · rw [if_pos e]; exact hd
    · rw [if_neg e]; exact h q hq
  · rw [if_neg c] at hp
    rcases List.mem_append.mp hp with hp | hp
    · exact h p hp
    · rw [List.mem_singleton] at hp; rw [hp]; exact hd
theorem dput_length {ps : List (DKey × D)} {k : DKey} {d : D} : (dput ps k d).length ≤ ps.length + 1 := by
  unfold dput
  split
  · rw [List.length_map]; omega
  · rw [List.length_append]; exact Nat.le_refl _
theorem cut_ints {ns : List Int} {l h : Option Int} : ∃ cs : List Int, cutD (ns.map D.int) l h = cs.map D.int ∧ cs.length ≤ ns.length := by
  unfold cutD
  refine ⟨(ns.drop (HT.sIx (ns.map D.int).length 0 l)).take (HT.sIx (ns.map D.int).length (ns.map D.int).length h - HT.sIx (ns.map D.int).length 0 l), ?_, ?_⟩
  · rw [List.map_take, List.map_drop]
  · rw [List.length_take, List.length_drop]; omega
theorem g_deq {ps qs : List (DKey × D)} {k : SV → Prop} : gP (gDEq (.tr (.dic 0 ps)) (.tr (.dic 0 qs))) k = ((dSame ps qs = true ∧ (ps.map (·.1)).Nodup) ∧ k (.sh (.bl true))) := by
  show gP (if 0 = 0 ∧ 0 = 0 ∧ dSame ps qs = true ∧ (ps.map (·.1)).Nodup then _ else none) k = _
  rw [gP_ite]
  exact propext ⟨fun h => ⟨h.1.2.2, h.2⟩, fun h => ⟨⟨rfl, rfl, h.1⟩, h.2⟩⟩
theorem dSame_self {ps : List (DKey × D)} (h : ∀ p ∈ ps, p.2.sc.isSome = true) : dSame ps ps = true := by
  induction ps with
  | nil => rfl
  | cons p r ih =>
    unfold dSame
    rw [Bool.and_eq_true, Bool.and_eq_true]
    refine ⟨⟨decide_eq_true rfl, ?_⟩, ih fun q hq => h q (List.mem_cons_of_mem _ hq)⟩
    have := h p List.mem_cons_self
    cases e : p.2.sc with
    | none => rw [e] at this; cases this
    | some v => exact decide_eq_true rfl
theorem rsz2 {n : Int} (h : 0 ≤ n) : Builtin.Range.rangeSize 0 n 2 = (n + 1) / 2 := by
  unfold Builtin.Range.rangeSize
  rw [if_pos (by decide)]
  split <;> omega
theorem rg2 {n : Int} (h : 0 ≤ n) (h2 : n < 1000000) : rgOk 0 n 2 = true := by
  have e := rsz2 h
  unfold rgOk Builtin.Range.small
  rw [e]
  unfold Builtin.Range.rangeFitsLong
  simp only [Bool.and_eq_true, Bool.or_eq_true, beq_iff_eq, decide_eq_true_eq, if_pos (show (2 : Int) > 0 by decide)]
  refine ⟨⟨by decide, by decide⟩, ?_⟩
  omega
theorem sizeLine_big : 1000000 ≤ sizeLine := by rw [sizeLine_eq]; decide
end R

/-! M4: more readings. -/
namespace R
open PySem PySem.Spec PyProof.Rows L2
theorem spec_of {r : Res (List SV) SV} {as : List SV} {P : SV → Prop} (h : r.wp (fun x bs => bs = as ∧ P x) fun _ _ => False) : ∃ a, r = .ok a as ∧ P a := by
  obtain ⟨a, s, e, rfl, h2⟩ := h.ok
  exact ⟨a, e, h2⟩
section
variable {ρ : Nv} {Q : SV → Nv → Prop} {E : Ex → Nv → Prop} {ms : M (List SV)} {q : Bool}
def enP (q : Bool) (xs : List SV) (k : List D → Prop) : Prop := match xs with
  | [x] => gP x.data.litems fun ds => (x.st || q) = true ∧ k (enumF 0 ds)
  | _ => False
theorem n_itE {QD : List D → Nv → Prop} : (itE q ms ρ).wp QD E = (ms ρ).wp (fun xs ρ1 => enP q xs fun ds => QD ds ρ1) E := by
  unfold itE
  rw [wp_bind]
  congr 1
  funext xs ρ1
  unfold enP
  cases xs with
  | nil => rfl
  | cons x r =>
    cases r with
    | cons y r => rfl
    | nil =>
      show Res.wp (match x.data.litems with | some ds => if (x.st || q) = true then _ else _ | none => _) QD E = gP x.data.litems _
      cases x.data.litems with
      | none => rfl
      | some ds =>
        show (if (x.st || q) = true then _ else _ : Res Nv (List D)).wp QD E = (_ ∧ _)
        rw [wp_ite, show (Res.bad : Res Nv (List D)).wp QD E = False from rfl, if_and]
        rfl
variable {k : List D → Prop} {ds : List D}
theorem n_en_sh : enP q [.sh (.lst ds)] k = k (enumF 0 ds) := propext ⟨fun h => h.2, fun h => ⟨rfl, h⟩⟩
theorem n_en_bo : enP q [.bo (.lst ds)] k = k (enumF 0 ds) := propext ⟨fun h => h.2, fun h => ⟨rfl, h⟩⟩
theorem n_en_tr : enP true [.tr (.lst ds)] k = k (enumF 0 ds) := propext ⟨fun h => h.2, fun h => ⟨rfl, h⟩⟩
end
/-! equality of nested data -/
mutual
theorem eqv_refl : ∀ d : PyData, d.canLay0 = true → PyData.eqv d d = true
  | .none, _ => rfl
  | .bool a, _ => by unfold PyData.eqv; simp
  | .int a, _ => by unfold PyData.eqv; simp
  | .str a, _ => by unfold PyData.eqv; simp
  | .list xs, h => by unfold PyData.eqv; exact eqvAll_refl xs (by unfold PyData.canLay0 at h; exact h)
  | .tuple xs, h => by unfold PyData.eqv; exact eqvAll_refl xs (by unfold PyData.canLay0 at h; exact h)
  | .dict x, h => by unfold PyData.canLay0 at h; cases h
theorem eqvAll_refl : ∀ xs : List PyData, PyData.canLayAll0 xs = true → PyData.eqvAll xs xs = true
  | [], _ => by unfold PyData.eqvAll; rfl
  | x :: xs, h => by
    unfold PyData.canLayAll0 at h
    rw [Bool.and_eq_true] at h
    unfold PyData.eqvAll
    rw [eqv_refl x h.1, eqvAll_refl xs h.2]
    rfl
end
/-- data that == may be asked of, at most n deep -/
def Fine (n : Nat) (d : D) : Prop := ∃ p, D.py d = some p ∧ p.canLay0 = true ∧ p.depth ≤ n
theorem eqD_self {n : Nat} {d : D} (h : Fine n d) (hn : n ≤ 64) : eqD d d = some true := by
  obtain ⟨p, h1, h2, h3⟩ := h
  have hs : SeqAt.shaped p = true := by
    unfold SeqAt.shaped
    rw [h2]
    exact decide_eq_true (by omega)
  unfold eqD
  cases e : d.sc with
  | none =>
    simp only [h1]
    rw [if_pos ⟨hs, hs⟩, eqv_refl p h2]
  | some v =>
    have : scal v v = true := by
      cases d <;> cases e <;> rfl
    simp only [this, if_true, decide_true]

def Fines (n : Nat) (ds : List D) : Prop := ∃ es, D.pys ds = some es ∧ PyData.canLayAll0 es = true ∧ PyData.depthAll es ≤ n
section
variable {n m : Nat} {d : D} {ds es : List D}
theorem Fine.mono (h : Fine n d) (l : n ≤ m) : Fine m d := by
  obtain ⟨p, a, b, c⟩ := h
  exact ⟨p, a, b, by omega⟩
theorem Fines.nil : Fines n [] := ⟨[], rfl, rfl, Nat.zero_le _⟩
theorem Fines.cons (h : Fine n d) (k : Fines n ds) : Fines n (d :: ds) := by
  obtain ⟨p, a, b, c⟩ := h
  obtain ⟨ps, a', b', c'⟩ := k
  refine ⟨p :: ps, ?_, ?_, ?_⟩
  · unfold D.pys
    rw [a, a']
  · unfold PyData.canLayAll0
    rw [b, b']
    rfl
  · show max p.depth (PyData.depthAll ps) ≤ n
    omega
theorem Fines.of (h : ∀ d ∈ ds, Fine n d) : Fines n ds := by
  induction ds with
  | nil => exact .nil
  | cons d r ih => exact .cons (h d List.mem_cons_self) (ih fun e he => h e (List.mem_cons_of_mem _ he))
theorem Fine.non : Fine n .non := ⟨.none, rfl, rfl, Nat.zero_le _⟩
theorem Fine.bl (b : Bool) : Fine n (.bl b) := ⟨.bool b, rfl, rfl, Nat.zero_le _⟩
theorem Fine.int (i : Int) : Fine n (.int i) := ⟨.int i, rfl, rfl, Nat.zero_le _⟩
theorem Fine.str {x : Str} (h : PyData.strOk x = true) : Fine n (.str x) := ⟨.str x, rfl, h, Nat.zero_le _⟩
theorem Fine.lst (h : Fines n ds) : Fine (n + 1) (.lst ds) := by
  obtain ⟨es, a, b, c⟩ := h
  refine ⟨.list es, ?_, b, Nat.succ_le_succ c⟩
  unfold D.py
  rw [a]
theorem Fine.tup (h : Fines n ds) : Fine (n + 1) (.tup ds) := by
  obtain ⟨es, a, b, c⟩ := h
  refine ⟨.tuple es, ?_, b, Nat.succ_le_succ c⟩
  unfold D.py
  rw [a]
theorem eqD_nil (h : Fines n ds) (hn : n ≤ 62) : eqD (.lst ds) (.lst []) = some (decide (ds = [])) := by
  obtain ⟨es, a, b, c⟩ := h
  have h1 : D.py (.lst ds) = some (.list es) := by unfold D.py; rw [a]
  have h2 : D.py (.lst []) = some (.list []) := rfl
  have s1 : SeqAt.shaped (.list es) = true := by
    unfold SeqAt.shaped
    rw [show PyData.canLay0 (.list es) = true from b]
    exact decide_eq_true (show PyData.depthAll es + 1 ≤ 64 by omega)
  have s2 : SeqAt.shaped (.list []) = true := rfl
  unfold eqD
  show (match D.py (.lst ds), D.py (.lst []) with
    | some a, some b => if SeqAt.shaped a = true ∧ SeqAt.shaped b = true then some (PyData.eqv a b) else none
    | _, _ => none) = _
  rw [h1, h2]
  show (if SeqAt.shaped (.list es) = true ∧ SeqAt.shaped (.list []) = true then some (PyData.eqv (.list es) (.list [])) else none) = _
  rw [if_pos ⟨s1, s2⟩]
  congr 1
  cases ds with
  | nil => cases a; rfl
  | cons d r =>
    cases es with
    | nil =>
      unfold D.pys at a
      split at a
      · cases a
      · cases a
    | cons e r' => rfl
theorem gEq_nil {x : SV} {k : SV → Prop} (hx : x.data = .lst ds) (h : Fines n ds) (hn : n ≤ 62) : gP (gEq x (.own (.lst []))) k = k (.sh (.bl (decide (ds = [])))) := by
  unfold gEq
  rw [hx, show (SV.own (.lst [])).data = .lst [] from rfl, eqD_nil h hn]
  rfl
theorem gNe_nil {x : SV} {k : SV → Prop} (hx : x.data = .lst ds) (h : Fines n ds) (hn : n ≤ 62) : gP (gNe x (.own (.lst []))) k = k (.sh (.bl (!decide (ds = [])))) := by
  unfold gNe
  rw [hx, show (SV.own (.lst [])).data = .lst [] from rfl, eqD_nil h hn]
  rfl
end

section
variable {k : SV → Prop} {a b c d e f g h i : D}
theorem g_tup5 : gP (gTupX [.sh a, .sh b, .sh c, .sh d, .sh e]) k = k (.sh (.tup [a, b, c, d, e])) := rfl
theorem g_tup6 : gP (gTupX [.sh a, .sh b, .sh c, .sh d, .sh e, .sh f]) k = k (.sh (.tup [a, b, c, d, e, f])) := rfl
theorem g_tup7 : gP (gTupX [.sh a, .sh b, .sh c, .sh d, .sh e, .sh f, .sh g]) k = k (.sh (.tup [a, b, c, d, e, f, g])) := rfl
theorem g_lst7 : gP (gLstX [.sh a, .sh b, .sh c, .sh d, .sh e, .sh f, .sh g]) k = k (.own (.lst [a, b, c, d, e, f, g])) := rfl
theorem g_lst8 : gP (gLstX [.sh a, .sh b, .sh c, .sh d, .sh e, .sh f, .sh g, .sh h]) k = k (.own (.lst [a, b, c, d, e, f, g, h])) := rfl
end
theorem ix_5 {k : SV → Prop} {ds : List D} {a b c d e f : D} : ixP (a :: b :: c :: d :: e :: f :: ds) 5 k = k (.sh f) := ixP_of 5 rfl rfl
theorem ix_6 {k : SV → Prop} {ds : List D} {a b c d e f g : D} : ixP (a :: b :: c :: d :: e :: f :: g :: ds) 6 k = k (.sh g) := ixP_of 6 rfl rfl
theorem enumF_at' {ds : List D} {i : Nat} {d : D} (h : (enumF 0 ds)[i]? = some d) : ∃ e, ds[i]? = some e ∧ d = .tup [.int (i : Nat), e] := by
  obtain ⟨e, h1, h2⟩ := enumF_at h
  exact ⟨e, h1, by rw [h2, Nat.zero_add]⟩
section
variable {k : SV → Prop} {ds es : List D} {l h : Option Int} {j : Int} {ns : List Int}
theorem g_add_lss : gP (gAdd (.sh (.lst ds)) (.sh (.lst es))) k = (ds.length + es.length ≤ sizeLine ∧ k (.own (.lst (ds ++ es)))) := gP_ite
theorem g_add_lst : gP (gAdd (.sh (.lst ds)) (.tr (.lst es))) k = (ds.length + es.length ≤ sizeLine ∧ k (.own (.lst (ds ++ es)))) := gP_ite
theorem g_add_lsb : gP (gAdd (.sh (.lst ds)) (.bo (.lst es))) k = (ds.length + es.length ≤ sizeLine ∧ k (.own (.lst (ds ++ es)))) := gP_ite
theorem g_add_lso : gP (gAdd (.sh (.lst ds)) (.own (.lst es))) k = (ds.length + es.length ≤ sizeLine ∧ k (.own (.lst (ds ++ es)))) := gP_ite
theorem g_add_lts : gP (gAdd (.tr (.lst ds)) (.sh (.lst es))) k = (ds.length + es.length ≤ sizeLine ∧ k (.own (.lst (ds ++ es)))) := gP_ite
theorem g_add_ltt : gP (gAdd (.tr (.lst ds)) (.tr (.lst es))) k = (ds.length + es.length ≤ sizeLine ∧ k (.own (.lst (ds ++ es)))) := gP_ite
theorem g_add_ltb : gP (gAdd (.tr (.lst ds)) (.bo (.lst es))) k = (ds.length + es.length ≤ sizeLine ∧ k (.own (.lst (ds ++ es)))) := gP_ite
theorem g_add_lto : gP (gAdd (.tr (.lst ds)) (.own (.lst es))) k = (ds.length + es.length ≤ sizeLine ∧ k (.own (.lst (ds ++ es)))) := gP_ite
theorem g_add_lbs : gP (gAdd (.bo (.lst ds)) (.sh (.lst es))) k = (ds.length + es.length ≤ sizeLine ∧ k (.own (.lst (ds ++ es)))) := gP_ite
theorem g_add_lbt : gP (gAdd (.bo (.lst ds)) (.tr (.lst es))) k = (ds.length + es.length ≤ sizeLine ∧ k (.own (.lst (ds ++ es)))) := gP_ite
theorem g_add_lbb : gP (gAdd (.bo (.lst ds)) (.bo (.lst es))) k = (ds.length + es.length ≤ sizeLine ∧ k (.own (.lst (ds ++ es)))) := gP_ite
theorem g_add_lbo : gP (gAdd (.bo (.lst ds)) (.own (.lst es))) k = (ds.length + es.length ≤ sizeLine ∧ k (.own (.lst (ds ++ es)))) := gP_ite
theorem g_add_los : gP (gAdd (.own (.lst ds)) (.sh (.lst es))) k = (ds.length + es.length ≤ sizeLine ∧ k (.own (.lst (ds ++ es)))) := gP_ite
theorem g_add_lot : gP (gAdd (.own (.lst ds)) (.tr (.lst es))) k = (ds.length + es.length ≤ sizeLine ∧ k (.own (.lst (ds ++ es)))) := gP_ite
theorem g_add_lob : gP (gAdd (.own (.lst ds)) (.bo (.lst es))) k = (ds.length + es.length ≤ sizeLine ∧ k (.own (.lst (ds ++ es)))) := gP_ite
theorem g_add_loo : gP (gAdd (.own (.lst ds)) (.own (.lst es))) k = (ds.length + es.length ≤ sizeLine ∧ k (.own (.lst (ds ++ es)))) := gP_ite
theorem g_list_s : gP (gList1 [(.sh (.lst ds))]) k = k (.own (.lst ds)) := rfl
theorem g_tuple_s : gP (gTuple1 [(.sh (.lst ds))]) k = k (.sh (.tup ds)) := rfl
theorem g_mul_ls : gP (gMul (.sh (.lst ds)) (.sh (.int j))) k = ((ds.length ≤ 100 ∧ j ≤ 1000 ∧ -1000 ≤ j) ∧ k (.own (.lst (List.replicate j.toNat ds).flatten))) := gP_ite
theorem g_list_t : gP (gList1 [(.tr (.lst ds))]) k = k (.own (.lst ds)) := rfl
theorem g_tuple_t : gP (gTuple1 [(.tr (.lst ds))]) k = k (.sh (.tup ds)) := rfl
theorem g_mul_lt : gP (gMul (.tr (.lst ds)) (.sh (.int j))) k = ((ds.length ≤ 100 ∧ j ≤ 1000 ∧ -1000 ≤ j) ∧ k (.own (.lst (List.replicate j.toNat ds).flatten))) := gP_ite
theorem g_sl_lt : gP (gSl (.tr (.lst ds)) l h) k = k (.own (.lst (cutD ds l h))) := rfl
theorem g_list_b : gP (gList1 [(.bo (.lst ds))]) k = k (.own (.lst ds)) := rfl
theorem g_tuple_b : gP (gTuple1 [(.bo (.lst ds))]) k = k (.sh (.tup ds)) := rfl
theorem g_mul_lb : gP (gMul (.bo (.lst ds)) (.sh (.int j))) k = ((ds.length ≤ 100 ∧ j ≤ 1000 ∧ -1000 ≤ j) ∧ k (.own (.lst (List.replicate j.toNat ds).flatten))) := gP_ite
theorem g_sl_lb : gP (gSl (.bo (.lst ds)) l h) k = k (.own (.lst (cutD ds l h))) := rfl
theorem g_list_o : gP (gList1 [(.own (.lst ds))]) k = k (.own (.lst ds)) := rfl
theorem g_tuple_o : gP (gTuple1 [(.own (.lst ds))]) k = k (.sh (.tup ds)) := rfl
theorem g_mul_lo : gP (gMul (.own (.lst ds)) (.sh (.int j))) k = ((ds.length ≤ 100 ∧ j ≤ 1000 ∧ -1000 ≤ j) ∧ k (.own (.lst (List.replicate j.toNat ds).flatten))) := gP_ite
theorem g_sl_lo : gP (gSl (.own (.lst ds)) l h) k = k (.own (.lst (cutD ds l h))) := rfl
theorem g_list_tup : gP (gList1 [.sh (.tup ds)]) k = k (.own (.lst ds)) := rfl
theorem g_list_scr : gP (gList1 [.sh (.scr ns)]) k = k (.own (.lst (ns.map D.int))) := rfl
theorem g_tuple_tup : gP (gTuple1 [.sh (.tup ds)]) k = k (.sh (.tup ds)) := rfl
theorem g_lrg : gP (gLrg (.sh (.int j))) k = ((0 ≤ j ∧ j ≤ 16777216) ∧ k (.own (.lst (rangeD 0 j.toNat)))) := gP_ite
end

section
variable {ρ : Nv} {i : Nat} {N : Nv → Prop} {L : Out → Prop} {t : Tg} {b c : MS} {en : List D → List D} {ds : List D}
structure lkK (t : Tg) (i : Nat) (en : List D → List D) (b c : MS) (ρ : Nv) (N : Nv → Prop) (L : Out → Prop) : Prop where
  h : (forLk t i en b ρ).wp (fun ρ1 => (c ρ1).wp N L) L
theorem n_seqlk : (seqL (forLk t i en b) c ρ).wp N L = lkK t i en b c ρ N L := w_seq.trans (propext ⟨fun h => ⟨h⟩, fun h => h.h⟩)
theorem n_lk : (forLk t i en b ρ).wp N L = lkK t i en b nxS ρ N L := propext ⟨fun h => ⟨h⟩, fun h => h.h⟩
/-- how a turn's end is read, the list let go -/
def tU (i : Nat) (N C : Nv → Prop) (L : Out → Prop) (o : Out) : Prop := match o with
  | .ct ρ => C ρ | .bk ρ => N (unlk i ρ) | .nx ρ => False | .rt x ρ => L (.rt x (unlk i ρ)) | .exc e ρ => L (.exc e (unlk i ρ)) | .bad => False
theorem tU_ct {C : Nv → Prop} : tU i N C L (.ct ρ) = C ρ := rfl
theorem tU_bk {C : Nv → Prop} : tU i N C L (.bk ρ) = N (unlk i ρ) := rfl
theorem tU_rt {C : Nv → Prop} {x : SV} : tU i N C L (.rt x ρ) = L (.rt x (unlk i ρ)) := rfl
/-- its invariant: the list itself stays -/
theorem lk_inv (I : Nat → Nv → Prop) (e0 : ρ[i]? = some (some (.own (.lst ds)))) (h0 : I 0 (ρ.set i (some (.io (.lst ds))))) (hk : ∀ j ρ, I j ρ → ρ[i]? = some (some (.io (.lst ds))))
    (hs : ∀ j d ρ, (en ds)[j]? = some d → I j ρ → gP (t.put d ρ) fun ρ1 => (b ρ1).wp (I (j + 1)) (tU i (fun ρ1 => (c ρ1).wp N L) (I (j + 1)) L)) (hN : ∀ ρ, I (en ds).length ρ → (c (unlk i ρ)).wp N L) : lkK t i en b c ρ N L := by
  refine ⟨?_⟩
  unfold forLk
  simp only [e0]
  have : ∀ (es : List D) (k : Nat) (ρ : Nv), (∀ j, es[j]? = (en ds)[k + j]?) → k + es.length = (en ds).length → I k ρ → (lkL i ds t b es ρ).wp (fun ρ1 => (c ρ1).wp N L) L := by
    intro es
    induction es with
    | nil =>
      intro k ρ _ e h
      unfold lkL
      rw [if_pos (hk k ρ h)]
      exact hN ρ (by rw [← e]; exact h)
    | cons d es ih =>
      intro k ρ e el h
      have hd : (en ds)[k]? = some d := by have := e 0; simp at this; exact this.symm
      have := hs k d ρ hd h
      unfold lkL
      rw [if_pos (hk k ρ h)]
      cases ep : t.put d ρ with
      | none => rw [ep] at this; exact this.elim
      | some ρ1 =>
        rw [ep] at this
        have this : (b ρ1).wp (I (k + 1)) (tU i (fun ρ1 => (c ρ1).wp N L) (I (k + 1)) L) := this
        have step : ∀ ρ2, I (k + 1) ρ2 → (lkL i ds t b es ρ2).wp (fun ρ1 => (c ρ1).wp N L) L := fun ρ2 h2 => ih (k + 1) ρ2 (fun j => by have := e (j + 1); rw [List.getElem?_cons_succ] at this; rw [this]; congr 1; omega) (by rw [List.length_cons] at el; omega) h2
        show ((b ρ1).unl i _).wp _ _
        cases eb : b ρ1 with
        | nx ρ2 => rw [eb] at this; exact step ρ2 this
        | ct ρ2 => rw [eb] at this; exact step ρ2 this
        | bk ρ2 => rw [eb] at this; exact this
        | rt x ρ2 => rw [eb] at this; exact this
        | exc e ρ2 => rw [eb] at this; exact this
        | bad => rw [eb] at this; exact this
  exact this (en ds) 0 _ (fun j => by rw [Nat.zero_add]) (Nat.zero_add _) h0
end
end R

/-! M5: == and in over plain data without truths: identity. -/
namespace R
open PySem PySem.Spec PyProof.Rows L2
mutual
/-- plain data, no truths in it -/
def D.nb : D → Bool
  | .non => true | .int _ => true | .str _ => true
  | .tup ds => D.nbs ds
  | .lst ds => D.nbs ds
  | .bl _ => false | .dic _ _ => false | .ins _ _ => false | .scr _ => false | .kt _ => false | .ty _ => false | .exn _ _ => false | .cls _ => false
def D.nbs : List D → Bool
  | [] => true
  | d :: ds => D.nb d && D.nbs ds
end
theorem nbs_iff : ∀ {ds : List D}, D.nbs ds = true ↔ ∀ d ∈ ds, d.nb = true
  | [] => ⟨(fun _ d h => by cases h), (fun _ => by rw [D.nbs])⟩
  | d :: ds => by
    unfold D.nbs
    rw [Bool.and_eq_true, nbs_iff (ds := ds), List.forall_mem_cons]
theorem nb_tup {ds : List D} : D.nb (.tup ds) = D.nbs ds := by rw [D.nb]
theorem nb_lst {ds : List D} : D.nb (.lst ds) = D.nbs ds := by rw [D.nb]
mutual
theorem eqv_nb : ∀ (d e : D) (p q : PyData), D.py d = some p → D.py e = some q → d.nb = true → e.nb = true → (PyData.eqv p q = true ↔ d = e)
  | .non, e, p, q, h1, h2, _, h4 => by
    unfold D.py at h1; cases h1
    cases e <;> unfold D.py at h2 <;> (try (split at h2)) <;> cases h2 <;> (try (unfold D.nb at h4; cases h4)) <;> unfold PyData.eqv <;> simp
  | .int i, e, p, q, h1, h2, _, h4 => by
    unfold D.py at h1; cases h1
    cases e <;> unfold D.py at h2 <;> (try (split at h2)) <;> cases h2 <;> (try (unfold D.nb at h4; cases h4)) <;> unfold PyData.eqv <;> simp
  | .str i, e, p, q, h1, h2, _, h4 => by
    unfold D.py at h1; cases h1
    cases e <;> unfold D.py at h2 <;> (try (split at h2)) <;> cases h2 <;> (try (unfold D.nb at h4; cases h4)) <;> unfold PyData.eqv <;> simp
  | .tup ds, e, p, q, h1, h2, h3, h4 => by
    unfold D.py at h1
    split at h1
    · rename_i es he
      cases h1
      cases e with
      | tup fs =>
        unfold D.py at h2
        split at h2
        · rename_i gs hg
          cases h2
          unfold PyData.eqv
          rw [D.nb] at h3 h4
          rw [eqvAll_nb ds fs es gs he hg h3 h4]
          simp
        · cases h2
      | _ => unfold D.py at h2 <;> (try (split at h2)) <;> cases h2 <;> (try (unfold D.nb at h4; cases h4)) <;> unfold PyData.eqv <;> simp
    · cases h1
  | .lst ds, e, p, q, h1, h2, h3, h4 => by
    unfold D.py at h1
    split at h1
    · rename_i es he
      cases h1
      cases e with
      | lst fs =>
        unfold D.py at h2
        split at h2
        · rename_i gs hg
          cases h2
          unfold PyData.eqv
          rw [D.nb] at h3 h4
          rw [eqvAll_nb ds fs es gs he hg h3 h4]
          simp
        · cases h2
      | _ => unfold D.py at h2 <;> (try (split at h2)) <;> cases h2 <;> (try (unfold D.nb at h4; cases h4)) <;> unfold PyData.eqv <;> simp
    · cases h1
  | .bl _, _, _, _, _, _, h, _ => by unfold D.nb at h; cases h
  | .dic _ _, _, _, _, _, _, h, _ => by unfold D.nb at h; cases h
  | .ins _ _, _, _, _, _, _, h, _ => by unfold D.nb at h; cases h
  | .scr _, _, _, _, _, _, h, _ => by unfold D.nb at h; cases h
  | .kt _, _, _, _, _, _, h, _ => by unfold D.nb at h; cases h
  | .ty _, _, _, _, _, _, h, _ => by unfold D.nb at h; cases h
theorem eqvAll_nb : ∀ (ds fs : List D) (es gs : List PyData), D.pys ds = some es → D.pys fs = some gs → D.nbs ds = true → D.nbs fs = true → (PyData.eqvAll es gs = true ↔ ds = fs)
  | [], [], es, gs, h1, h2, _, _ => by cases h1; cases h2; unfold PyData.eqvAll; simp
  | [], f :: fs, es, gs, h1, h2, _, _ => by
    cases h1
    unfold D.pys at h2
    split at h2
    · cases h2; unfold PyData.eqvAll; simp
    · cases h2
  | d :: ds, [], es, gs, h1, h2, _, _ => by
    cases h2
    unfold D.pys at h1
    split at h1
    · cases h1; unfold PyData.eqvAll; simp
    · cases h1
  | d :: ds, f :: fs, es, gs, h1, h2, h3, h4 => by
    unfold D.pys at h1 h2
    unfold D.nbs at h3 h4
    rw [Bool.and_eq_true] at h3 h4
    split at h1
    · rename_i e1 es1 a1 a2
      cases h1
      split at h2
      · rename_i g1 gs1 b1 b2
        cases h2
        unfold PyData.eqvAll
        rw [Bool.and_eq_true, eqv_nb d f e1 g1 a1 b1 h3.1 h4.1, eqvAll_nb ds fs es1 gs1 a2 b2 h3.2 h4.2]
        simp
      · cases h2
    · cases h1
end
/-- plain data without truths, n deep -/
structure Nb (n : Nat) (d : D) : Prop where
  f : Fine n d
  b : d.nb = true
section
variable {n m : Nat} {d e : D} {ds es : List D}
theorem Nb.mono (h : Nb n d) (l : n ≤ m) : Nb m d := ⟨h.f.mono l, h.b⟩
theorem Nb.non : Nb n .non := ⟨.non, rfl⟩
theorem Nb.int (i : Int) : Nb n (.int i) := ⟨.int i, rfl⟩
theorem Nb.str {x : Str} (h : PyData.strOk x = true) : Nb n (.str x) := ⟨.str h, rfl⟩
theorem Nb.tup (h : ∀ d ∈ ds, Nb n d) : Nb (n + 1) (.tup ds) := ⟨.tup (.of fun d hd => (h d hd).f), by rw [D.nb]; exact nbs_iff.mpr fun d hd => (h d hd).b⟩
theorem Nb.lst (h : ∀ d ∈ ds, Nb n d) : Nb (n + 1) (.lst ds) := ⟨.lst (.of fun d hd => (h d hd).f), by rw [D.nb]; exact nbs_iff.mpr fun d hd => (h d hd).b⟩
open Classical in
theorem eqD_nb (hd : Nb n d) (he : Nb m e) (hn : n ≤ 64) (hm : m ≤ 64) : eqD d e = some (decide (d = e)) := by
  obtain ⟨⟨p, p1, p2, p3⟩, db⟩ := hd
  obtain ⟨⟨q, q1, q2, q3⟩, eb⟩ := he
  have hs : SeqAt.shaped p = true := by
    unfold SeqAt.shaped
    rw [p2]
    exact decide_eq_true (by omega)
  have ht : SeqAt.shaped q = true := by
    unfold SeqAt.shaped
    rw [q2]
    exact decide_eq_true (by omega)
  have ee := eqv_nb d e p q p1 q1 db eb
  have deep : (match d.py, e.py with
    | some a, some b => if SeqAt.shaped a = true ∧ SeqAt.shaped b = true then some (PyData.eqv a b) else none
    | _, _ => none) = some (decide (d = e)) := by
    rw [p1, q1]
    show (if SeqAt.shaped p = true ∧ SeqAt.shaped q = true then some (PyData.eqv p q) else none) = _
    rw [if_pos ⟨hs, ht⟩]
    congr 1
    rw [Bool.eq_iff_iff, ee, decide_eq_true_eq]
  unfold eqD
  cases e1 : d.sc with
  | none => exact deep
  | some v =>
    cases e2 : e.sc with
    | none => exact deep
    | some w =>
      have h3 : scal v w = true ∧ (v = w ↔ d = e) := by
        cases d <;> cases e1 <;> cases e <;> cases e2 <;> first | (unfold D.nb at db; cases db; done) | (unfold D.nb at eb; cases eb; done) | exact ⟨rfl, by simp⟩
      show (if scal v w = true then some (decide (v = w)) else none) = _
      rw [if_pos h3.1]
      congr 1
      rw [Bool.eq_iff_iff, decide_eq_true_eq, decide_eq_true_eq]
      exact h3.2
open Classical in
theorem gEq_nb {x y : SV} {k : SV → Prop} (hd : Nb n x.data) (he : Nb m y.data) (hn : n ≤ 64) (hm : m ≤ 64) : gP (gEq x y) k = k (.sh (.bl (decide (x.data = y.data)))) := by
  unfold gEq; rw [eqD_nb hd he hn hm]; rfl
open Classical in
theorem gNe_nb {x y : SV} {k : SV → Prop} (hd : Nb n x.data) (he : Nb m y.data) (hn : n ≤ 64) (hm : m ≤ 64) : gP (gNe x y) k = k (.sh (.bl (!decide (x.data = y.data)))) := by
  unfold gNe; rw [eqD_nb hd he hn hm]; rfl
theorem gEq_self {x y : SV} {k : SV → Prop} (hd : Fine n x.data) (e : y.data = x.data) (hn : n ≤ 64) : gP (gEq x y) k = k (.sh (.bl true)) := by
  unfold gEq; rw [e, eqD_self hd hn]; rfl
theorem gNe_self {x y : SV} {k : SV → Prop} (hd : Fine n x.data) (e : y.data = x.data) (hn : n ≤ 64) : gP (gNe x y) k = k (.sh (.bl false)) := by
  unfold gNe; rw [e, eqD_self hd hn]; rfl
theorem scs_of : ∀ {ds : List D} {vs : List V}, D.scs ds = some vs → ∀ d ∈ ds, d.sc.isSome = true
  | [], _, _, d, h => by cases h
  | d :: ds, vs, h, e, he => by
    unfold D.scs at h
    split at h
    · rename_i v vs' h1 h2
      rcases List.mem_cons.mp he with rfl | he
      · rw [h1]; rfl
      · exact scs_of h2 e he
    · cases h
open Classical in
theorem inV_nb {x : D} {v : V} (hx : x.sc = some v) (bx : x.nb = true) : ∀ {ds : List D} {vs : List V}, D.scs ds = some vs → D.nbs ds = true → inV v vs = decide (x ∈ ds)
  | [], vs, h, _ => by cases h; rw [decide_eq_false (by simp)]; rfl
  | d :: ds, vs, h, hb => by
    unfold D.scs at h
    unfold D.nbs at hb
    rw [Bool.and_eq_true] at hb
    split at h
    · rename_i w ws h1 h2
      cases h
      have ih := inV_nb hx bx h2 hb.2
      unfold inV at ih ⊢
      rw [List.any_cons, ih]
      have h3 : eqV w v = true ↔ x = d := by
        have hd := hb.1
        cases x <;> cases hx <;> cases d <;> cases h1 <;> first | (unfold D.nb at bx; cases bx; done) | (unfold D.nb at hd; cases hd; done) | (unfold eqV; simp; done) | (unfold eqV; simp; exact eq_comm)
      rw [Bool.eq_iff_iff, Bool.or_eq_true, decide_eq_true_eq, decide_eq_true_eq, List.mem_cons, h3]
    · cases h
theorem any_nb {x : D} {p : PyData} (hx : x.py = some p) (bx : x.nb = true) : ∀ {ds : List D} {ps : List PyData}, D.pys ds = some ps → D.nbs ds = true → ((ps.any fun z => PyData.eqv z p) = true ↔ x ∈ ds)
  | [], ps, h, _ => by cases h; simp
  | d :: ds, ps, h, hb => by
    unfold D.pys at h
    unfold D.nbs at hb
    rw [Bool.and_eq_true] at hb
    split at h
    · rename_i w ws h1 h2
      cases h
      rw [List.any_cons, Bool.or_eq_true, any_nb hx bx h2 hb.2, eqv_nb d x w p h1 hx hb.1 bx, List.mem_cons]
      constructor
      · rintro (h | h)
        · exact .inl h.symm
        · exact .inr h
      · rintro (h | h)
        · exact .inl h.symm
        · exact .inr h
    · cases h
open Classical in
theorem inD_nb {x y : D} {ds : List D} (hx : Nb n x) (hy : ∀ d ∈ ds, Nb m d) (hn : n ≤ 64) (hm : m ≤ 62) (hi : y.items = some ds) (hs : ∀ z, y ≠ .str z) : inD x y = some (decide (x ∈ ds)) := by
  have hb : D.nbs ds = true := nbs_iff.mpr fun d hd => (hy d hd).b
  obtain ⟨es, e1, e2, e3⟩ : Fines m ds := .of fun d hd => (hy d hd).f
  obtain ⟨⟨p, p1, p2, p3⟩, bx⟩ := hx
  have s1 : SeqAt.shaped p = true := by
    unfold SeqAt.shaped
    rw [p2]
    exact decide_eq_true (by omega)
  have s2 : SeqAt.shaped (.list es) = true := by
    unfold SeqAt.shaped
    rw [show PyData.canLay0 (.list es) = true from e2]
    exact decide_eq_true (show PyData.depthAll es + 1 ≤ 64 by omega)
  have deep : (match x.py, D.pys ds with
    | some e, some es => if SeqAt.shaped e = true ∧ SeqAt.shaped (.list es) = true then some (es.any fun z => PyData.eqv z e) else none
    | _, _ => none) = some (decide (x ∈ ds)) := by
    rw [p1, e1]
    show (if SeqAt.shaped p = true ∧ SeqAt.shaped (.list es) = true then some (es.any fun z => PyData.eqv z p) else none) = _
    rw [if_pos ⟨s1, s2⟩]
    congr 1
    rw [Bool.eq_iff_iff, any_nb p1 bx e1 hb, decide_eq_true_eq]
  have : inD x y = (match y.items with
    | some ds => match x.sc, D.scs ds with
      | some v, some vs => some (inV v vs)
      | _, _ => match x.py, D.pys ds with
        | some e, some es => if SeqAt.shaped e = true ∧ SeqAt.shaped (.list es) = true then some (es.any fun z => PyData.eqv z e) else none
        | _, _ => none
    | none => none) := by
    cases y <;> first | exact (hs _ rfl).elim | rfl
  rw [this, hi]
  simp only
  cases h1 : x.sc with
  | none => exact deep
  | some v =>
    cases h2 : D.scs ds with
    | none => exact deep
    | some vs =>
      simp only
      rw [inV_nb h1 bx h2 hb]
open Classical in
theorem gIn_nb {x y : SV} {k : SV → Prop} (hx : Nb n x.data) (hy : ∀ d ∈ ds, Nb m d) (hn : n ≤ 64) (hm : m ≤ 62) (hi : y.data = .tup ds ∨ y.data = .lst ds) : gP (gIn x y) k = k (.sh (.bl (decide (x.data ∈ ds)))) := by
  have hd : ∀ t ps, y.data ≠ .dic t ps := fun t ps e => by rcases hi with h | h <;> rw [h] at e <;> cases e
  have : gIn x y = gInf (fun b => b) x y := by
    unfold gIn gInD
    rcases hi with h | h <;> rw [h]
  rw [this]
  unfold gInf
  rw [inD_nb hx hy hn hm (ds := ds) (by rcases hi with h | h <;> rw [h] <;> rfl) (fun z e => by rcases hi with h | h <;> rw [h] at e <;> cases e)]
  rfl
open Classical in
theorem gNotIn_nb {x y : SV} {k : SV → Prop} (hx : Nb n x.data) (hy : ∀ d ∈ ds, Nb m d) (hn : n ≤ 64) (hm : m ≤ 62) (hi : y.data = .tup ds ∨ y.data = .lst ds) : gP (gNotIn x y) k = k (.sh (.bl (!decide (x.data ∈ ds)))) := by
  have : gNotIn x y = gInf (fun b => !b) x y := by
    unfold gNotIn gInD
    rcases hi with h | h <;> rw [h]
  rw [this]
  unfold gInf
  rw [inD_nb hx hy hn hm (ds := ds) (by rcases hi with h | h <;> rw [h] <;> rfl) (fun z e => by rcases hi with h | h <;> rw [h] at e <;> cases e)]
  rfl
end
theorem g_tup0 {k : SV → Prop} : gP (gTupX []) k = k (.sh (.tup [])) := rfl
theorem g_isi_tlst_lst {ds : List D} {k : SV → Prop} : gP (gIsi [.tr (.lst ds), .sh (.ty "list")]) k = k (.sh (.bl true)) := by unfold gIsi un2 gIsi1; rfl
theorem g_isi_blst_lst {ds : List D} {k : SV → Prop} : gP (gIsi [.bo (.lst ds), .sh (.ty "list")]) k = k (.sh (.bl true)) := by unfold gIsi un2 gIsi1; rfl
theorem g_isi_lst_tup {ds : List D} {k : SV → Prop} : gP (gIsi [.sh (.lst ds), .sh (.ty "tuple")]) k = k (.sh (.bl false)) := by unfold gIsi un2 gIsi1; rfl
theorem g_isi_non_tup {k : SV → Prop} : gP (gIsi [.sh .non, .sh (.ty "tuple")]) k = k (.sh (.bl false)) := by unfold gIsi un2 gIsi1; rfl
theorem g_isi_tup_str {ds : List D} {k : SV → Prop} : gP (gIsi [.sh (.tup ds), .sh (.ty "str")]) k = k (.sh (.bl false)) := by unfold gIsi un2 gIsi1; rfl
theorem g_isi_int_str {i : Int} {k : SV → Prop} : gP (gIsi [.sh (.int i), .sh (.ty "str")]) k = k (.sh (.bl false)) := by unfold gIsi un2 gIsi1; rfl
theorem g_isi_non_str {k : SV → Prop} : gP (gIsi [.sh .non, .sh (.ty "str")]) k = k (.sh (.bl false)) := by unfold gIsi un2 gIsi1; rfl
/-! the sorts -/
section
variable {ns : List Int} {k : SV → Prop}
theorem ints_map : ∀ {ns : List Int}, D.ints (ns.map D.int) = some ns
  | [] => rfl
  | n :: ns => by
    rw [List.map_cons]
    unfold D.ints
    rw [ints_map]
theorem gSorted_ints {x : SV} (h : x.data.items = some (ns.map D.int)) : gP (gSorted [x]) k = k (.own (.lst ((isort ns).map D.int))) := by
  show gP (gSorted1 x) k = _
  unfold gSorted1
  rw [h]
  simp only [ints_map]
  rfl
theorem tints_map {d : Nat} : ∀ {rows : List (List Int)}, (∀ r ∈ rows, r.length = d ∧ ∀ m ∈ r, 0 ≤ m ∧ m < 1000) → D.tints d (rows.map fun r => D.tup (r.map D.int)) = some rows
  | [], _ => rfl
  | r :: rows, h => by
    rw [List.map_cons]
    unfold D.tints
    rw [ints_map, tints_map fun r hr => h r (List.mem_cons_of_mem _ hr)]
    have h0 := h r List.mem_cons_self
    simp only [h0.1, true_and]
    rw [if_pos]
    exact List.all_eq_true.mpr fun m hm => decide_eq_true (h0.2 m hm)
theorem gSorted_tups {x : SV} {d : Nat} {rows : List (List Int)} (h : x.data = .lst (rows.map fun r => D.tup (r.map D.int))) (h0 : rows ≠ []) (hd : 1 ≤ d) (hr : ∀ r ∈ rows, r.length = d ∧ ∀ m ∈ r, 0 ≤ m ∧ m < 1000) (hl : rows.length ≤ 63) (ha : asc 1000 rows = true) : gP (gSorted [x]) k = k (.own (.lst (rows.map fun r => D.tup (r.map D.int)))) := by
  show gP (gSorted1 x) k = _
  cases rows with
  | nil => exact absurd rfl h0
  | cons r rows =>
    unfold gSorted1
    rw [List.map_cons] at h
    have h1 : x.data.items = some (D.tup (r.map D.int) :: rows.map fun r => D.tup (r.map D.int)) := by rw [h]; rfl
    have h2 : D.ints (D.tup (r.map D.int) :: rows.map fun r => D.tup (r.map D.int)) = none := by unfold D.ints; rfl
    have h3 := tints_map (d := (r.map D.int).length) (rows := r :: rows) (by rw [List.length_map, (hr r List.mem_cons_self).1]; exact hr)
    rw [List.map_cons] at h3
    simp only [h1, h2, h, h3]
    rw [if_pos ⟨by rw [List.length_map, (hr r List.mem_cons_self).1]; exact hd, by rw [List.length_map]; rw [List.length_cons] at hl; omega, ha⟩]
    rfl
end
end R

/-! M6: readings of R15..R21 (lent calls, own tuples, enumerate and zip, index, pop, dicts by pairs). -/
namespace R
open PySem PySem.Spec PyProof.Rows L2
section
variable {ρ : Nv} {a : Option SV} {i j n : Nat} {d e : D} {o o' : O} {Q : SV → Nv → Prop} {E : Ex → Nv → Prop} {ma mo m : M SV} {ms : M (List SV)} {QA : List SV → Nv → Prop} {N : Nv → Prop} {L : Out → Prop} {q : Bool} {ds es : List D} {k : SV → Prop} {k' : List D → Prop}
/-! walks -/
def sqP (d : D) (k : List D → Prop) : Prop := gP d.seq fun bd => k bd.2
theorem n_sq_lst {k : List D → Prop} : sqP (.lst ds) k = k ds := rfl
theorem n_sq_tup {k : List D → Prop} : sqP (.tup ds) k = k ds := rfl
theorem n_sq_kt {k : List D → Prop} : sqP (.kt ds) k = k ds := rfl
theorem n_sqsh : sqP (SV.sh d).data k' = sqP d k' := rfl
theorem n_sqtl : sqP (SV.tr (.lst ds)).data k' = k' ds := rfl
theorem n_sqol : sqP (SV.own (.lst ds)).data k' = k' ds := rfl
theorem n_sqbl : sqP (SV.bo (.lst ds)).data k' = k' ds := rfl
def qtN (q : Bool) (x : SV) (p : Prop) : Prop := (x.st || q) = true ∧ p
theorem n_qt_sh {p : Prop} : qtN q (.sh d) p = p := propext ⟨fun h => h.2, fun h => ⟨rfl, h⟩⟩
theorem n_qt_bo {p : Prop} : qtN q (.bo o) p = p := propext ⟨fun h => h.2, fun h => ⟨rfl, h⟩⟩
theorem n_qt_tr {p : Prop} : qtN true (.tr o) p = p := propext ⟨fun h => h.2, fun h => ⟨rfl, h⟩⟩
theorem n_qt_own {p : Prop} : qtN true (.own o) p = p := propext ⟨fun h => h.2, fun h => ⟨rfl, h⟩⟩
def enS (q : Bool) (xs : List SV) (k : List D → Prop) : Prop := match xs with
  | [x] => sqP x.data fun ds => qtN q x (k (enumF 0 ds))
  | _ => False
theorem n_enS {x : SV} {k : List D → Prop} : enS q [x] k = sqP x.data fun ds => qtN q x (k (enumF 0 ds)) := rfl
theorem n_itE2 {QD : List D → Nv → Prop} : (itE2 q ms ρ).wp QD E = (ms ρ).wp (fun xs ρ1 => enS q xs fun ds => QD ds ρ1) E := by
  unfold itE2
  rw [wp_bind]
  congr 1
  funext xs ρ1
  unfold enS
  cases xs with
  | nil => rfl
  | cons x r =>
    cases r with
    | cons y r => rfl
    | nil =>
      show Res.wp (match x.data.seq with | some (_, ds) => if (x.st || q) = true then _ else _ | none => _) QD E = gP x.data.seq _
      cases x.data.seq with
      | none => rfl
      | some ds =>
        show (if (x.st || q) = true then _ else _ : Res Nv (List D)).wp QD E = (_ ∧ _)
        rw [wp_ite, show (Res.bad : Res Nv (List D)).wp QD E = False from rfl, if_and]
        rfl
def zpS (q : Bool) (xs : List SV) (k : List D → Prop) : Prop := match xs with
  | [x, y] => sqP x.data fun ds => sqP y.data fun es => qtN q x (qtN q y (k (zipF ds es)))
  | _ => False
theorem n_zpS {x y : SV} {k : List D → Prop} : zpS q [x, y] k = sqP x.data fun ds => sqP y.data fun es => qtN q x (qtN q y (k (zipF ds es))) := rfl
theorem n_itZ {QD : List D → Nv → Prop} : (itZ q ms ρ).wp QD E = (ms ρ).wp (fun xs ρ1 => zpS q xs fun ds => QD ds ρ1) E := by
  unfold itZ
  rw [wp_bind]
  congr 1
  funext xs ρ1
  unfold zpS
  cases xs with
  | nil => rfl
  | cons x r =>
    cases r with
    | nil => rfl
    | cons y r =>
      cases r with
      | cons z r => rfl
      | nil =>
        show Res.wp (match x.data.seq, y.data.seq with | some (_, ds), some (_, es) => if (x.st || q) = true ∧ (y.st || q) = true then _ else _ | _, _ => _) QD E = gP x.data.seq _
        cases x.data.seq with
        | none => rfl
        | some b =>
          show _ = gP y.data.seq _
          cases y.data.seq with
          | none => rfl
          | some c =>
            show (if (x.st || q) = true ∧ (y.st || q) = true then _ else _ : Res Nv (List D)).wp QD E = (_ ∧ (_ ∧ _))
            rw [wp_ite, show (Res.bad : Res Nv (List D)).wp QD E = False from rfl, if_and, and_assoc]
            rfl
/-! lent calls -/
def lnN (i : Nat) (ρ : Nv) (k : O → Prop) : Prop := gP (lentO i ρ) k
section
variable {ko : O → Prop} {xs as : List SV} {kl : List SV → Prop}
theorem n_lnS : lnN (i + 1) (a :: ρ) ko = lnN i ρ ko := rfl
theorem n_lno : lnN 0 (some (.own o) :: ρ) ko = ko o := rfl
theorem n_lni : lnN 0 (some (.io o) :: ρ) ko = ko o := rfl
def bkN (i : Nat) (o : O) (ρ : Nv) (N : Nv → Prop) : Prop := N (backO i o ρ)
theorem backO_S : backO (i + 1) o (a :: ρ) = a :: backO i o ρ := by
  show (match ρ[i]? with
    | some (some (SV.own _)) => List.set (a :: ρ) (i + 1) (some (SV.own o))
    | some (some (SV.io _)) => List.set (a :: ρ) (i + 1) (some (SV.io o))
    | _ => a :: ρ) = a :: (match ρ[i]? with
    | some (some (SV.own _)) => List.set ρ i (some (SV.own o))
    | some (some (SV.io _)) => List.set ρ i (some (SV.io o))
    | _ => ρ)
  rcases ρ[i]? with _ | _ | x <;> first | rfl | (cases x <;> rfl)
theorem n_bkS : bkN (i + 1) o (a :: ρ) N = bkN i o ρ fun r => N (a :: r) := by
  unfold bkN
  rw [backO_S]
theorem n_bko : bkN 0 o' (some (.own o) :: ρ) N = N (some (.own o') :: ρ) := rfl
theorem n_bki : bkN 0 o' (some (.io o) :: ρ) N = N (some (.io o') :: ρ) := rfl
/-- the arguments, the j-th lent -/
def clN (xs : List SV) (n : Nat) (j : Nat) (o : O) (k : List SV → Prop) : Prop := (∀ x ∈ xs, x.st = true) ∧ xs.length = n ∧ k (xs.set j (.io o))
def cmN (xs : List SV) (n : Nat) (k : List SV → Prop) : Prop := (∀ x ∈ xs, x.st = true) ∧ xs.length = n ∧ k xs
theorem n_cm0 : cmN [] 0 kl = kl [] := propext ⟨fun h => h.2.2, fun h => ⟨by simp, rfl, h⟩⟩
theorem cm_cons {x : SV} (hx : x.st = true) : cmN (x :: xs) (n + 1) kl = cmN xs n fun as => kl (x :: as) := by
  unfold cmN
  rw [List.forall_mem_cons, List.length_cons, Nat.add_right_cancel_iff, and_iff_right hx]
theorem n_cmsh : cmN (.sh d :: xs) (n + 1) kl = cmN xs n fun as => kl (.sh d :: as) := cm_cons rfl
theorem n_cmbo : cmN (.bo o :: xs) (n + 1) kl = cmN xs n fun as => kl (.bo o :: as) := cm_cons rfl
theorem n_cl0 : clN (.sh d :: xs) (n + 1) 0 o kl = cmN xs n fun as => kl (.io o :: as) := by
  unfold clN cmN
  rw [List.forall_mem_cons, List.length_cons, Nat.add_right_cancel_iff, and_iff_right (show (SV.sh d).st = true from rfl)]
  rfl
theorem cl_cons {x : SV} (hx : x.st = true) : clN (x :: xs) (n + 1) (j + 1) o kl = clN xs n j o fun as => kl (x :: as) := by
  unfold clN
  rw [List.forall_mem_cons, List.length_cons, Nat.add_right_cancel_iff, and_iff_right hx]
  rfl
theorem n_clsh : clN (.sh d :: xs) (n + 1) (j + 1) o kl = clN xs n j o fun as => kl (.sh d :: as) := cl_cons rfl
theorem n_clbo : clN (.bo o' :: xs) (n + 1) (j + 1) o kl = clN xs n j o fun as => kl (.bo o' :: as) := cl_cons rfl
/-- what the lent one became -/
def ioN (j : Nat) (as : List SV) (k : O → Prop) : Prop := match as[j]? with | some (.io o) => k o | _ => False
theorem n_ioS {x : SV} : ioN (j + 1) (x :: as) ko = ioN j as ko := rfl
theorem n_io0 : ioN 0 (.io o :: as) ko = ko o := rfl
theorem n_callL {f : MF} : (callL n f i j ms ρ).wp Q E = (ms ρ).wp (fun xs ρ1 => lnN i ρ1 fun o => clN xs n j o fun as => (f as).wp (fun r bs => ioN j bs fun o' => bkN i o' ρ1 fun ρ2 => Q r ρ2) fun e bs => ioN j bs fun o' => bkN i o' ρ1 fun ρ2 => E e ρ2) E := by
  unfold callL
  rw [wp_bind]
  congr 1
  funext xs ρ1
  unfold lnN
  cases lentO i ρ1 with
  | none => rfl
  | some o =>
    show (if (∀ x ∈ xs, x.st = true) ∧ xs.length = n then _ else _ : Res Nv SV).wp Q E = (_ ∧ (_ ∧ _))
    rw [wp_ite, show (Res.bad : Res Nv SV).wp Q E = False from rfl, if_and, and_assoc]
    congr 2
    show _ = (f (xs.set j (.io o))).wp _ _
    generalize f (xs.set j (.io o)) = r
    cases r with
    | ok r as =>
      show _ = ioN j as _
      unfold ioN
      dsimp only
      rcases as[j]? with _ | x
      · rfl
      · cases x <;> rfl
    | exc e as =>
      show _ = ioN j as _
      unfold ioN
      dsimp only
      rcases as[j]? with _ | x
      · rfl
      · cases x <;> rfl
    | bad => rfl
theorem n_laL : (laL i ms ρ).wp QA E = lnN i ρ fun _ => (ms ρ).wp (fun xs ρ1 => QA (.sh .non :: xs) ρ1) E := by
  unfold laL lnN
  cases lentO i ρ with
  | none => rfl
  | some o =>
    show ((ms ρ).bind _).wp QA E = _
    rw [wp_bind]
    rfl
end
/-! own tuples -/
def pk1N (i : Nat) (ρ : Nv) (k : FV → Nv → Prop) : Prop := gP (pkE1 (.s i) ρ) fun r => k r.1 r.2
section
variable {kf : FV → Nv → Prop} {kx : List FV → Nv → Prop} {l : List PkE} {t : Nat} {ps : List (DKey × D)}
theorem pkE1_S : pkE1 (.s (i + 1)) (a :: ρ) = (pkE1 (.s i) ρ).map fun r => (r.1, a :: r.2) := by
  unfold pkE1
  simp only [List.getElem?_cons_succ]
  rcases ρ[i]? with _ | _ | x
  · rfl
  · rfl
  · cases x with
    | own o => cases o <;> rfl
    | _ => rfl
theorem n_pk1S : pk1N (i + 1) (a :: ρ) kf = pk1N i ρ fun x r => kf x (a :: r) := by
  unfold pk1N
  rw [pkE1_S, gP_map]
theorem n_pk1sh : pk1N 0 (some (.sh d) :: ρ) kf = kf (.sh d) (some (.sh d) :: ρ) := rfl
theorem n_pk1l : pk1N 0 (some (.own (.lst ds)) :: ρ) kf = kf (.lst ds) (none :: ρ) := rfl
theorem n_pk1d : pk1N 0 (some (.own (.dic t ps)) :: ρ) kf = kf (.dic t ps) (none :: ρ) := rfl
def pkN (l : List PkE) (ρ : Nv) (k : List FV → Nv → Prop) : Prop := gP (pkEs l ρ) fun r => k r.1 r.2
theorem n_pk0 : pkN [] ρ kx = kx [] ρ := rfl
theorem n_pks : pkN (.s i :: l) ρ kx = pk1N i ρ fun x ρ1 => pkN l ρ1 fun xs ρ2 => kx (x :: xs) ρ2 := by
  unfold pkN pk1N
  show gP (match pkE1 (.s i) ρ with | some (x, ρ1) => _ | none => _) _ = _
  cases pkE1 (.s i) ρ with
  | none => rfl
  | some r =>
    show gP (match pkEs l r.2 with | some (xs, ρ2) => _ | none => _) _ = gP (pkEs l r.2) _
    cases pkEs l r.2 <;> rfl
theorem n_pkk {z : Int} : pkN (.k z :: l) ρ kx = pkN l ρ fun xs ρ2 => kx (.sh (.int z) :: xs) ρ2 := by
  unfold pkN
  show gP (match pkEs l ρ with | some (xs, ρ2) => _ | none => _) _ = gP (pkEs l ρ) _
  cases pkEs l ρ <;> rfl
theorem n_pkT : (pkT l ρ).wp Q E = pkN l ρ fun xs ρ1 => Q (.own (.pk true xs)) ρ1 := by
  unfold pkT pkN
  cases pkEs l ρ <;> rfl
def pxN (x : SV) (k : List FV → Prop) : Prop := match x with | .own (.pk true xs) => k xs | _ => False
theorem n_px {xs : List FV} {k : List FV → Prop} : pxN (.own (.pk true xs)) k = k xs := rfl
def ptN (is : List Nat) (xs : List FV) (ρ : Nv) (N : Nv → Prop) : Prop := gP (putP is xs ρ) N
theorem n_pt0 : ptN [] [] ρ N = N ρ := rfl
theorem n_ptc {is : List Nat} {x : FV} {xs : List FV} : ptN (i :: is) (x :: xs) ρ N = eN ρ i x.own fun r => ptN is xs r N := by
  have : x.own.ret = true := by cases x <;> rfl
  show gP (if i < ρ.length then putP is xs (ρ.set i (some x.own)) else none) N = (_ ∧ _ ∧ gP (putP is xs (ρ.set i (some x.own))) N)
  by_cases h : i < ρ.length
  · rw [if_pos h]; exact propext ⟨fun z => ⟨this, h, z⟩, fun z => z.2.2⟩
  · rw [if_neg h]; exact propext ⟨fun z => z.elim, fun z => h z.2.1⟩
theorem n_fosh : FV.own (.sh d) = .sh d := rfl
theorem n_fol : FV.own (.lst ds) = .own (.lst ds) := rfl
theorem n_fod : FV.own (.dic t ps) = .own (.dic t ps) := rfl
theorem n_unpP {is : List Nat} : (unpP is m ρ).wp N L = (m ρ).wp (fun x ρ1 => pxN x fun xs => ptN is xs ρ1 N) fun e ρ1 => L (.exc e ρ1) := by
  unfold unpP
  rw [ow_bindS]
  congr 1
  funext x ρ1
  cases x with
  | own o =>
    cases o with
    | pk b xs =>
      cases b with
      | true =>
        show Out.wp (match putP is xs ρ1 with | some ρ2 => .nx ρ2 | none => .bad) N L = gP (putP is xs ρ1) N
        cases putP is xs ρ1 <;> rfl
      | false => rfl
    | _ => rfl
  | _ => rfl
end
/-! methods of values -/
def btN (Ty : String) (x : SV) (p : Prop) : Prop := x.data.bty = some Ty ∧ p
section
variable {p : Prop} {g : SV → List SV → Option SV}
theorem n_btsl : btN "list" (.sh (.lst ds)) p = p := propext ⟨fun h => h.2, fun h => ⟨rfl, h⟩⟩
theorem n_bttl : btN "list" (.tr (.lst ds)) p = p := propext ⟨fun h => h.2, fun h => ⟨rfl, h⟩⟩
theorem n_btol : btN "list" (.own (.lst ds)) p = p := propext ⟨fun h => h.2, fun h => ⟨rfl, h⟩⟩
theorem n_btbl : btN "list" (.bo (.lst ds)) p = p := propext ⟨fun h => h.2, fun h => ⟨rfl, h⟩⟩
theorem n_meth {Ty : String} : (methM Ty g mo ms ρ).wp Q E = (mo ρ).wp (fun x ρ1 => btN Ty x ((ms ρ1).wp (fun xs ρ2 => gP (g x xs) fun z => Q z ρ2) E)) E := by
  unfold methM
  rw [wp_bind]
  congr 1
  funext x ρ1
  rw [wp_ite, show (Res.bad : Res Nv SV).wp Q E = False from rfl, if_and, wp_bind]
  show (_ ∧ _) = (_ ∧ _)
  congr 2
  funext xs ρ2
  cases g x xs <;> rfl
end
/-- the place of one that is in -/
theorem gIndex_mem {n m : Nat} {x y : SV} (hx : x.data = .lst ds) (hd : ∀ d ∈ ds, Nb m d) (hy : Nb n y.data) (hn : n ≤ 64) (hm : m ≤ 62) (hmem : y.data ∈ ds) (h : ∀ j : Nat, ds[j]? = some y.data → (∀ i < j, ds[i]? ≠ some y.data) → k (.sh (.int j))) : gP (gIndex x [y]) k := by
  obtain ⟨es, e1, e2, e3⟩ : Fines m ds := .of fun d hd' => (hd d hd').f
  obtain ⟨⟨p, p1, p2, p3⟩, by_⟩ := hy
  have s1 : SeqAt.shaped p = true := by
    unfold SeqAt.shaped
    rw [p2]
    exact decide_eq_true (by omega)
  have s2 : SeqAt.shaped (.list es) = true := by
    unfold SeqAt.shaped
    rw [show PyData.canLay0 (.list es) = true from e2]
    exact decide_eq_true (show PyData.depthAll es + 1 ≤ 64 by omega)
  unfold gIndex
  rw [hx]
  show gP (match D.pys ds, y.data.py with
    | some es, some e => if SeqAt.shaped (.list es) = true ∧ SeqAt.shaped e = true then (es.findIdx? fun z => PyData.eqv z e).map fun j => SV.sh (.int (j : Nat)) else none
    | _, _ => none) k
  rw [e1, p1]
  show gP (if SeqAt.shaped (.list es) = true ∧ SeqAt.shaped p = true then _ else none) k
  rw [if_pos ⟨s2, s1⟩, gP_map]
  have at_ : ∀ {ds : List D} {es : List PyData}, D.pys ds = some es → ∀ i : Nat, (es[i]? = none ∧ ds[i]? = none) ∨ ∃ d q, ds[i]? = some d ∧ es[i]? = some q ∧ d.py = some q := by
    intro ds
    induction ds with
    | nil => intro es h i; cases h; exact .inl ⟨by simp, by simp⟩
    | cons d ds ih =>
      intro es h i
      unfold D.pys at h
      split at h
      · rename_i e1 es1 a1 a2
        cases h
        cases i with
        | zero => exact .inr ⟨d, e1, rfl, rfl, a1⟩
        | succ i => rw [List.getElem?_cons_succ, List.getElem?_cons_succ]; exact ih a2 i
      · cases h
  cases ef : es.findIdx? (fun z => PyData.eqv z p) with
  | none =>
    exfalso
    obtain ⟨i, hi⟩ := List.getElem?_of_mem hmem
    rcases at_ e1 i with ⟨h1, h2⟩ | ⟨d, q, h1, h2, h3⟩
    · rw [hi] at h2; cases h2
    · rw [hi] at h1; cases h1
      have := List.findIdx?_eq_none_iff.mp ef q (List.mem_of_getElem? h2)
      rw [(eqv_nb _ _ q p h3 p1 by_ by_).mpr rfl] at this
      cases this
  | some j =>
    obtain ⟨hj, h1, h2⟩ := List.findIdx?_eq_some_iff_getElem.mp ef
    refine h j ?_ fun i hi hc => ?_
    · rcases at_ e1 j with ⟨g1, g2⟩ | ⟨d, q, g1, g2, g3⟩
      · rw [List.getElem?_eq_getElem hj] at g1; cases g1
      · rw [List.getElem?_eq_getElem hj] at g2
        cases g2
        rw [g1]
        congr 1
        exact (eqv_nb d _ _ p g3 p1 (hd d (List.mem_of_getElem? g1)).b by_).mp h1
    · rcases at_ e1 i with ⟨g1, g2⟩ | ⟨d, q, g1, g2, g3⟩
      · rw [hc] at g2; cases g2
      · rw [hc] at g1; cases g1
        have hil : i < es.length := (List.getElem?_eq_some_iff.mp g2).1
        have := h2 i hi
        rw [List.getElem?_eq_getElem hil] at g2
        cases g2
        rw [(eqv_nb _ _ _ p g3 p1 by_ by_).mpr rfl] at this
        exact this rfl
theorem n_popI {km : SV → O → Prop} : mP (gPopI (.lst (d :: ds)) [.sh (.int 0)]) km = km (.sh d) (.lst ds) := rfl
/-! items stored -/
theorem n_setli {z : Int} {km : SV → O → Prop} : mP ((gSetIx (.lst ds) (.sh (.int z)) (.sh d)).map fun o' => (SV.sh .non, o')) km = gP (ixN ds.length z) fun j => km (.sh .non) (.lst (ds.set j d)) := by
  unfold mP
  rw [gP_map]
  show gP ((ixN ds.length z).map _) _ = _
  rw [gP_map]
theorem ixN_nat {z : Int} {n : Nat} {kn : Nat → Prop} (h0 : 0 ≤ z) (h1 : z < n) (h : kn z.toNat) : gP (ixN n z) kn := by
  unfold ixN
  rw [if_pos h0, if_pos h1]
  exact h
def kII (a b : Int) : DKey := .inr (.inl [.inl a, .inl b])
theorem n_setdII {x y : Int} {ps : List (DKey × D)} {km : SV → O → Prop} : mP ((gSetIx (.dic 1 ps) (.sh (.tup [.int x, .int y])) (.sh d)).map fun o' => (SV.sh .non, o')) km = (ps.length < sizeLine ∧ km (.sh .non) (.dic 1 (dput ps (kII x y) d))) := by
  unfold mP
  rw [gP_map]
  exact gP_ite
section
variable {x y : Int} {ps : List (DKey × D)}
theorem g_ix_d1 : gP (gIx (.sh (.dic 1 ps)) (.sh (.tup [.int x, .int y]))) k = dxP ps (kII x y) k := gP_map
theorem g_ix_td1 : gP (gIx (.tr (.dic 1 ps)) (.sh (.tup [.int x, .int y]))) k = dxP ps (kII x y) k := gP_map
theorem g_ix_bd1 : gP (gIx (.bo (.dic 1 ps)) (.sh (.tup [.int x, .int y]))) k = dxP ps (kII x y) k := gP_map
theorem g_in_d1 : gP (gIn (.sh (.tup [.int x, .int y])) (.sh (.dic 1 ps))) k = k (.sh (.bl (dget ps (kII x y)).isSome)) := rfl
theorem g_nin_d1 : gP (gNotIn (.sh (.tup [.int x, .int y])) (.sh (.dic 1 ps))) k = k (.sh (.bl (!(dget ps (kII x y)).isSome))) := rfl
theorem g_isN {d : D} : gP (gIsN (.sh d) (.sh .non)) k = k (.sh (.bl d.isNon)) := rfl
theorem g_notN {d : D} : gP (gNotN (.sh d) (.sh .non)) k = k (.sh (.bl (!d.isNon))) := rfl
theorem n_non_non : D.isNon .non = true := rfl
theorem n_non_tup : D.isNon (.tup ds) = false := rfl
theorem n_non_int : D.isNon (.int x) = false := rfl
theorem n_non_str {z : Str} : D.isNon (.str z) = false := rfl
theorem g_mul2_t : gP (gMul2 (.sh (.tup ds)) (.sh (.int x))) k = ((ds.length ≤ 100 ∧ x ≤ 1000 ∧ -1000 ≤ x) ∧ k (.sh (.tup (List.replicate x.toNat ds).flatten))) := gP_ite
theorem g_walk_slst {k : List D → Prop} : gP (D.walk (SV.data (.own (.lst ds)))) k = k ds := rfl
theorem n_abs_i : gP (gAbs [.sh (.int x)]) k = k (.sh (.int (if x < 0 then -x else x))) := rfl
end
/-! slices -/
theorem cut_take {i : Nat} : cutD ds none (some (i : Int)) = ds.take i := by
  unfold cutD
  rw [HT.sIx_none, HT.sIx_nat, List.drop_zero, Nat.sub_zero]
  rw [List.take_eq_take_iff]
  omega
theorem cut_drop {i : Nat} : cutD ds (some (i : Int)) none = ds.drop i := by
  unfold cutD
  rw [HT.sIx_none, HT.sIx_nat]
  by_cases h : i ≤ ds.length
  · rw [Nat.min_eq_left h, List.take_of_length_le (by rw [List.length_drop]; omega)]
  · rw [Nat.min_eq_right (by omega), List.drop_of_length_le (Nat.le_refl _), List.drop_of_length_le (by omega)]
    simp
end
/-- a new instance -/
def mkP (C : Str) (r : Res (List SV) SV) (k : List (Str × FV) → Prop) : Prop := match r with
  | .ok (.sh .non) (.io (.ins C' fs) :: _) => C' = C ∧ k fs
  | _ => False
theorem mkP_of {C : Str} {r : Res (List SV) SV} {k : List (Str × FV) → Prop} {fs : List (Str × FV)} {bs : List SV} (h : r = .ok (.sh .non) (.io (.ins C fs) :: bs)) : mkP C r k = k fs := by
  rw [h]
  exact propext ⟨fun z => z.2, fun z => ⟨rfl, z⟩⟩
theorem n_make {C : Str} {n : Nat} {f : MF} {ms : M (List SV)} {ρ : Nv} {Q : SV → Nv → Prop} {E : Ex → Nv → Prop} : (makeM C n f ms ρ).wp Q E = (ms ρ).wp (fun xs ρ1 => cN xs n fun as => mkP C (f (.io (.ins C []) :: as)) fun fs => Q (.own (.ins C fs)) ρ1) E := by
  unfold makeM
  rw [wp_bind]
  congr 1
  funext xs ρ1
  rw [wp_ite, show (Res.bad : Res Nv SV).wp Q E = False from rfl, if_and, and_assoc]
  show (_ ∧ (_ ∧ _)) = (_ ∧ (_ ∧ _))
  congr 2
  show _ = mkP C (f (.io (.ins C []) :: xs.map SV.toArg)) _
  unfold mkP
  generalize f (.io (.ins C []) :: xs.map SV.toArg) = r
  cases r with
  | ok r as =>
    cases r with
    | sh d =>
      cases d with
      | non =>
        cases as with
        | nil => rfl
        | cons x as =>
          cases x with
          | io o =>
            cases o with
            | ins C' fs =>
              show (if C' = C then (Res.ok (.own (.ins C fs)) ρ1 : Res Nv SV) else .bad).wp Q E = (C' = C ∧ _)
              rw [wp_ite, show (Res.bad : Res Nv SV).wp Q E = False from rfl, if_and]
              rfl
            | _ => rfl
          | _ => rfl
      | _ => rfl
    | _ => rfl
  | exc e as => rfl
  | bad => rfl
end R

/-! M7: fields of the self at slot 0; the class Frame's fields. -/
namespace R
open PySem PySem.Spec PyProof.Rows L2
section
variable {ρ : Nv} {a : Option SV} {i j m : Nat} {d e : D} {o o' : O} {Q : SV → Nv → Prop} {E : Ex → Nv → Prop} {ma mb : M SV} {ms : M (List SV)} {N : Nv → Prop} {L : Out → Prop} {ds es : List D} {k : SV → Prop} {C n : Str} {fs : List (Str × FV)} {gs : List (Str × D)} {t : Nat} {ps : List (DKey × D)}
def fvP (y : SV) (k : FV → Prop) : Prop := gP y.fv? k
section
variable {kf : FV → Prop}
theorem n_fvsh : fvP (.sh d) kf = kf (.sh d) := rfl
theorem n_fvl : fvP (.own (.lst ds)) kf = kf (.lst ds) := rfl
theorem n_fvd : fvP (.own (.dic t ps)) kf = kf (.dic t ps) := rfl
end
def sfN (C n : Str) (z : FV) (ρ : Nv) (N : Nv → Prop) : Prop := match ρ with
  | some (.io (.ins C' fs)) :: r => (C' = C ∧ fs.length < 1000) ∧ N (some (.io (.ins C' (putFa n z fs))) :: r)
  | some (.own (.ins C' fs)) :: r => (C' = C ∧ fs.length < 1000) ∧ N (some (.own (.ins C' (putFa n z fs))) :: r)
  | _ => False
theorem n_sf {z : FV} : sfN C n z (some (.io (.ins C fs)) :: ρ) N = (fs.length < 1000 ∧ N (some (.io (.ins C (putFa n z fs))) :: ρ)) := propext ⟨fun h => ⟨h.1.2, h.2⟩, fun h => ⟨⟨rfl, h.1⟩, h.2⟩⟩
theorem n_setF : (setFS C 0 n ma ρ).wp N L = (ma ρ).wp (fun y ρ1 => fvP y fun z => sfN C n z ρ1 N) fun e ρ1 => L (.exc e ρ1) := by
  unfold setFS
  rw [ow_bindS]
  congr 1
  funext y ρ1
  unfold fvP
  cases y.fv? with
  | none => rfl
  | some z =>
    show _ = sfN C n z ρ1 N
    unfold sfN
    dsimp only
    rcases ρ1 with _ | ⟨_ | x, r⟩
    · rfl
    · rfl
    · cases x with
      | own o =>
        cases o with
        | ins C' fs =>
          show Out.wp (if C' = C ∧ fs.length < 1000 then _ else .bad) N L = _
          rw [ow_ite, show (Out.bad : Out).wp N L = False from rfl, if_and]
          rfl
        | _ => rfl
      | io o =>
        cases o with
        | ins C' fs =>
          show Out.wp (if C' = C ∧ fs.length < 1000 then _ else .bad) N L = _
          rw [ow_ite, show (Out.bad : Out).wp N L = False from rfl, if_and]
          rfl
        | _ => rfl
      | _ => rfl
def gfN (C n : Str) (ρ : Nv) (k : O → Prop) : Prop := gP (getPl (.f C 0 n) ρ) k
def ufN (C n : Str) (ρ : Nv) (g : O → Option (SV × O)) (Q : SV → Nv → Prop) : Prop := gP (getPl (.f C 0 n) ρ) fun o => mP (g o) fun x o' => Q x (putPl (.f C 0 n) o' ρ)
def fcP (n : Str) (fs : List (Str × FV)) (k : O → Prop) : Prop := gP ((fs.lookup n).bind FV.cont) k
section
variable {g : O → Option (SV × O)} {ko : O → Prop}
theorem n_gf : gfN C n (some (.io (.ins C fs)) :: ρ) ko = fcP n fs ko := by
  show gP (if C = C then (fs.lookup n).bind FV.cont else none) ko = _
  rw [if_pos rfl]; rfl
theorem n_uf : ufN C n (some (.io (.ins C fs)) :: ρ) g Q = fcP n fs fun o => mP (g o) fun x o' => Q x (some (.io (.ins C (putFs n o'.fv fs))) :: ρ) := by
  show gP (if C = C then (fs.lookup n).bind FV.cont else none) _ = _
  rw [if_pos rfl]; rfl
theorem n_mutf {Ty : String} {g : O → List SV → Option (SV × O)} : (mutM (.f C 0 n) Ty g ms ρ).wp Q E = gfN C n ρ fun o => tyN o Ty ((ms ρ).wp (fun xs ρ1 => ufN C n ρ1 (fun o1 => g o1 xs) Q) E) := by
  unfold mutM gfN
  cases getPl (.f C 0 n) ρ with
  | none => rfl
  | some o =>
    show (if o.ty = Ty then _ else _ : Res Nv SV).wp Q E = (_ ∧ _)
    rw [wp_ite, show (Res.bad : Res Nv SV).wp Q E = False from rfl, if_and, wp_bind]
    congr 2
    funext xs ρ1
    unfold ufN
    cases getPl (.f C 0 n) ρ1 with
    | none => rfl
    | some o1 =>
      show _ = gP (g o1 xs) _
      dsimp only
      cases g o1 xs <;> rfl
theorem n_setIxf {mi me : M SV} : (setIxS (.f C 0 n) mi me ρ).wp N L = (me ρ).wp (fun y ρ1 => shP y fun _ => gfN C n ρ1 fun _ => (mi ρ1).wp (fun k ρ2 => ufN C n ρ2 (fun o => (gSetIx o k y).map fun o' => (.sh .non, o')) fun _ r => N r) fun e ρ1 => L (.exc e ρ1)) fun e ρ1 => L (.exc e ρ1) := by
  unfold setIxS
  rw [ow_bindS]
  congr 1
  funext y ρ1
  cases y with
  | sh d =>
    show _ = gfN C n ρ1 _
    unfold gfN
    dsimp only
    cases getPl (.f C 0 n) ρ1 with
    | none => rfl
    | some o =>
      show Out.wp ((mi ρ1).bindS _) N L = _
      rw [ow_bindS]
      show _ = (mi ρ1).wp _ _
      congr 1
      funext k ρ2
      unfold ufN
      cases getPl (.f C 0 n) ρ2 with
      | none => rfl
      | some o =>
        show _ = gP ((gSetIx o k (.sh d)).map _) _
        dsimp only
        cases gSetIx o k (.sh d) <;> rfl
  | _ => rfl
end
/-! fields read -/
def lkP {A : Type} (n : Str) (fs : List (Str × A)) (k : A → Prop) : Prop := gP (fs.lookup n) k
theorem g_fld_t : gP (gFld C n (.tr (.ins C fs))) k = lkP n fs fun y => k y.tr := by
  show gP (if C = C then _ else _) k = _
  rw [if_pos rfl, gP_map]; rfl
theorem g_fld_b : gP (gFld C n (.bo (.ins C fs))) k = lkP n fs fun y => k y.bo := by
  show gP (if C = C then _ else _) k = _
  rw [if_pos rfl, gP_map]; rfl
theorem g_fld_o : gP (gFld C n (.own (.ins C fs))) k = lkP n fs fun y => k y.own := by
  show gP (if C = C then _ else _) k = _
  rw [if_pos rfl, gP_map]; rfl
theorem g_fld_s : gP (gFld C n (.sh (.ins C gs))) k = (C ≠ "" ∧ lkP n gs fun d => k (.sh d)) := by
  show gP (if C = C ∧ C ≠ "" then _ else _) k = _
  rw [gP_ite, gP_map]
  exact propext ⟨fun h => ⟨h.1.2, h.2⟩, fun h => ⟨⟨rfl, h.1⟩, h.2⟩⟩
theorem n_ftsh : FV.tr (.sh d) = .sh d := rfl
theorem n_ftl : FV.tr (.lst ds) = .tr (.lst ds) := rfl
theorem n_ftd : FV.tr (.dic t ps) = .tr (.dic t ps) := rfl
theorem n_fbsh : FV.bo (.sh d) = .sh d := rfl
theorem n_fbl : FV.bo (.lst ds) = .bo (.lst ds) := rfl
theorem n_fbd : FV.bo (.dic t ps) = .bo (.dic t ps) := rfl
theorem n_ofvl : O.fv (.lst ds) = .lst ds := rfl
theorem n_ofvd : O.fv (.dic t ps) = .dic t ps := rfl
theorem n_frne : (("Frame" : Str) ≠ "") = True := eq_true (by decide)
end
/-! the Frame -/
/-- the frame of a plan -/
def frD (plan : D) (rows prs : List D) (cr pl : List (DKey × D)) : D := .ins "Frame" [("plan", plan), ("families", .lst rows), ("crew", .dic 0 cr), ("pairs", .lst prs), ("places", .dic 1 pl)]
section
variable {ρ : Nv} {Q : SV → Nv → Prop} {plan : D} {rows prs : List D} {cr pl : List (DKey × D)} {k : SV → Prop}
theorem n_ffr : fN (some (.own (.ins "Frame" [("plan", .sh plan), ("families", .lst rows), ("crew", .dic 0 cr), ("pairs", .lst prs), ("places", .dic 1 pl)])) :: ρ) 0 Q = Q (.sh (frD plan rows prs cr pl)) (some (.sh (frD plan rows prs cr pl)) :: ρ) := rfl
theorem n_fzfr {kz : SV → Prop} : fzN (.own (.ins "Frame" [("plan", .sh plan), ("families", .lst rows), ("crew", .dic 0 cr), ("pairs", .lst prs), ("places", .dic 1 pl)])) kz = kz (.sh (frD plan rows prs cr pl)) := rfl
theorem g_fr1 : gP (gFld "Frame" "families" (.sh (frD plan rows prs cr pl))) k = k (.sh (.lst rows)) := rfl
theorem g_fr2 : gP (gFld "Frame" "crew" (.sh (frD plan rows prs cr pl))) k = k (.sh (.dic 0 cr)) := rfl
theorem g_fr3 : gP (gFld "Frame" "pairs" (.sh (frD plan rows prs cr pl))) k = k (.sh (.lst prs)) := rfl
theorem g_fr4 : gP (gFld "Frame" "places" (.sh (frD plan rows prs cr pl))) k = k (.sh (.dic 1 pl)) := rfl
theorem g_fr5 : gP (gFld "Frame" "plan" (.sh (frD plan rows prs cr pl))) k = k (.sh plan) := rfl
end
section
variable {A : Type} {a b c d e x : A} {k : A → Prop} {p q r s t z : FV} {ko : O → Prop}
theorem n_lk1 : lkP "plan" [("plan", a), ("families", b), ("crew", c), ("pairs", d), ("places", e)] k = k a := rfl
theorem n_lk2 : lkP "families" [("plan", a), ("families", b), ("crew", c), ("pairs", d), ("places", e)] k = k b := rfl
theorem n_lk3 : lkP "crew" [("plan", a), ("families", b), ("crew", c), ("pairs", d), ("places", e)] k = k c := rfl
theorem n_lk4 : lkP "pairs" [("plan", a), ("families", b), ("crew", c), ("pairs", d), ("places", e)] k = k d := rfl
theorem n_lk5 : lkP "places" [("plan", a), ("families", b), ("crew", c), ("pairs", d), ("places", e)] k = k e := rfl
theorem n_lk6 : lkP "families" [("plan", a), ("families", b), ("crew", c)] k = k b := rfl
theorem n_fdsh {d : D} : FV.data (.sh d) = d := rfl
theorem n_fdl {ds : List D} : FV.data (.lst ds) = .lst ds := rfl
theorem n_fdd {n : Nat} {ps : List (DKey × D)} : FV.data (.dic n ps) = .dic n ps := rfl
theorem n_pf1 : putFa "plan" z [] = ([("plan", z)] : List (Str × FV)) := rfl
theorem n_pf2 : putFa "families" z [("plan", p)] = ([("plan", p), ("families", z)] : List (Str × FV)) := rfl
theorem n_pf3 : putFa "crew" z [("plan", p), ("families", q)] = ([("plan", p), ("families", q), ("crew", z)] : List (Str × FV)) := rfl
theorem n_pf4 : putFa "pairs" z [("plan", p), ("families", q), ("crew", r)] = ([("plan", p), ("families", q), ("crew", r), ("pairs", z)] : List (Str × FV)) := rfl
theorem n_pf5 : putFa "places" z [("plan", p), ("families", q), ("crew", r), ("pairs", s)] = ([("plan", p), ("families", q), ("crew", r), ("pairs", s), ("places", z)] : List (Str × FV)) := rfl
theorem n_ps1 : putFs "crew" z [("plan", p), ("families", q), ("crew", r)] = ([("plan", p), ("families", q), ("crew", z)] : List (Str × FV)) := rfl
theorem n_ps2 : putFs "pairs" z [("plan", p), ("families", q), ("crew", r), ("pairs", s), ("places", t)] = ([("plan", p), ("families", q), ("crew", r), ("pairs", z), ("places", t)] : List (Str × FV)) := rfl
theorem n_ps3 : putFs "places" z [("plan", p), ("families", q), ("crew", r), ("pairs", s), ("places", t)] = ([("plan", p), ("families", q), ("crew", r), ("pairs", s), ("places", z)] : List (Str × FV)) := rfl
theorem n_fc1 {n : Nat} {ps : List (DKey × D)} : fcP "crew" [("plan", p), ("families", q), ("crew", .dic n ps)] ko = ko (.dic n ps) := rfl
theorem n_fc2 {ds : List D} : fcP "pairs" [("plan", p), ("families", q), ("crew", r), ("pairs", .lst ds), ("places", t)] ko = ko (.lst ds) := rfl
theorem n_fc3 {n : Nat} {ps : List (DKey × D)} : fcP "places" [("plan", p), ("families", q), ("crew", r), ("pairs", s), ("places", .dic n ps)] ko = ko (.dic n ps) := rfl
end
end R

/-! M8: crews, pairs and places of a plan, as data. -/
namespace R
open PySem PySem.Spec PyProof.Rows L2
def nameOf (d : D) : D := match d with | .tup (n :: _) => n | _ => .non
def name2 (d : D) : D := match d with | .tup (_ :: n :: _) => n | _ => .non
open Classical in
noncomputable def crewN : Nat → List D → D → List D
  | _, [], _ => []
  | j, f :: fs, n => if nameOf f = n then .int (j : Nat) :: crewN (j + 1) fs n else crewN (j + 1) fs n
open Classical in
theorem crewN_app {f n : D} : ∀ {j : Nat} {xs : List D}, crewN j (xs ++ [f]) n = crewN j xs n ++ if nameOf f = n then [.int ((j + xs.length : Nat) : Int)] else []
  | j, [] => by simp [crewN]
  | j, x :: xs => by
    rw [List.cons_append, crewN, crewN, crewN_app, List.length_cons, show j + 1 + xs.length = j + (xs.length + 1) by omega]
    by_cases h : nameOf x = n
    · rw [if_pos h, if_pos h]; rfl
    · rw [if_neg h, if_neg h]
theorem crewN_len {n : D} : ∀ {j : Nat} {xs : List D}, (crewN j xs n).length ≤ xs.length
  | j, [] => by simp [crewN]
  | j, x :: xs => by
    have := crewN_len (n := n) (j := j + 1) (xs := xs)
    rw [crewN]
    split <;> simp <;> omega
theorem crewN_mem {n d : D} : ∀ {j : Nat} {xs : List D}, d ∈ crewN j xs n → ∃ k : Nat, d = .int ((j + k : Nat) : Int) ∧ ∃ f, xs[k]? = some f ∧ nameOf f = n
  | j, [], h => by simp [crewN] at h
  | j, x :: xs, h => by
    rw [crewN] at h
    have more : d ∈ crewN (j + 1) xs n → ∃ k : Nat, d = .int ((j + k : Nat) : Int) ∧ ∃ f, (x :: xs)[k]? = some f ∧ nameOf f = n := fun h => by
      obtain ⟨k, e, f, hf, hn⟩ := crewN_mem h
      exact ⟨k + 1, by rw [e, show j + 1 + k = j + (k + 1) by omega], f, by rw [List.getElem?_cons_succ]; exact hf, hn⟩
    split at h
    · rename_i e
      rcases List.mem_cons.mp h with rfl | h
      · exact ⟨0, rfl, x, rfl, e⟩
      · exact more h
    · exact more h
theorem crewN_int {n d : D} {j : Nat} {xs : List D} (h : d ∈ crewN j xs n) : ∃ k : Nat, d = .int k := by
  obtain ⟨k, e, _⟩ := crewN_mem h
  exact ⟨_, e⟩
open Classical in
noncomputable def pairsO (r one : D) (os : List D) : List D := (os.filter fun o => decide (¬ one = o)).map fun o => .tup [r, one, o]
noncomputable def pairsR (r : D) (ones os : List D) : List D := ones.flatMap fun one => pairsO r one os
noncomputable def pairsF (rows roads : List D) : List D := roads.flatMap fun r => pairsR r (crewN 0 rows (nameOf r)) (crewN 0 rows (name2 r))
theorem take_snoc {α : Type} {xs : List α} {i : Nat} {x : α} (h : xs[i]? = some x) : xs.take (i + 1) = xs.take i ++ [x] := by
  rw [List.take_succ, h]; rfl
section
variable {r one o : D} {os ones rows roads : List D}
open Classical in
theorem pairsO_app : pairsO r one (os ++ [o]) = pairsO r one os ++ if one = o then [] else [.tup [r, one, o]] := by
  unfold pairsO
  rw [List.filter_append, List.map_append]
  congr 1
  by_cases h : one = o
  · rw [if_pos h, List.filter_cons, if_neg (by simp [h])]; rfl
  · rw [if_neg h, List.filter_cons, if_pos (by simp [h])]; rfl
theorem pairsR_app : pairsR r (ones ++ [one]) os = pairsR r ones os ++ pairsO r one os := by
  unfold pairsR
  rw [List.flatMap_append, List.flatMap_cons, List.flatMap_nil, List.append_nil]
theorem pairsF_app : pairsF rows (roads ++ [r]) = pairsF rows roads ++ pairsR r (crewN 0 rows (nameOf r)) (crewN 0 rows (name2 r)) := by
  unfold pairsF
  rw [List.flatMap_append, List.flatMap_cons, List.flatMap_nil, List.append_nil]
theorem pairsO_len : (pairsO r one os).length ≤ os.length := by
  unfold pairsO
  rw [List.length_map]
  exact List.length_filter_le _ _
theorem pairsR_len (h : os.length ≤ 48) : (pairsR r ones os).length ≤ 48 * ones.length := by
  induction ones with
  | nil => simp [pairsR]
  | cons a as ih =>
    have : pairsR r (a :: as) os = pairsO r a os ++ pairsR r as os := by unfold pairsR; rw [List.flatMap_cons]
    rw [this, List.length_append, List.length_cons]
    have := pairsO_len (r := r) (one := a) (os := os)
    omega
theorem pairsF_len (h : rows.length ≤ 48) : (pairsF rows roads).length ≤ 2304 * roads.length := by
  induction roads with
  | nil => simp [pairsF]
  | cons a as ih =>
    have : pairsF rows (a :: as) = pairsR a (crewN 0 rows (nameOf a)) (crewN 0 rows (name2 a)) ++ pairsF rows as := by unfold pairsF; rw [List.flatMap_cons]
    rw [this, List.length_append, List.length_cons]
    have h1 := crewN_len (n := nameOf a) (j := 0) (xs := rows)
    have h2 := crewN_len (n := name2 a) (j := 0) (xs := rows)
    have := pairsR_len (r := a) (ones := crewN 0 rows (nameOf a)) (os := crewN 0 rows (name2 a)) (by omega)
    omega
theorem pairsF_mem {d : D} (h : d ∈ pairsF rows roads) : ∃ r ∈ roads, ∃ a b : Nat, d = .tup [r, .int a, .int b] ∧ (∃ f, rows[a]? = some f ∧ nameOf f = nameOf r) ∧ (∃ f, rows[b]? = some f ∧ nameOf f = name2 r) ∧ a ≠ b := by
  unfold pairsF pairsR pairsO at h
  obtain ⟨r, hr, h⟩ := List.mem_flatMap.mp h
  obtain ⟨one, h1, h⟩ := List.mem_flatMap.mp h
  obtain ⟨o, h2, rfl⟩ := List.mem_map.mp h
  rw [List.mem_filter] at h2
  obtain ⟨a, rfl, ha⟩ := crewN_mem h1
  obtain ⟨b, rfl, hb⟩ := crewN_mem h2.1
  refine ⟨r, hr, a, b, by rw [Nat.zero_add, Nat.zero_add], ha, hb, fun e => ?_⟩
  subst e
  simp at h2
/-- the places of pairs -/
def PlOk (prs : List D) (ps : List (DKey × D)) : Prop := ps.length ≤ prs.length ∧ ∀ (a b : Int) v, dget ps (kII a b) = some v → ∃ (j : Nat) (r : D), v = .int j ∧ prs[j]? = some (.tup [r, .int a, .int b])
theorem PlOk.nil : PlOk [] [] := ⟨Nat.le_refl _, fun _ _ _ h => by cases h⟩
theorem kII_inj {a b c d : Int} : kII a b = kII c d ↔ a = c ∧ b = d := by
  unfold kII
  constructor
  · intro h
    injection h with h
    injection h with h
    injection h with h1 h2
    injection h2 with h2 _
    exact ⟨by injection h1, by injection h2⟩
  · rintro ⟨rfl, rfl⟩; rfl
theorem PlOk.put {prs : List D} {ps : List (DKey × D)} (h : PlOk prs ps) (a b : Int) : PlOk (prs ++ [.tup [r, .int a, .int b]]) (dput ps (kII a b) (.int prs.length)) := by
  refine ⟨?_, fun c d v e => ?_⟩
  · have := dput_length (ps := ps) (k := kII a b) (d := .int prs.length)
    have := h.1
    rw [List.length_append]; simp; omega
  · rw [dget_dput] at e
    by_cases q : kII c d = kII a b
    · rw [if_pos q] at e
      cases e
      obtain ⟨rfl, rfl⟩ := kII_inj.mp q
      exact ⟨_, r, rfl, by rw [List.getElem?_append_right (Nat.le_refl _), Nat.sub_self]; rfl⟩
    · rw [if_neg q] at e
      obtain ⟨j, r', e1, e2⟩ := h.2 c d v e
      exact ⟨j, r', e1, by rw [List.getElem?_append_left (List.getElem?_eq_some_iff.mp e2).1]; exact e2⟩
/-- the crews of names -/
def CrOk (rows fams : List D) (ps : List (DKey × D)) : Prop := ∀ f ∈ fams, ∀ s, nameOf f = .str s → dget ps (.inl (.inr s)) = some (.lst (crewN 0 rows (.str s)))
theorem CrOk.put {fams : List D} {f : D} {s : Str} {ps : List (DKey × D)} (h : CrOk rows fams ps) (e : nameOf f = .str s) : CrOk rows (fams ++ [f]) (dput ps (.inl (.inr s)) (.lst (crewN 0 rows (.str s)))) := by
  intro g hg t ht
  rw [dget_dput]
  by_cases q : (Sum.inl (.inr t) : DKey) = .inl (.inr s)
  · rw [if_pos q]
    injection q with q
    injection q with q
    subst q
    rfl
  · rw [if_neg q]
    rcases List.mem_append.mp hg with hg | hg
    · exact h g hg t ht
    · rw [List.mem_singleton] at hg
      subst hg
      rw [ht] at e
      cases e
      exact (q rfl).elim
/-! sorted letters -/
def LetD (d : D) : Prop := ∃ (m : Str) (n : Int), d = .tup [.str m, .int n] ∧ PyData.strOk m = true ∧ -999 ≤ n ∧ n ≤ 999
theorem lets_pys : ∀ {ds : List D}, (∀ d ∈ ds, LetD d) → ∃ es, D.pys ds = some es ∧ ∀ e ∈ es, ∃ m n, e = PyData.tuple [.str m, .int n]
  | [], _ => ⟨[], rfl, by simp⟩
  | d :: ds, h => by
    obtain ⟨es, e1, e2⟩ := lets_pys fun d hd => h d (List.mem_cons_of_mem _ hd)
    obtain ⟨m, n, rfl, _⟩ := h d List.mem_cons_self
    refine ⟨.tuple [.str m, .int n] :: es, ?_, fun e he => ?_⟩
    · unfold D.pys
      rw [e1]
      rfl
    · rcases List.mem_cons.mp he with rfl | he
      · exact ⟨m, n, rfl⟩
      · exact e2 e he
theorem lets_ok {ds : List D} (h : ∀ d ∈ ds, LetD d) (hl : ds.length ≤ 1000) : sortOk ds = true := by
  obtain ⟨es, e1, e2⟩ := lets_pys h
  unfold sortOk
  rw [e1]
  simp only [Bool.and_eq_true, List.all_eq_true, decide_eq_true_eq]
  refine ⟨⟨⟨fun a ha b hb => ?_, fun a ha => ?_⟩, fun a ha => ?_⟩, hl⟩
  · obtain ⟨m, n, rfl⟩ := e2 a ha
    obtain ⟨m', n', rfl⟩ := e2 b hb
    rfl
  · obtain ⟨m, n, rfl⟩ := e2 a ha
    rfl
  · obtain ⟨m, n, rfl⟩ := e2 a ha
    show (PyData.depth _) ≤ 30
    simp [PyData.depth, PyData.depthAll]
theorem gSort2_lets {ds : List D} {x : SV} (h : ∀ d ∈ ds, LetD d) (hl : ds.length ≤ 1000) (hx : x.data = .lst ds ∨ x.data = .tup ds) : ∃ es, (∀ d ∈ es, LetD d) ∧ es.length = ds.length ∧ ∀ k : SV → Prop, gP (gSort2 [x]) k = k (.own (.lst es)) := by
  have hs : x.data.seq.map (·.2) = some ds := by rcases hx with e | e <;> rw [e] <;> rfl
  have hi : x.data.items = some ds := by rcases hx with e | e <;> rw [e] <;> rfl
  cases ds with
  | nil => exact ⟨[], by simp, rfl, fun k => by
      show gP (match gSorted1 x with | some z => some z | none => gSortD1 x) k = _
      unfold gSorted1
      rw [hi]
      rfl⟩
  | cons d ds =>
    have hn : gSorted1 x = none := by
      obtain ⟨m, n, rfl, _⟩ := h d List.mem_cons_self
      unfold gSorted1
      rw [hi]
      have h2 : D.ints (D.tup [.str m, .int n] :: ds) = none := by unfold D.ints; rfl
      simp only [h2]
      rcases hx with e | e
      · rw [e]
        have h3 : D.tints 2 (D.tup [.str m, .int n] :: ds) = none := by
          unfold D.tints
          rw [show D.ints [.str m, .int n] = none from by unfold D.ints; rfl]
        simp only [List.length_cons, List.length_nil, Nat.zero_add, Nat.reduceAdd, h3]
      · rw [e]
    refine ⟨sortD (d :: ds), fun e he => h e ((List.mergeSort_perm _ _).mem_iff.mp he), (List.mergeSort_perm _ _).length_eq, fun k => ?_⟩
    show gP (match gSorted1 x with | some z => some z | none => gSortD1 x) k = _
    rw [hn]
    unfold gSortD1
    rcases hx with e | e
    · rw [e]
      show gP (if sortOk (d :: ds) = true then _ else none) k = _
      rw [if_pos (lets_ok h hl)]
      rfl
    · rw [e]
      show gP (if sortOk (d :: ds) = true then _ else none) k = _
      rw [if_pos (lets_ok h hl)]
      rfl
end
end R

/-! M9: readings of R22 (own lists of two own lists). -/
namespace R
open PySem PySem.Spec PyProof.Rows L2
section
variable {ρ : Nv} {a : Option SV} {i j n : Nat} {Q : SV → Nv → Prop} {E : Ex → Nv → Prop} {m1 m2 mb : M SV} {ms : M (List SV)} {ds es : List D} {k : SV → Prop} {xs : List FV} {x y : FV}
def pk2P (x y : SV) (k : List D → List D → Prop) : Prop := gP (pk2 x y) fun r => k r.1 r.2
theorem n_pk2 {k : List D → List D → Prop} : pk2P (.own (.lst ds)) (.own (.lst es)) k = k ds es := rfl
theorem n_pkL2 : (pkL2 m1 m2 ρ).wp Q E = (m1 ρ).wp (fun x ρ1 => (m2 ρ1).wp (fun y ρ2 => pk2P x y fun ds es => Q (.own (.pk false [.lst ds, .lst es])) ρ2) E) E := by
  unfold pkL2
  rw [wp_bind]
  congr 1
  funext x ρ1
  rw [wp_bind]
  congr 1
  funext y ρ2
  unfold pk2P
  cases pk2 x y <;> rfl
def opN (i : Nat) (ρ : Nv) (k : List FV → Prop) : Prop := match ρ[i]? with | some (some (.own (.pk false xs))) => k xs | _ => False
theorem n_opS {k : List FV → Prop} : opN (i + 1) (a :: ρ) k = opN i ρ k := rfl
theorem n_op0 {k : List FV → Prop} : opN 0 (some (.own (.pk false xs)) :: ρ) k = k xs := rfl
theorem n_ixPk : (ixPk i n ρ).wp Q E = opN i ρ fun xs => gP xs[n]? fun x => Q x.tr ρ := by
  unfold ixPk opN
  generalize ρ[i]? = r
  rcases r with _ | _ | x
  · rfl
  · rfl
  · cases x with
    | own o =>
      cases o with
      | pk b xs =>
        cases b with
        | false =>
          show Res.wp (match xs[n]? with | some x => .ok x.tr ρ | none => .bad) Q E = gP xs[n]? _
          cases xs[n]? <;> rfl
        | true => rfl
      | _ => rfl
    | _ => rfl
theorem n_i0 {k : FV → Prop} : gP (x :: xs)[0]? k = k x := rfl
theorem n_i1 {k : FV → Prop} : gP (x :: y :: xs)[1]? k = k y := rfl
def blP (r : Option SV) (k : Bool → Prop) : Prop := match r with | some (.sh (.bl b)) => k b | _ => False
theorem blP_of {r : Option SV} {b : Bool} {k : Bool → Prop} (h : ∀ k : SV → Prop, gP r k = k (.sh (.bl b))) : blP r k = k b := by
  have h1 : gP r fun z => z = .sh (.bl b) := by rw [h]
  cases r with
  | none => exact h1.elim
  | some z =>
    have h1 : z = .sh (.bl b) := h1
    rw [h1]; rfl
theorem n_opL {g : SV → SV → Option SV} : (opL g i mb ρ).wp Q E = opN i ρ fun _ => (mb ρ).wp (fun y ρ1 => opN i ρ1 fun xs => blP (g (.sh (.lst (xs.map FV.data))) y) fun b => Q (.sh (.bl b)) ρ1) E := by
  unfold opL opN
  generalize ρ[i]? = r
  rcases r with _ | _ | x
  · rfl
  · rfl
  · cases x with
    | own o =>
      cases o with
      | pk b xs =>
        cases b with
        | false =>
          show ((mb ρ).bind _).wp Q E = _
          rw [wp_bind]
          show (mb ρ).wp _ E = (mb ρ).wp _ E
          congr 1
          funext y ρ1
          generalize ρ1[i]? = r
          rcases r with _ | _ | x
          · rfl
          · rfl
          · cases x with
            | own o =>
              cases o with
              | pk b xs =>
                cases b with
                | false =>
                  show Res.wp (match g (.sh (.lst (xs.map FV.data))) y with | some (.sh (.bl b)) => .ok (.sh (.bl b)) ρ1 | _ => .bad) Q E = blP (g (.sh (.lst (xs.map FV.data))) y) _
                  generalize g (.sh (.lst (xs.map FV.data))) y = u
                  rcases u with _ | u
                  · rfl
                  · cases u with
                    | sh d => cases d <;> rfl
                    | _ => rfl
                | true => rfl
              | _ => rfl
            | _ => rfl
        | true => rfl
      | _ => rfl
    | _ => rfl
def gkN (i n : Nat) (ρ : Nv) (k : O → Prop) : Prop := gP (getPk i n ρ) k
def ukN (i n : Nat) (ρ : Nv) (g : O → Option (SV × O)) (Q : SV → Nv → Prop) : Prop := gP (getPk i n ρ) fun o => mP (g o) fun x o' => Q x (putPk i n o' ρ)
section
variable {ko : O → Prop} {g : O → Option (SV × O)}
theorem n_gkS : gkN (i + 1) n (a :: ρ) ko = gkN i n ρ ko := rfl
theorem n_gk0 : gkN 0 0 (some (.own (.pk false (.lst ds :: xs))) :: ρ) ko = ko (.lst ds) := rfl
theorem n_gk1 : gkN 0 1 (some (.own (.pk false (x :: .lst ds :: xs))) :: ρ) ko = ko (.lst ds) := rfl
theorem n_uk0 : ukN 0 0 (some (.own (.pk false (.lst ds :: xs))) :: ρ) g Q = mP (g (.lst ds)) fun z o' => Q z (some (.own (.pk false (o'.fv :: xs))) :: ρ) := rfl
theorem n_uk1 : ukN 0 1 (some (.own (.pk false (x :: .lst ds :: xs))) :: ρ) g Q = mP (g (.lst ds)) fun z o' => Q z (some (.own (.pk false (x :: o'.fv :: xs))) :: ρ) := rfl
theorem putPk_S {o' : O} : putPk (i + 1) n o' (a :: ρ) = a :: putPk i n o' ρ := by
  show (match ρ[i]? with
    | some (some (SV.own (.pk false xs))) => List.set (a :: ρ) (i + 1) (some (SV.own (.pk false (xs.set n o'.fv))))
    | _ => a :: ρ) = a :: (match ρ[i]? with
    | some (some (SV.own (.pk false xs))) => List.set ρ i (some (SV.own (.pk false (xs.set n o'.fv))))
    | _ => ρ)
  generalize ρ[i]? = r
  rcases r with _ | _ | x
  · rfl
  · rfl
  · cases x with
    | own o =>
      cases o with
      | pk b xs => cases b <;> rfl
      | _ => rfl
    | _ => rfl
theorem n_ukS : ukN (i + 1) n (a :: ρ) g Q = ukN i n ρ g (fun x r => Q x (a :: r)) := by
  unfold ukN
  show gP (getPk i n ρ) _ = _
  congr 1
  funext o
  congr 1
  funext x o'
  rw [putPk_S]
theorem n_mutP {Ty : String} {g : O → List SV → Option (SV × O)} : (mutP i n Ty g ms ρ).wp Q E = gkN i n ρ fun o => tyN o Ty ((ms ρ).wp (fun xs ρ1 => ukN i n ρ1 (fun o1 => g o1 xs) Q) E) := by
  unfold mutP gkN
  cases getPk i n ρ with
  | none => rfl
  | some o =>
    show (if o.ty = Ty then _ else _ : Res Nv SV).wp Q E = (_ ∧ _)
    rw [wp_ite, show (Res.bad : Res Nv SV).wp Q E = False from rfl, if_and, wp_bind]
    congr 2
    funext xs ρ1
    unfold ukN
    cases getPk i n ρ1 with
    | none => rfl
    | some o1 =>
      show _ = gP (g o1 xs) _
      dsimp only
      cases g o1 xs <;> rfl
theorem n_mutP0 {Ty : String} {g : O → List SV → Option (SV × O)} : (mutP0 i n Ty g ρ).wp Q E = gkN i n ρ fun o => tyN o Ty (ukN i n ρ (fun o1 => g o1 []) Q) := n_mutP
end
end
end R

/-! M10: slices with a step; in a list of truths. -/
namespace R
open PySem PySem.Spec PyProof.Rows L2
section
variable {ρ : Nv} {Q : SV → Nv → Prop} {E : Ex → Nv → Prop} {m : M SV} {lo hi : M (Option Int)} {ds : List D} {k : Int} {o : O}
def lsP (d : D) (k : List D → Prop) : Prop := match d with | .lst ds => k ds | _ => False
section
variable {kl : List D → Prop}
theorem n_lssh : lsP (SV.sh (.lst ds)).data kl = kl ds := rfl
theorem n_lsown : lsP (SV.own (.lst ds)).data kl = kl ds := rfl
theorem n_lstr : lsP (SV.tr (.lst ds)).data kl = kl ds := rfl
end
theorem n_sl3M : (sl3M k m lo hi ρ).wp Q E = (m ρ).wp (fun x ρ1 => (lo ρ1).wp (fun l ρ2 => (hi ρ2).wp (fun h ρ3 => lsP x.data fun ds => Q (.own (.lst (cut3D ds l h k))) ρ3) E) E) E := by
  unfold sl3M
  rw [wp_bind]
  congr 1
  funext x ρ1
  rw [wp_bind]
  congr 1
  funext l ρ2
  rw [wp_bind]
  congr 1
  funext h ρ3
  unfold lsP
  cases x.data <;> rfl
theorem scs_bl : ∀ bs : List Bool, D.scs (bs.map D.bl) = some (bs.map V.bl)
  | [] => rfl
  | b :: bs => by
    rw [List.map_cons]
    unfold D.scs
    rw [scs_bl bs]
    rfl
theorem inV_bl (c : Bool) : ∀ bs : List Bool, inV (V.bl c) (bs.map V.bl) = decide (c ∈ bs)
  | [] => rfl
  | b :: bs => by
    have ih := inV_bl c bs
    unfold inV at ih ⊢
    rw [List.map_cons, List.any_cons, ih]
    cases b <;> cases c <;> simp [eqV]
theorem inD_bl {y : D} {c : Bool} {bs : List Bool} (hy : y = .lst (bs.map D.bl)) : inD (.bl c) y = some (decide (c ∈ bs)) := by
  subst hy
  show (match (D.lst (bs.map D.bl)).items with
    | some ds => match (D.bl c).sc, D.scs ds with
      | some v, some vs => some (inV v vs)
      | _, _ => match (D.bl c).py, D.pys ds with
        | some e, some es => if SeqAt.shaped e = true ∧ SeqAt.shaped (.list es) = true then some (es.any fun z => PyData.eqv z e) else none
        | _, _ => none
    | none => none) = _
  show (match (D.bl c).sc, D.scs (bs.map D.bl) with
      | some v, some vs => some (inV v vs)
      | _, _ => _) = _
  rw [scs_bl]
  show some (inV (V.bl c) (bs.map V.bl)) = _
  rw [inV_bl]
theorem gIn_bl {y : SV} {c : Bool} {bs : List Bool} {k : SV → Prop} (hy : y.data = .lst (bs.map D.bl)) : gP (gIn (.sh (.bl c)) y) k = k (.sh (.bl (decide (c ∈ bs)))) := by
  have : gIn (.sh (.bl c)) y = gInf (fun b => b) (.sh (.bl c)) y := by
    unfold gIn gInD
    rw [hy]
  rw [this]
  unfold gInf
  rw [hy]
  rw [show (SV.sh (.bl c)).data = .bl c from rfl, inD_bl rfl]
  rfl
theorem gNotIn_bl {y : SV} {c : Bool} {bs : List Bool} {k : SV → Prop} (hy : y.data = .lst (bs.map D.bl)) : gP (gNotIn (.sh (.bl c)) y) k = k (.sh (.bl (!decide (c ∈ bs)))) := by
  have : gNotIn (.sh (.bl c)) y = gInf (fun b => !b) (.sh (.bl c)) y := by
    unfold gNotIn gInD
    rw [hy]
  rw [this]
  unfold gInf
  rw [hy]
  rw [show (SV.sh (.bl c)).data = .bl c from rfl, inD_bl rfl]
  rfl
end
theorem cutD_mem {ds : List D} {lo hi : Option Int} {d : D} (h : d ∈ cutD ds lo hi) : d ∈ ds := List.mem_of_mem_drop (List.mem_of_mem_take h)
theorem cutD_len {ds : List D} {lo hi : Option Int} : (cutD ds lo hi).length ≤ ds.length := by
  unfold cutD
  rw [List.length_take, List.length_drop]; omega
end R

/-! M11: readings of R25. -/
namespace R
open PySem PySem.Spec PyProof.Rows L2
theorem wp_eqx {S A : Type} {r : Res S A} {e : Ex} {s : S} (h : r = .exc e s) (Q : A → S → Prop) (E : Ex → S → Prop) : r.wp Q E = E e s := by rw [h]; rfl
theorem Res.wp.exc {S A : Type} {r : Res S A} {E : Ex → S → Prop} (h : r.wp (fun _ _ => False) E) : ∃ e s, r = .exc e s ∧ E e s := by
  cases r with
  | ok a s => exact h.elim
  | exc e s => exact ⟨e, s, rfl, h⟩
  | bad => exact h.elim
section
variable {ρ : Nv} {N : Nv → Prop} {L : Out → Prop} {i j : Nat} {mb ms : MS} {yes r : List Str} {C Dn : Str} {p : Prop} {x : SV} {a : Option SV} {k : SV → Prop} {fs : List (Str × R.D)} {T : XT}
theorem n_raise0 : (raise0 C ρ).wp N L = L (.exc ⟨C, []⟩ ρ) := rfl
def inY (C : Str) (yes : List Str) (p : Prop) : Prop := C ∈ yes ∧ p
theorem n_inY : inY C (C :: r) p = p := propext ⟨fun h => h.2, fun h => ⟨List.mem_cons_self, h⟩⟩
theorem n_inYd : inY C (Dn :: C :: r) p = p := propext ⟨fun h => h.2, fun h => ⟨List.mem_cons_of_mem _ List.mem_cons_self, h⟩⟩
def zN (ρ : Nv) (i : Nat) (N : Nv → Prop) : Prop := N (ρ.set i none)
theorem n_zS : zN (a :: ρ) (i + 1) N = zN ρ i fun r => N (a :: r) := rfl
theorem n_z0 : zN (a :: ρ) 0 N = N (none :: ρ) := rfl
def tzL (i : Nat) (L : Out → Prop) (o : Out) : Prop := match o with | .bk ρ => L (.bk (ρ.set i none)) | .ct ρ => L (.ct (ρ.set i none)) | _ => False
def tryL (yes : List Str) (i : Nat) (ms : MS) (N : Nv → Prop) (L : Out → Prop) (o : Out) : Prop := match o with
  | .exc e ρ => inY e.C yes (eN ρ i (.sh (.exn e.C e.fs)) fun ρ1 => (ms ρ1).wp (fun ρ2 => zN ρ2 i N) (tzL i L))
  | o => L o
theorem n_tlx : tryL yes i ms N L (.exc ⟨C, fs⟩ ρ) = inY C yes (eN ρ i (.sh (.exn C fs)) fun ρ1 => (ms ρ1).wp (fun ρ2 => zN ρ2 i N) (tzL i L)) := rfl
theorem n_tlrt : tryL yes i ms N L (.rt x ρ) = L (.rt x ρ) := rfl
theorem n_tlbk : tryL yes i ms N L (.bk ρ) = L (.bk ρ) := rfl
theorem n_tlct : tryL yes i ms N L (.ct ρ) = L (.ct ρ) := rfl
theorem n_try : (tryM yes i mb ms ρ).wp N L = (mb ρ).wp N (tryL yes i ms N L) := by
  unfold tryM
  cases mb ρ with
  | nx ρ1 => rfl
  | rt x ρ1 => rfl
  | bk ρ1 => rfl
  | ct ρ1 => rfl
  | bad => rfl
  | exc e ρ1 =>
    show Out.wp (if e.C ∈ yes ∧ i < ρ1.length then _ else .bad) N L = inY e.C yes (eN ρ1 i (.sh (.exn e.C e.fs)) fun ρ1 => (ms ρ1).wp (fun ρ2 => zN ρ2 i N) (tzL i L))
    unfold inY eN
    have key : Out.wp (match ms (ρ1.set i (some (.sh (.exn e.C e.fs)))) with
      | .nx ρ2 => .nx (ρ2.set i none) | .bk ρ2 => .bk (ρ2.set i none) | .ct ρ2 => .ct (ρ2.set i none) | _ => .bad) N L = (ms (ρ1.set i (some (.sh (.exn e.C e.fs))))).wp (fun ρ2 => zN ρ2 i N) (tzL i L) := by
      cases ms (ρ1.set i (some (.sh (.exn e.C e.fs)))) <;> rfl
    by_cases c : e.C ∈ yes ∧ i < ρ1.length
    · rw [if_pos c]
      refine Eq.trans key ?_
      exact propext ⟨fun h => ⟨c.1, rfl, c.2, h⟩, fun h => h.2.2.2⟩
    · rw [if_neg c]
      exact propext ⟨fun h => h.elim, fun h => c ⟨h.1, h.2.2.1⟩⟩
theorem n_non_exn : D.isNon (.exn C fs) = false := rfl
/-- whether it is one of that class -/
def axP (T : XT) (C : Str) (d : R.D) (k : SV → Prop) : Prop := gP (T.ask C d) fun b => k (.sh (.bl b))
theorem g_isx_c : gP (gIsx T [.sh (.exn C fs), .sh (.cls Dn)]) k = axP T C (.cls Dn) k := gP_map
theorem g_isx_t {n : String} : gP (gIsx T [.sh (.exn C fs), .sh (.ty n)]) k = axP T C (.ty n) k := gP_map
theorem axP_of {d : R.D} {b : Bool} (h : T.ask C d = some b) : axP T C d k = k (.sh (.bl b)) := by unfold axP; rw [h]; rfl
end
end R

/-! M12: what plain data is made of. -/
namespace R
open PySem PySem.Spec PyProof.Rows L2
section
variable {n m : Nat} {d : D} {ds : List D} {k : SV → Prop}
theorem pys_mem : ∀ {ds : List D} {es : List PyData}, D.pys ds = some es → PyData.canLayAll0 es = true → ∀ d ∈ ds, ∃ e, D.py d = some e ∧ e.canLay0 = true ∧ e.depth ≤ PyData.depthAll es
  | [], es, h, _ => fun d hd => by cases hd
  | a :: ds, es, h, hc => fun d hd => by
    unfold D.pys at h
    cases e1 : D.py a with
    | none => rw [e1] at h; cases h
    | some e =>
      cases e2 : D.pys ds with
      | none => rw [e1, e2] at h; cases h
      | some es' =>
        rw [e1, e2] at h
        cases h
        unfold PyData.canLayAll0 at hc
        rw [Bool.and_eq_true] at hc
        rcases List.mem_cons.mp hd with rfl | hd
        · exact ⟨e, e1, hc.1, by unfold PyData.depthAll; omega⟩
        · obtain ⟨e', h1, h2, h3⟩ := pys_mem e2 hc.2 d hd
          exact ⟨e', h1, h2, by unfold PyData.depthAll; omega⟩
theorem Fine.un_tup (h : Fine (n + 1) (.tup ds)) : ∀ d ∈ ds, Fine n d := by
  obtain ⟨p, h1, h2, h3⟩ := h
  unfold D.py at h1
  cases e : D.pys ds with
  | none => rw [e] at h1; cases h1
  | some es =>
    rw [e] at h1
    cases h1
    unfold PyData.canLay0 at h2
    unfold PyData.depth at h3
    intro d hd
    obtain ⟨e', q1, q2, q3⟩ := pys_mem e h2 d hd
    exact ⟨e', q1, q2, by omega⟩
theorem Nb.un_tup (h : Nb (n + 1) (.tup ds)) : ∀ d ∈ ds, Nb n d := fun d hd => ⟨h.f.un_tup d hd, by
  have := h.b
  rw [D.nb] at this
  exact nbs_iff.mp this d hd⟩
theorem Nb.kinds (h : Nb n d) : d = .non ∨ (∃ i, d = .int i) ∨ (∃ s, d = .str s ∧ PyData.strOk s = true) ∨ (∃ ds, d = .tup ds) ∨ ∃ ds, d = .lst ds := by
  obtain ⟨⟨p, h1, h2, h3⟩, hb⟩ := h
  cases d with
  | non => exact .inl rfl
  | int i => exact .inr (.inl ⟨i, rfl⟩)
  | str s => cases h1; exact .inr (.inr (.inl ⟨s, rfl, h2⟩))
  | tup ds => exact .inr (.inr (.inr (.inl ⟨ds, rfl⟩)))
  | lst ds => exact .inr (.inr (.inr (.inr ⟨ds, rfl⟩)))
  | bl b => cases hb
  | scr ns => cases hb
  | kt ds => cases hb
  | _ => cases h1
theorem Nb.un_tup' (h : Nb n (.tup ds)) : ∀ d ∈ ds, Nb n d := by
  cases n with
  | zero =>
    obtain ⟨⟨p, h1, h2, h3⟩, hb⟩ := h
    unfold D.py at h1
    cases e : D.pys ds with
    | none => rw [e] at h1; cases h1
    | some es => rw [e] at h1; cases h1; unfold PyData.depth at h3; omega
  | succ n => exact fun d hd => (h.un_tup d hd).mono (by omega)
end
end R

/-! M13: readings of R26. -/
namespace R
open PySem PySem.Spec PyProof.Rows L2
section
variable {ρ : Nv} {mo ma md : M SV} {Q : SV → Nv → Prop} {E : Ex → Nv → Prop} {ps : List (DKey × D)} {ds es : List D} {a : Str} {k : SV → Prop} {i j : Int} {x d : D}
def d0P (x : D) (k : List (DKey × D) → Prop) : Prop := match x with | .dic 0 ps => k ps | _ => False
theorem n_d0t {kd : List (DKey × D) → Prop} : d0P (SV.data (.tr (.dic 0 ps))) kd = kd ps := rfl
theorem n_d0s {kd : List (DKey × D) → Prop} : d0P (SV.data (.sh (.dic 0 ps))) kd = kd ps := rfl
theorem n_d0b {kd : List (DKey × D) → Prop} : d0P (SV.data (.bo (.dic 0 ps))) kd = kd ps := rfl
def dkP (x : D) (k : DKey → Prop) : Prop := gP (x.dkey 0) k
theorem n_dks {kd : DKey → Prop} : dkP (SV.data (.sh (.str a))) kd = kd (.inl (.inr a)) := rfl
def dgP (o : Option D) (d : SV) (k : SV → Prop) : Prop := match o, d with | some e, _ => k (.sh e) | none, .sh d => k (.sh d) | _, _ => False
theorem dgP_some {s : SV} : dgP (some d) s k = k (.sh d) := rfl
theorem dgP_none : dgP none (.sh d) k = k (.sh d) := rfl
theorem n_dget : (dgetM mo ma md ρ).wp Q E = (mo ρ).wp (fun x ρ1 => d0P x.data fun ps => (ma ρ1).wp (fun y ρ2 => dkP y.data fun kk => (md ρ2).wp (fun d ρ3 => dgP (dget ps kk) d fun z => Q z ρ3) E) E) E := by
  unfold dgetM
  rw [wp_bind]
  congr 1
  funext x ρ1
  cases ed : x.data with
  | dic t qs =>
    cases t with
    | zero =>
      show ((ma ρ1).bind _).wp Q E = (ma ρ1).wp _ E
      rw [wp_bind]
      congr 1
      funext y ρ2
      unfold dkP gP
      cases e2 : y.data.dkey 0 with
      | none => rfl
      | some kk =>
        show ((md ρ2).bind _).wp Q E = _
        rw [wp_bind]
        congr 1
        funext d ρ3
        unfold dgP
        cases dget qs kk with
        | some z => rfl
        | none => cases d <;> rfl
    | succ n => rfl
  | _ => rfl
theorem n_extend {km : SV → O → Prop} : mP (gExtend (.lst ds) [.sh (.lst es)]) km = (ds.length + es.length ≤ sizeLine ∧ km (.sh .non) (.lst (ds ++ es))) := by
  unfold mP gExtend
  by_cases c : ds.length + es.length ≤ sizeLine
  · simp only [if_pos c]; exact propext ⟨fun h => ⟨c, h⟩, fun h => h.2⟩
  · simp only [if_neg c]; exact propext ⟨fun h => h.elim, fun h => c h.1⟩
theorem g_shr_ii : gP (gShr (.sh (.int i)) (.sh (.int j))) k = (cShr i j = true ∧ k (.sh (.int (i / 2 ^ j.toNat)))) := gP_ite
theorem cShr_of (h : 0 ≤ j) : cShr i j = true := decide_eq_true h
theorem g_in_ds : gP (gIn (.sh (.str a)) (.sh (.dic 0 ps))) k = k (.sh (.bl (dget ps (.inl (.inr a))).isSome)) := rfl
theorem g_in_dt : gP (gIn (.sh (.str a)) (.tr (.dic 0 ps))) k = k (.sh (.bl (dget ps (.inl (.inr a))).isSome)) := rfl
theorem g_nin_ds : gP (gNotIn (.sh (.str a)) (.sh (.dic 0 ps))) k = k (.sh (.bl (!(dget ps (.inl (.inr a))).isSome))) := rfl
theorem g_nin_dt : gP (gNotIn (.sh (.str a)) (.tr (.dic 0 ps))) k = k (.sh (.bl (!(dget ps (.inl (.inr a))).isSome))) := rfl
theorem gsum_of {ns : List Int} : gP (gSum [.tr (.lst (ns.map D.int))]) k = k (.sh (.int ns.sum)) := by
  unfold gSum un1 gSum1
  show gP ((D.ints (ns.map D.int)).map _) k = _
  rw [ints_map]
  rfl
end
end R

namespace K93
open PySem R
def xT : XT := ⟨[(("NoFact", "NoDeed"), false), (("NoFact", "NoLine"), false), (("NoFact", "NoPlan"), false), (("NoFact", "NoRow"), false), (("NoFact", "NoText"), false), (("NoFact", "NotPossible"), false), (("NoFact", "NoThing"), false), (("NoFact", "TooMany"), false), (("NoFact", "NoFact"), true)], [(("NoFact", "ValueError"), true)]⟩
/-- _law_mix(_law_cell, _law_j): _law_cell, _law_j, _law_mixed -/
noncomputable def b__law_mix : MS := (seqS (ifS (orT (valT (op2 gLt (varM 0) (pureM (.sh (.int 0))))) (valT (op2 gGe (varM 0) (op2 gPow (pureM (.sh (.int 10))) (pureM (.sh (.int 18))))))) (retS (op2 gMod (op2 gShr (varM 0) (op2 gMul (pureM (.sh (.int 20))) (varM 1))) (pureM (.sh (.int 1048576))))) nxS) (seqS (setS 2 (op2 gMod (op2 gAdd (op2 gMul (varM 0) (op2 gAdd (op2 gMul (pureM (.sh (.int 2))) (varM 1)) (pureM (.sh (.int 3))))) (varM 1)) (pureM (.sh (.int 2147483629))))) (seqS (setS 2 (op2 gMod (op2 gMul (op2 gAdd (op2 gMul (varM 2) (varM 2)) (pureM (.sh (.int 1)))) (pureM (.sh (.int 48271)))) (pureM (.sh (.int 2147483629))))) (retS (op2 gMod (op2 gMul (varM 2) (varM 2)) (pureM (.sh (.int 2147483587))))))))
noncomputable def m__law_mix : MF := runF 2 1 b__law_mix
/-- _law_names(_law_total): _law_total, _law_letters, _law_start, _law_tail, _law_k -/
noncomputable def b__law_names : MS := (seqS (setS 1 (pureM (.sh (.str "abcdefghijklmnopqrstuvwxyz")))) (seqS (setS 2 (callM 2 m__law_mix (a1 (varM 0) (a1 (pureM (.sh (.int 1))) a0)))) (seqS (setS 3 (op2 gIx (opA gLstX (a1 (pureM (.sh (.str ""))) (a1 (pureM (.sh (.str "a"))) (a1 (pureM (.sh (.str "ab"))) (a1 (pureM (.sh (.str "room"))) a0))))) (op2 gMod (callM 2 m__law_mix (a1 (varM 0) (a1 (pureM (.sh (.int 2))) a0))) (pureM (.sh (.int 4)))))) (retS (compM (.nm 4) (itA range1 (a1 (pureM (.sh (.int 12))) a0)) yesM (frzM (op2 gAdd (op2 gAdd (op2 gIx (varM 1) (op2 gMod (op2 gAdd (varM 2) (op2 gMul (pureM (.sh (.int 3))) (varM 4))) (pureM (.sh (.int 26))))) (pureM (.sh (.str "q")))) (varM 3))))))))
noncomputable def m__law_names : MF := runF 1 4 b__law_names
/-- _law_plan(_law_total): _law_total, _law_names_here, _law_families, _law_k, _law_rooms, _law_cells, _law_whos, _law_name -/
noncomputable def b__law_plan : MS := (seqS (setS 1 (callM 1 m__law_names (a1 (varM 0) a0))) (seqS (setS 2 (opA gLstX a0)) (seqL (forS (.nm 3) (itA range1 (a1 (frzM (op2 gAdd (pureM (.sh (.int 1))) (op2 gMod (callM 2 m__law_mix (a1 (varM 0) (a1 (pureM (.sh (.int 3))) a0))) (pureM (.sh (.int 2)))))) a0)) (seqS (setS 4 (slM (varM 1) (oSome (op2 gAdd (pureM (.sh (.int 2))) (op2 gMul (pureM (.sh (.int 3))) (varM 3)))) (oSome (op2 gAdd (op2 gAdd (pureM (.sh (.int 3))) (op2 gMul (pureM (.sh (.int 3))) (varM 3))) (op2 gMod (callM 2 m__law_mix (a1 (varM 0) (a1 (frzM (op2 gAdd (pureM (.sh (.int 4))) (varM 3))) a0))) (pureM (.sh (.int 3)))))))) (seqL (setC 5 (.nm 7) (itT (slM (varM 1) (oSome (op2 gSub (pureM (.sh (.int 6))) (op2 gMul (pureM (.sh (.int 2))) (varM 3)))) (oSome (op2 gAdd (op2 gSub (pureM (.sh (.int 6))) (op2 gMul (pureM (.sh (.int 2))) (varM 3))) (op2 gMod (callM 2 m__law_mix (a1 (varM 0) (a1 (frzM (op2 gAdd (pureM (.sh (.int 6))) (varM 3))) a0))) (pureM (.sh (.int 3)))))))) yesM (opA gTupX (a1 (varF 7) (a1 (pureM (.sh (.int 0))) (a1 (pureM (.sh (.int 1))) (a1 (pureM (.sh (.int 0))) a0)))))) (seqS (setS 6 (slM (varM 1) (oSome (op2 gAdd (pureM (.sh (.int 9))) (varM 3))) (oSome (op2 gAdd (op2 gAdd (pureM (.sh (.int 9))) (varM 3)) (op2 gMod (callM 2 m__law_mix (a1 (varM 0) (a1 (frzM (op2 gAdd (pureM (.sh (.int 8))) (varM 3))) a0))) (pureM (.sh (.int 2)))))))) (exprS (mutM (.v 2) "list" gAppend (a1 (opA gTupX (a1 (op2 gIx (varM 1) (varM 3)) (a1 (pureM (.sh (.int 1))) (a1 (varF 4) (a1 (varF 5) (a1 (varF 6) (a1 (frzM (opA gLstX a0)) a0))))))) a0))))))) (retS (opA gTupX (a1 (varF 2) (a1 (frzM (opA gLstX a0)) (a1 (frzM (opA gLstX a0)) a0))))))))
noncomputable def m__law_plan : MF := runF 1 7 b__law_plan
/-- _law_name_of(_law_plan_here, _law_names_here, _law_cell, _law_j, _law_kind, _law_family): _law_plan_here, _law_names_here, _law_cell, _law_j, _law_kind, _law_family, _law_good_here, _law_one, _law_some, _law_each -/
noncomputable def b__law_name_of : MS := (seqS (setS 6 (pureM (.own (.dic 0 [])))) (seqL (forS (.nm 7) (itM (op2 gIx (varM 0) (pureM (.sh (.int 0))))) (ifS (valT (op2 gEq (op2 gIx (varM 7) (pureM (.sh (.int 0)))) (varM 5))) (setS 6 (dispM (p1 (.inl (.inr "room")) (op2 gIx (varM 7) (pureM (.sh (.int 2)))) (p1 (.inl (.inr "cell")) (frzM (compM (.nm 9) (itT (op2 gIx (varM 7) (pureM (.sh (.int 3))))) yesM (op2 gIx (varM 9) (pureM (.sh (.int 0)))))) p0)))) nxS)) (seqL (setC 8 (.nm 7) (itT (op2 gIx (varM 0) (pureM (.sh (.int 0))))) yesM (op2 gIx (varM 7) (pureM (.sh (.int 0))))) (seqI (ifS (valT (op2 gNe (varM 4) (pureM (.sh (.str "family"))))) (setS 8 (dgetM (varM 6) (varM 4) (frzM (opA gLstX a0)))) nxS) (seqI (ifS (orT (valT (op2 gEq (op2 gMod (callM 2 m__law_mix (a1 (varM 2) (a1 (varM 3) a0))) (pureM (.sh (.int 12)))) (pureM (.sh (.int 1))))) (valT (op2 gEq (varM 8) (opA gLstX a0)))) (setS 8 (op2 gAdd (varM 1) (opA gLstX (a1 (pureM (.sh (.str "it"))) a0)))) nxS) (retS (op2 gIx (varM 8) (op2 gMod (callM 2 m__law_mix (a1 (varM 2) (a1 (frzM (op2 gAdd (varM 3) (pureM (.sh (.int 1))))) a0))) (opA gLen (a1 (varM 8) a0))))))))))
noncomputable def m__law_name_of : MF := runF 6 4 b__law_name_of
/-- _law_part(_law_plan_here, _law_names_here, _law_cell, _law_j): _law_plan_here, _law_names_here, _law_cell, _law_j, _law_way, _law_family, _law_other, _law_room, _law_condition, _law_name, _law_one -/
noncomputable def b__law_part : MS := (seqS (setS 4 (op2 gMod (callM 2 m__law_mix (a1 (varM 2) (a1 (varM 3) a0))) (pureM (.sh (.int 7))))) (seqS (setS 5 (callM 6 m__law_name_of (a1 (varM 0) (a1 (varM 1) (a1 (varM 2) (a1 (frzM (op2 gAdd (varM 3) (pureM (.sh (.int 1))))) (a1 (pureM (.sh (.str "family"))) (a1 (pureM (.sh (.str ""))) a0)))))))) (seqS (ifS (valT (op2 gEq (varM 4) (pureM (.sh (.int 0))))) (seqS (setS 6 (callM 6 m__law_name_of (a1 (varM 0) (a1 (varM 1) (a1 (varM 2) (a1 (frzM (op2 gAdd (varM 3) (pureM (.sh (.int 3))))) (a1 (pureM (.sh (.str "family"))) (a1 (pureM (.sh (.str ""))) a0)))))))) (retS (opA gTupX (a1 (pureM (.sh (.str "letters"))) (a1 (varF 5) (a1 (varF 6) (a1 (op2 gIx (opA gLstX (a1 (pureM (.sh (.str ""))) (a1 (op2 gIx (varM 1) (pureM (.sh (.int 11)))) a0))) (op2 gMod (callM 2 m__law_mix (a1 (varM 2) (a1 (frzM (op2 gAdd (varM 3) (pureM (.sh (.int 5))))) a0))) (pureM (.sh (.int 2))))) (a1 (pureM (.sh (.str "="))) (a1 (pureM (.sh (.int 1))) a0))))))))) nxS) (seqS (ifS (valT (op2 gEq (varM 4) (pureM (.sh (.int 1))))) (retS (op2 gIx (opA gLstX (a1 (opA gTupX (a1 (pureM (.sh (.str "true"))) a0)) (a1 (opA gTupX (a1 (pureM (.sh (.str "dry"))) a0)) a0))) (op2 gMod (callM 2 m__law_mix (a1 (varM 2) (a1 (frzM (op2 gAdd (varM 3) (pureM (.sh (.int 5))))) a0))) (pureM (.sh (.int 2)))))) nxS) (seqS (setS 7 (pureM (.sh (.str "")))) (seqI (ifS (valT (op2 gEq (op2 gMod (callM 2 m__law_mix (a1 (varM 2) (a1 (frzM (op2 gAdd (varM 3) (pureM (.sh (.int 6))))) a0))) (pureM (.sh (.int 2)))) (pureM (.sh (.int 1))))) (setS 7 (callM 6 m__law_name_of (a1 (varM 0) (a1 (varM 1) (a1 (varM 2) (a1 (frzM (op2 gAdd (varM 3) (pureM (.sh (.int 7))))) (a1 (pureM (.sh (.str "room"))) (a1 (varM 5) a0)))))))) nxS) (seqS (setS 8 (opA gTupX (a1 (pureM (.sh (.str "true"))) a0))) (seqI (ifS (valT (op2 gEq (op2 gMod (callM 2 m__law_mix (a1 (varM 2) (a1 (frzM (op2 gAdd (varM 3) (pureM (.sh (.int 9))))) a0))) (pureM (.sh (.int 2)))) (pureM (.sh (.int 1))))) (seqS (setS 9 (callM 6 m__law_name_of (a1 (varM 0) (a1 (varM 1) (a1 (varM 2) (a1 (frzM (op2 gAdd (varM 3) (pureM (.sh (.int 10))))) (a1 (pureM (.sh (.str "cell"))) (a1 (varM 5) a0)))))))) (seqS (setS 10 (opA gTupX (a1 (pureM (.sh (.str "is"))) (a1 (pureM (.sh (.str "<"))) (a1 (opA gTupX (a1 (pureM (.sh (.str "plus"))) (a1 (opA gTupX (a1 (pureM (.sh (.str "number"))) (a1 (pureM (.sh (.int 1))) a0))) (a1 (opA gTupX (a1 (pureM (.sh (.str "name"))) (a1 (varF 9) a0))) a0)))) (a1 (opA gTupX (a1 (pureM (.sh (.str "number"))) (a1 (pureM (.sh (.int 3))) a0))) a0)))))) (setS 8 (op2 gIx (opA gLstX (a1 (varF 10) (a1 (opA gTupX (a1 (pureM (.sh (.str "not"))) (a1 (varF 10) a0))) (a1 (opA gTupX (a1 (pureM (.sh (.str "or"))) (a1 (opA gTupX (a1 (pureM (.sh (.str "true"))) a0)) (a1 (varF 10) a0)))) a0)))) (op2 gMod (callM 2 m__law_mix (a1 (varM 2) (a1 (frzM (op2 gAdd (varM 3) (pureM (.sh (.int 12))))) a0))) (pureM (.sh (.int 3)))))))) nxS) (seqS (ifS (valT (op2 gLt (varM 4) (pureM (.sh (.int 4))))) (retS (opA gTupX (a1 (op2 gIx (opA gLstX (a1 (pureM (.sh (.str "some"))) (a1 (pureM (.sh (.str "all"))) a0))) (op2 gSub (varM 4) (pureM (.sh (.int 2))))) (a1 (varF 5) (a1 (varF 7) (a1 (varF 8) a0)))))) nxS) (seqS (ifS (valT (op2 gEq (varM 4) (pureM (.sh (.int 4))))) (retS (opA gTupX (a1 (pureM (.sh (.str "many"))) (a1 (varF 5) (a1 (varF 7) (a1 (varF 8) (a1 (pureM (.sh (.str ">"))) (a1 (pureM (.sh (.int 0))) a0)))))))) nxS) (retS (opA gTupX (a1 (op2 gIx (opA gLstX (a1 (pureM (.sh (.str "some knows"))) (a1 (pureM (.sh (.str "each knows"))) a0))) (op2 gSub (varM 4) (pureM (.sh (.int 5))))) (a1 (varF 5) (a1 (opA gTupX (a1 (pureM (.sh (.str "some"))) (a1 (varF 5) (a1 (varF 7) (a1 (varF 8) a0))))) a0)))))))))))))))
noncomputable def m__law_part : MF := runF 4 7 b__law_part
/-- _law_fact(_law_plan_here, _law_names_here, _law_cell, _law_j): _law_plan_here, _law_names_here, _law_cell, _law_j, _law_one, _law_way -/
noncomputable def b__law_fact : MS := (seqS (setS 4 (callM 4 m__law_part (a1 (varM 0) (a1 (varM 1) (a1 (varM 2) (a1 (frzM (op2 gAdd (varM 3) (pureM (.sh (.int 1))))) a0)))))) (seqS (setS 5 (op2 gMod (callM 2 m__law_mix (a1 (varM 2) (a1 (varM 3) a0))) (pureM (.sh (.int 5))))) (seqS (ifS (valT (op2 gLt (varM 5) (pureM (.sh (.int 2))))) (retS (opA gTupX (a1 (op2 gIx (opA gLstX (a1 (pureM (.sh (.str "and"))) (a1 (pureM (.sh (.str "or"))) a0))) (varM 5)) (a1 (varF 4) (a1 (frzM (callM 4 m__law_part (a1 (varM 0) (a1 (varM 1) (a1 (varM 2) (a1 (frzM (op2 gAdd (varM 3) (pureM (.sh (.int 20))))) a0)))))) a0))))) nxS) (seqS (ifS (valT (op2 gEq (varM 5) (pureM (.sh (.int 2))))) (retS (opA gTupX (a1 (pureM (.sh (.str "not"))) (a1 (varF 4) a0)))) nxS) (retS (varO 4))))))
noncomputable def m__law_fact : MF := runF 4 2 b__law_fact
/-- _law_saying(_law_plan_here, _law_names_here, _law_cell): _law_plan_here, _law_names_here, _law_cell, _law_word, _law_first -/
noncomputable def b__law_saying : MS := (seqS (setS 3 (op2 gIx (opA gLstX (a1 (pureM (.sh (.str "never"))) (a1 (pureM (.sh (.str "always"))) (a1 (pureM (.sh (.str "ahead"))) (a1 (pureM (.sh (.str "at last"))) (a1 (pureM (.sh (.str "whenever"))) (a1 (pureM (.sh (.str "always can"))) a0))))))) (op2 gMod (callM 2 m__law_mix (a1 (varM 2) (a1 (pureM (.sh (.int 1))) a0))) (pureM (.sh (.int 6)))))) (seqS (setS 4 (callM 4 m__law_fact (a1 (varM 0) (a1 (varM 1) (a1 (varM 2) (a1 (pureM (.sh (.int 10))) a0)))))) (seqS (ifS (valT (op2 gIn (varM 3) (opA gTupX (a1 (pureM (.sh (.str "ahead"))) (a1 (pureM (.sh (.str "whenever"))) a0))))) (retS (opA gTupX (a1 (varF 3) (a1 (varF 4) (a1 (frzM (callM 4 m__law_fact (a1 (varM 0) (a1 (varM 1) (a1 (varM 2) (a1 (pureM (.sh (.int 60))) a0)))))) a0))))) nxS) (retS (opA gTupX (a1 (varF 3) (a1 (varF 4) a0)))))))
noncomputable def m__law_saying : MF := runF 3 2 b__law_saying
/-- family_of(plan, name): plan, name, family -/
noncomputable def b_family_of : MS := (seqL (forS (.nm 2) (itM (op2 gIx (varM 0) (pureM (.sh (.int 0))))) (ifS (valT (op2 gEq (op2 gIx (varM 2) (pureM (.sh (.int 0)))) (varM 1))) (retS (varO 2)) nxS)) (raise0 "NoFact"))
noncomputable def m_family_of : MF := runF 2 1 b_family_of
/-- names_in(tree): tree, found, part -/
noncomputable def b_names_in (c_names_in : MF) : MS := (seqS (ifS (valT (op2 gEq (op2 gIx (varM 0) (pureM (.sh (.int 0)))) (pureM (.sh (.str "name"))))) (retS (opA gLstX (a1 (op2 gIx (varM 0) (pureM (.sh (.int 1)))) a0))) nxS) (seqS (setS 1 (opA gLstX a0)) (seqL (forS (.nm 2) (itM (frzM (slM (varM 0) (oSome (pureM (.sh (.int 1)))) oNone))) (ifS (valT (opA gIsi (a1 (varM 2) (a1 (pureM (.sh (.ty "tuple"))) a0)))) (setS 1 (op2 gAdd (varM 1) (callM 1 c_names_in (a1 (varM 2) a0)))) nxS)) (retS (varO 1)))))
noncomputable def m_names_in : Nat → MF
  | 0 => fun _ => .bad
  | n + 1 => runF 1 2 (b_names_in (m_names_in n))
/-- check_hands(plan, fact): plan, fact, family, cells, name, cell -/
noncomputable def b_check_hands : MS := (seqS (setS 2 (callM 2 m_family_of (a1 (varM 0) (a1 (op2 gIx (varM 1) (pureM (.sh (.int 1)))) a0)))) (seqS (ifS (andT (valT (op2 gNe (op2 gIx (varM 1) (pureM (.sh (.int 2)))) (pureM (.sh (.str ""))))) (valT (op2 gNotIn (op2 gIx (varM 1) (pureM (.sh (.int 2)))) (op2 gIx (varM 2) (pureM (.sh (.int 2))))))) (raise0 "NoFact") nxS) (seqL (setC 3 (.nm 5) (itT (op2 gIx (varM 2) (pureM (.sh (.int 3))))) yesM (op2 gIx (varM 5) (pureM (.sh (.int 0))))) (forS (.nm 4) (itM (frzM (callM 1 (m_names_in 60) (a1 (op2 gIx (varM 1) (pureM (.sh (.int 3)))) a0)))) (ifS (valT (op2 gNotIn (varM 4) (varM 3))) (raise0 "NoFact") nxS)))))
noncomputable def m_check_hands : MF := runF 2 4 b_check_hands
/-- check_fact(plan, fact): plan, fact, part -/
noncomputable def b_check_fact (c_check_fact : MF) : MS := (ifS (valT (op2 gIn (op2 gIx (varM 1) (pureM (.sh (.int 0)))) (opA gTupX (a1 (pureM (.sh (.str "some"))) (a1 (pureM (.sh (.str "all"))) (a1 (pureM (.sh (.str "many"))) a0)))))) (exprS (callM 2 m_check_hands (a1 (varM 0) (a1 (varM 1) a0)))) (ifS (valT (op2 gEq (op2 gIx (varM 1) (pureM (.sh (.int 0)))) (pureM (.sh (.str "letters"))))) (seqS (exprS (callM 2 m_family_of (a1 (varM 0) (a1 (op2 gIx (varM 1) (pureM (.sh (.int 1)))) a0)))) (exprS (callM 2 m_family_of (a1 (varM 0) (a1 (op2 gIx (varM 1) (pureM (.sh (.int 2)))) a0))))) (ifS (valT (op2 gIn (op2 gIx (varM 1) (pureM (.sh (.int 0)))) (opA gTupX (a1 (pureM (.sh (.str "some knows"))) (a1 (pureM (.sh (.str "each knows"))) a0))))) (seqS (exprS (callM 2 m_family_of (a1 (varM 0) (a1 (op2 gIx (varM 1) (pureM (.sh (.int 1)))) a0)))) (exprS (callM 2 c_check_fact (a1 (varM 0) (a1 (op2 gIx (varM 1) (pureM (.sh (.int 2)))) a0))))) (forS (.nm 2) (itM (frzM (slM (varM 1) (oSome (pureM (.sh (.int 1)))) oNone))) (exprS (callM 2 c_check_fact (a1 (varM 0) (a1 (varM 2) a0))))))))
noncomputable def m_check_fact : Nat → MF
  | 0 => fun _ => .bad
  | n + 1 => runF 2 1 (b_check_fact (m_check_fact n))
/-- check_saying(plan, saying): plan, saying, fact -/
noncomputable def b_check_saying : MS := (forS (.nm 2) (itM (frzM (slM (varM 1) (oSome (pureM (.sh (.int 1)))) oNone))) (exprS (callM 2 (m_check_fact 60) (a1 (varM 0) (a1 (varM 2) a0)))))
noncomputable def m_check_saying : MF := runF 2 1 b_check_saying
/-- _law_spoken(_law_tree): _law_tree, _law_found, _law_part_here -/
noncomputable def b__law_spoken (c__law_spoken : MF) : MS := (seqS (ifS (valT (op2 gEq (op2 gIx (varM 0) (pureM (.sh (.int 0)))) (pureM (.sh (.str "name"))))) (retS (opA gLstX (a1 (op2 gIx (varM 0) (pureM (.sh (.int 1)))) a0))) nxS) (seqS (setS 1 (opA gLstX a0)) (seqL (forS (.nm 2) (itM (frzM (slM (varM 0) (oSome (pureM (.sh (.int 1)))) oNone))) (ifS (valT (opA gIsi (a1 (varM 2) (a1 (pureM (.sh (.ty "tuple"))) a0)))) (exprS (mutM (.v 1) "list" gExtend (a1 (frzM (callM 1 c__law_spoken (a1 (varM 2) a0))) a0))) nxS)) (retS (varO 1)))))
noncomputable def m__law_spoken : Nat → MF
  | 0 => fun _ => .bad
  | n + 1 => runF 1 2 (b__law_spoken (m__law_spoken n))
/-- _law_good(_law_plan_here, _law_tree): _law_plan_here, _law_tree, _law_known, _law_family, _law_cells, _law_part_here, _law_cell, _law_name -/
noncomputable def b__law_good (c__law_good : MF) : MS := (seqS (setS 2 (pureM (.own (.dic 0 [])))) (seqL (forS (.nm 3) (itM (op2 gIx (varM 0) (pureM (.sh (.int 0))))) (setIxS (.v 2) (op2 gIx (varM 3) (pureM (.sh (.int 0)))) (varF 3))) (seqS (ifS (valT (op2 gIn (op2 gIx (varM 1) (pureM (.sh (.int 0)))) (opA gTupX (a1 (pureM (.sh (.str "true"))) (a1 (pureM (.sh (.str "dry"))) a0))))) (retS (pureM (.sh (.bl true)))) nxS) (seqS (ifS (valT (op2 gEq (op2 gIx (varM 1) (pureM (.sh (.int 0)))) (pureM (.sh (.str "letters"))))) (retS (andV (op2 gIn (op2 gIx (varM 1) (pureM (.sh (.int 1)))) (varM 2)) (op2 gIn (op2 gIx (varM 1) (pureM (.sh (.int 2)))) (varM 2)))) nxS) (seqS (ifS (valT (op2 gIn (op2 gIx (varM 1) (pureM (.sh (.int 0)))) (opA gTupX (a1 (pureM (.sh (.str "not"))) (a1 (pureM (.sh (.str "and"))) (a1 (pureM (.sh (.str "or"))) a0)))))) (retS (op2 gNotIn (pureM (.sh (.bl false))) (compM (.nm 5) (itT (slM (varM 1) (oSome (pureM (.sh (.int 1)))) oNone)) yesM (frzM (callM 2 c__law_good (a1 (varM 0) (a1 (varM 5) a0))))))) nxS) (seqS (ifS (valT (op2 gNotIn (op2 gIx (varM 1) (pureM (.sh (.int 1)))) (varM 2))) (retS (pureM (.sh (.bl false)))) nxS) (seqS (ifS (valT (op2 gIn (op2 gIx (varM 1) (pureM (.sh (.int 0)))) (opA gTupX (a1 (pureM (.sh (.str "some knows"))) (a1 (pureM (.sh (.str "each knows"))) a0))))) (retS (callM 2 c__law_good (a1 (varM 0) (a1 (op2 gIx (varM 1) (pureM (.sh (.int 2)))) a0)))) nxS) (seqS (setS 3 (op2 gIx (varM 2) (op2 gIx (varM 1) (pureM (.sh (.int 1)))))) (seqS (ifS (andT (valT (op2 gNe (op2 gIx (varM 1) (pureM (.sh (.int 2)))) (pureM (.sh (.str ""))))) (valT (op2 gNotIn (op2 gIx (varM 1) (pureM (.sh (.int 2)))) (op2 gIx (varM 3) (pureM (.sh (.int 2))))))) (retS (pureM (.sh (.bl false)))) nxS) (seqS (setS 4 (compM (.nm 6) (itT (op2 gIx (varM 3) (pureM (.sh (.int 3))))) yesM (op2 gIx (varM 6) (pureM (.sh (.int 0)))))) (retS (op2 gEq (compM (.nm 7) (itT (callM 1 (m__law_spoken 60) (a1 (op2 gIx (varM 1) (pureM (.sh (.int 3)))) a0))) (valT (op2 gNotIn (varM 7) (varM 4))) (varF 7)) (opA gLstX a0)))))))))))))
noncomputable def m__law_good : Nat → MF
  | 0 => fun _ => .bad
  | n + 1 => runF 2 6 (b__law_good (m__law_good n))
/-- _law_right(_law_plan_here, _law_saying_here): _law_plan_here, _law_saying_here, _law_error, _law_found, e, _law_fact_here -/
noncomputable def b__law_right : MS := (seqS (setS 2 (pureM (.sh .non))) (seqS (setS 3 (pureM (.sh .non))) (seqS (tryM ["NoFact"] 4 (setS 3 (callM 2 m_check_saying (a1 (varM 0) (a1 (varM 1) a0)))) (setS 2 (varO 4))) (seqS (ifS (valT (op2 gNotIn (pureM (.sh (.bl false))) (compM (.nm 5) (itT (slM (varM 1) (oSome (pureM (.sh (.int 1)))) oNone)) yesM (frzM (callM 2 (m__law_good 60) (a1 (varM 0) (a1 (varM 5) a0))))))) (retS (andV (op2 gIsN (varM 2) (pureM (.sh .non))) (op2 gIsN (varM 3) (pureM (.sh .non))))) nxS) (seqS (ifS (valT (opA (gIsx xT) (a1 (varM 2) (a1 (opA gTupX (a1 (pureM (.sh (.cls "NoDeed"))) (a1 (pureM (.sh (.cls "NoLine"))) (a1 (pureM (.sh (.cls "NoPlan"))) (a1 (pureM (.sh (.cls "NoRow"))) (a1 (pureM (.sh (.cls "NoText"))) (a1 (pureM (.sh (.cls "NotPossible"))) (a1 (pureM (.sh (.cls "NoThing"))) (a1 (pureM (.sh (.cls "TooMany"))) a0))))))))) a0)))) (retS (pureM (.sh (.bl false)))) nxS) (retS (andV (opA (gIsx xT) (a1 (varM 2) (a1 (pureM (.sh (.cls "NoFact"))) a0))) (opA (gIsx xT) (a1 (varM 2) (a1 (pureM (.sh (.ty "ValueError"))) a0))))))))))
noncomputable def m__law_right : MF := runF 2 4 b__law_right
/-- law(_law_script): _law_script, _law_cells, _law_total, _law_plan_here, _law_names_here, _law_cell, _law_saying_here -/
noncomputable def b_law : MS := (seqS (setS 1 (op2 gAdd (slM (varM 0) oNone (oSome (pureM (.sh (.int 40))))) (opA gLstX (a1 (pureM (.sh (.int 0))) a0)))) (seqS (setS 2 (opA gSum (a1 (varM 1) a0))) (seqS (setS 3 (callM 1 m__law_plan (a1 (varM 2) a0))) (seqS (setS 4 (callM 1 m__law_names (a1 (varM 2) a0))) (seqL (forS (.nm 5) (itM (varF 1)) (seqS (setS 6 (callM 3 m__law_saying (a1 (varM 3) (a1 (varM 4) (a1 (varM 5) a0))))) (seqS (ifS (notT (valT (callM 2 m__law_right (a1 (varM 3) (a1 (varM 6) a0))))) (retS (pureM (.sh (.bl false)))) nxS) (ifS (orT (valT (op2 gNe (varM 3) (callM 1 m__law_plan (a1 (varM 2) a0)))) (valT (op2 gNe (varM 6) (callM 3 m__law_saying (a1 (varM 3) (a1 (varM 4) (a1 (varM 5) a0))))))) (retS (pureM (.sh (.bl false)))) nxS)))) (retS (pureM (.sh (.bl true)))))))))
noncomputable def m_law : MF := runF 1 6 b_law
end K93

local macro_rules | `(tactic| simp! only [$args,*]) => `(tactic| simp (config := { maxSteps := 100000000, implicitDefEqProofs := false }) only [↓R.wp_ok, ↓R.wp_exc, ↓R.gP_some, ↓R.gP_none, ↓R.gP_ite, ↓R.w_pure, ↓R.w_valT, ↓R.w_andT, ↓R.w_orT, ↓R.w_notT, ↓R.w_andV, ↓R.w_orV, ↓R.w_notV, ↓R.w_ifV, ↓R.w_sl, ↓R.w_oNone, ↓R.w_oSome, ↓R.w_comp, ↓R.w_itT, ↓R.w_itA, ↓R.w_yes, ↓R.shP_sh, ↓R.w_p0, ↓R.w_p1, ↓R.w_disp, ↓R.ow_nx, ↓R.ow_rt, ↓R.ow_ct, ↓R.ow_bk, ↓R.w_nx, ↓R.w_bk, ↓R.w_ct, ↓R.w_seq, ↓R.w_if, ↓R.w_retN, ↓R.w_expr, ↓R.tL_ct, ↓R.tL_bk, ↓R.tL_rt, ↓R.tL_exc, ↓R.tU_ct, ↓R.tU_bk, ↓R.tU_rt, ↓R.n_vS, ↓R.n_v0sh, ↓R.n_v0own, ↓R.n_v0io, ↓R.n_v0bo, ↓R.n_var, ↓R.n_fS, ↓R.n_f0sh, ↓R.n_f0lst, ↓R.n_f0dic, ↓R.n_varF, ↓R.n_oS, ↓R.n_o0sh, ↓R.n_o0own, ↓R.n_varO, ↓R.n_fzsh, ↓R.n_fzlst, ↓R.n_fzdic, ↓R.n_frz, ↓R.n_stsh, ↓R.n_stbo, ↓R.n_argsh, ↓R.n_argbo, ↓R.n_argtr, ↓R.n_retsh, ↓R.n_retown, ↓R.n_op2, ↓R.n_op2c, ↓R.n_op1, ↓R.n_opA, ↓R.n_a0, ↓R.n_a1, ↓R.n_a1c, ↓R.n_isB, ↓R.n_itM, ↓R.n_c0, ↓R.n_csh, ↓R.n_cbo, ↓R.n_ctr, ↓R.n_s0, ↓R.n_sN, ↓R.n_sS, ↓R.n_u0, ↓R.n_ush, ↓R.n_ubo, ↓R.n_uio, ↓R.n_call, ↓R.n_frt, ↓R.n_fexc, ↓R.n_runF, ↓R.n_gS, ↓R.n_gol, ↓R.n_gil, ↓R.n_god, ↓R.n_gid, ↓R.n_uS, ↓R.n_uol, ↓R.n_uil, ↓R.n_uod, ↓R.n_uid, ↓R.n_tyl, ↓R.n_tyd, ↓R.n_tyd1, ↓R.n_shsh, ↓R.n_mut, ↓R.n_mut0, ↓R.n_append, ↓R.n_setds, ↓R.n_setdi, ↓R.n_clear, ↓R.n_eS, ↓R.n_e0sh, ↓R.n_e0own, ↓R.n_set, ↓R.n_ret, ↓R.n_aS, ↓R.n_a0sh, ↓R.n_aug, ↓R.n_setIx, ↓R.n_unp, ↓R.n_pS, ↓R.n_p0, ↓R.n_pt, ↓R.n_pl0, ↓R.n_pl1, ↓R.n_seqfor, ↓R.n_for, ↓R.n_seqwhile, ↓R.n_while, ↓R.n_seqcomp, ↓R.n_setcomp, ↓R.n_seqI, ↓R.n_forn, ↓R.n_forc, ↓R.g_add_ii, ↓R.g_add_ss, ↓R.g_add_tt, ↓R.g_sub_ii, ↓R.g_iadd_ii, ↓R.g_mul_ii, ↓R.g_mul_si, ↓R.g_fdiv_ii, ↓R.g_mod_ii, ↓R.g_pow_ii, ↓R.g_neg_i, ↓R.g_lt_ii, ↓R.g_le_ii, ↓R.g_gt_ii, ↓R.g_ge_ii, ↓R.g_eq_ii, ↓R.g_eq_ss, ↓R.g_eq_bb, ↓R.g_ne_ii, ↓R.g_ne_ss, ↓R.g_ne_bb, ↓R.ix_0, ↓R.ix_1, ↓R.ix_2, ↓R.ix_3, ↓R.ix_4, ↓R.g_ix_lst, ↓R.g_ix_tup, ↓R.g_ix_kt, ↓R.g_ix_scr, ↓R.g_ix_olst, ↓R.g_ix_tlst, ↓R.g_ix_blst, ↓R.g_ix_str, ↓R.g_ix_ds, ↓R.g_ix_tds, ↓R.g_ix_bds, ↓R.g_ix_di, ↓R.g_ix_tdi, ↓R.g_ix_bdi, ↓R.g_len_str, ↓R.g_len_lst, ↓R.g_len_tup, ↓R.g_len_kt, ↓R.g_len_scr, ↓R.g_len_olst, ↓R.g_len_tlst, ↓R.g_len_blst, ↓R.g_len_dic, ↓R.g_len_tdic, ↓R.g_len_bdic, ↓R.g_int_b, ↓R.g_max_ii, ↓R.g_min_ii, ↓R.g_abs_i, ↓R.g_dict1, ↓R.g_dict1s, ↓R.g_dict1b, ↓R.g_tup1, ↓R.g_tup2, ↓R.g_tup3, ↓R.g_tup4, ↓R.g_lst0, ↓R.g_lst1, ↓R.g_lst2, ↓R.g_lst3, ↓R.g_lst4, ↓R.g_lst5, ↓R.g_lst6, ↓R.g_isi_int_int, ↓R.g_isi_int_bool, ↓R.g_isi_bl_bool, ↓R.g_isi_bl_int, ↓R.g_isi_tup_tup, ↓R.g_isi_str_tup, ↓R.g_isi_int_tup, ↓R.g_isi_str_str, ↓R.g_isi_lst_lst, ↓R.g_int?_i, ↓R.g_walk_lst, ↓R.g_walk_tup, ↓R.g_walk_scr, ↓R.g_walk_blst, ↓R.g_walk_tlst, ↓R.g_range1, ↓R.g_range2, ↓R.g_range3, ↓R.g_sl_tup, ↓R.g_sl_lst, ↓R.g_sl_scr, ↓R.n_itE, ↓R.n_en_sh, ↓R.n_en_bo, ↓R.n_en_tr, ↓R.g_tup5, ↓R.g_tup6, ↓R.g_tup7, ↓R.g_lst7, ↓R.g_lst8, ↓R.ix_5, ↓R.ix_6, ↓R.g_add_lss, ↓R.g_add_lst, ↓R.g_add_lsb, ↓R.g_add_lso, ↓R.g_add_lts, ↓R.g_add_ltt, ↓R.g_add_ltb, ↓R.g_add_lto, ↓R.g_add_lbs, ↓R.g_add_lbt, ↓R.g_add_lbb, ↓R.g_add_lbo, ↓R.g_add_los, ↓R.g_add_lot, ↓R.g_add_lob, ↓R.g_add_loo, ↓R.g_list_s, ↓R.g_tuple_s, ↓R.g_mul_ls, ↓R.g_list_t, ↓R.g_tuple_t, ↓R.g_mul_lt, ↓R.g_sl_lt, ↓R.g_list_b, ↓R.g_tuple_b, ↓R.g_mul_lb, ↓R.g_sl_lb, ↓R.g_list_o, ↓R.g_tuple_o, ↓R.g_mul_lo, ↓R.g_sl_lo, ↓R.g_list_tup, ↓R.g_list_scr, ↓R.g_tuple_tup, ↓R.g_lrg, ↓R.n_seqlk, ↓R.n_lk, ↓R.g_tup0, ↓R.g_isi_tlst_lst, ↓R.g_isi_blst_lst, ↓R.g_isi_lst_tup, ↓R.g_isi_non_tup, ↓R.g_isi_tup_str, ↓R.g_isi_int_str, ↓R.g_isi_non_str, ↓R.n_sq_lst, ↓R.n_sq_tup, ↓R.n_sq_kt, ↓R.n_sqsh, ↓R.n_sqtl, ↓R.n_sqol, ↓R.n_sqbl, ↓R.n_qt_sh, ↓R.n_qt_bo, ↓R.n_qt_tr, ↓R.n_qt_own, ↓R.n_enS, ↓R.n_itE2, ↓R.n_zpS, ↓R.n_itZ, ↓R.n_lnS, ↓R.n_lno, ↓R.n_lni, ↓R.n_bkS, ↓R.n_bko, ↓R.n_bki, ↓R.n_cm0, ↓R.n_cmsh, ↓R.n_cmbo, ↓R.n_cl0, ↓R.n_clsh, ↓R.n_clbo, ↓R.n_ioS, ↓R.n_io0, ↓R.n_callL, ↓R.n_laL, ↓R.n_pk1S, ↓R.n_pk1sh, ↓R.n_pk1l, ↓R.n_pk1d, ↓R.n_pk0, ↓R.n_pks, ↓R.n_pkk, ↓R.n_pkT, ↓R.n_px, ↓R.n_pt0, ↓R.n_ptc, ↓R.n_fosh, ↓R.n_fol, ↓R.n_fod, ↓R.n_unpP, ↓R.n_btsl, ↓R.n_bttl, ↓R.n_btol, ↓R.n_btbl, ↓R.n_meth, ↓R.n_popI, ↓R.n_setli, ↓R.n_setdII, ↓R.g_ix_d1, ↓R.g_ix_td1, ↓R.g_ix_bd1, ↓R.g_in_d1, ↓R.g_nin_d1, ↓R.g_isN, ↓R.g_notN, ↓R.n_non_non, ↓R.n_non_tup, ↓R.n_non_int, ↓R.n_non_str, ↓R.g_mul2_t, ↓R.g_walk_slst, ↓R.n_abs_i, ↓R.n_make, ↓R.n_fvsh, ↓R.n_fvl, ↓R.n_fvd, ↓R.n_sf, ↓R.n_setF, ↓R.n_gf, ↓R.n_uf, ↓R.n_mutf, ↓R.n_setIxf, ↓R.g_fld_t, ↓R.g_fld_b, ↓R.g_fld_o, ↓R.g_fld_s, ↓R.n_ftsh, ↓R.n_ftl, ↓R.n_ftd, ↓R.n_fbsh, ↓R.n_fbl, ↓R.n_fbd, ↓R.n_ofvl, ↓R.n_ofvd, ↓R.n_frne, ↓R.n_ffr, ↓R.n_fzfr, ↓R.g_fr1, ↓R.g_fr2, ↓R.g_fr3, ↓R.g_fr4, ↓R.g_fr5, ↓R.n_lk1, ↓R.n_lk2, ↓R.n_lk3, ↓R.n_lk4, ↓R.n_lk5, ↓R.n_lk6, ↓R.n_fdsh, ↓R.n_fdl, ↓R.n_fdd, R.n_pf1, R.n_pf2, R.n_pf3, R.n_pf4, R.n_pf5, R.n_ps1, R.n_ps2, R.n_ps3, ↓R.n_fc1, ↓R.n_fc2, ↓R.n_fc3, ↓R.n_pk2, ↓R.n_pkL2, ↓R.n_opS, ↓R.n_op0, ↓R.n_ixPk, ↓R.n_i0, ↓R.n_i1, ↓R.n_opL, ↓R.n_gkS, ↓R.n_gk0, ↓R.n_gk1, ↓R.n_uk0, ↓R.n_uk1, ↓R.n_ukS, ↓R.n_mutP, ↓R.n_mutP0, ↓R.n_lssh, ↓R.n_lsown, ↓R.n_lstr, ↓R.n_sl3M, ↓R.n_raise0, ↓R.n_inY, ↓R.n_inYd, ↓R.n_zS, ↓R.n_z0, ↓R.n_tlx, ↓R.n_tlrt, ↓R.n_tlbk, ↓R.n_tlct, ↓R.n_try, ↓R.n_non_exn, ↓R.g_isx_c, ↓R.g_isx_t, ↓R.n_d0t, ↓R.n_d0s, ↓R.n_d0b, ↓R.n_dks, ↓R.n_dget, ↓R.n_extend, ↓R.g_shr_ii, ↓R.g_in_ds, ↓R.g_in_dt, ↓R.g_nin_ds, ↓R.g_nin_dt, ↓R.pop_app, ↓R.ix_last, ↓R.ix_last2, ↓reduceIte, true_and, and_true, decide_eq_true_eq, Bool.not_eq_true', decide_eq_false_iff_not, Bool.not_true, Bool.not_false, decide_true, decide_false, Bool.false_eq_true, if_true, if_false, $args,*])
local macro_rules | `(tactic| simp! only [$args,*] at $l:ident) => `(tactic| simp (config := { maxSteps := 100000000, implicitDefEqProofs := false }) only [↓R.wp_ok, ↓R.wp_exc, ↓R.gP_some, ↓R.gP_none, ↓R.gP_ite, ↓R.w_pure, ↓R.w_valT, ↓R.w_andT, ↓R.w_orT, ↓R.w_notT, ↓R.w_andV, ↓R.w_orV, ↓R.w_notV, ↓R.w_ifV, ↓R.w_sl, ↓R.w_oNone, ↓R.w_oSome, ↓R.w_comp, ↓R.w_itT, ↓R.w_itA, ↓R.w_yes, ↓R.shP_sh, ↓R.w_p0, ↓R.w_p1, ↓R.w_disp, ↓R.ow_nx, ↓R.ow_rt, ↓R.ow_ct, ↓R.ow_bk, ↓R.w_nx, ↓R.w_bk, ↓R.w_ct, ↓R.w_seq, ↓R.w_if, ↓R.w_retN, ↓R.w_expr, ↓R.tL_ct, ↓R.tL_bk, ↓R.tL_rt, ↓R.tL_exc, ↓R.tU_ct, ↓R.tU_bk, ↓R.tU_rt, ↓R.n_vS, ↓R.n_v0sh, ↓R.n_v0own, ↓R.n_v0io, ↓R.n_v0bo, ↓R.n_var, ↓R.n_fS, ↓R.n_f0sh, ↓R.n_f0lst, ↓R.n_f0dic, ↓R.n_varF, ↓R.n_oS, ↓R.n_o0sh, ↓R.n_o0own, ↓R.n_varO, ↓R.n_fzsh, ↓R.n_fzlst, ↓R.n_fzdic, ↓R.n_frz, ↓R.n_stsh, ↓R.n_stbo, ↓R.n_argsh, ↓R.n_argbo, ↓R.n_argtr, ↓R.n_retsh, ↓R.n_retown, ↓R.n_op2, ↓R.n_op2c, ↓R.n_op1, ↓R.n_opA, ↓R.n_a0, ↓R.n_a1, ↓R.n_a1c, ↓R.n_isB, ↓R.n_itM, ↓R.n_c0, ↓R.n_csh, ↓R.n_cbo, ↓R.n_ctr, ↓R.n_s0, ↓R.n_sN, ↓R.n_sS, ↓R.n_u0, ↓R.n_ush, ↓R.n_ubo, ↓R.n_uio, ↓R.n_call, ↓R.n_frt, ↓R.n_fexc, ↓R.n_runF, ↓R.n_gS, ↓R.n_gol, ↓R.n_gil, ↓R.n_god, ↓R.n_gid, ↓R.n_uS, ↓R.n_uol, ↓R.n_uil, ↓R.n_uod, ↓R.n_uid, ↓R.n_tyl, ↓R.n_tyd, ↓R.n_tyd1, ↓R.n_shsh, ↓R.n_mut, ↓R.n_mut0, ↓R.n_append, ↓R.n_setds, ↓R.n_setdi, ↓R.n_clear, ↓R.n_eS, ↓R.n_e0sh, ↓R.n_e0own, ↓R.n_set, ↓R.n_ret, ↓R.n_aS, ↓R.n_a0sh, ↓R.n_aug, ↓R.n_setIx, ↓R.n_unp, ↓R.n_pS, ↓R.n_p0, ↓R.n_pt, ↓R.n_pl0, ↓R.n_pl1, ↓R.n_seqfor, ↓R.n_for, ↓R.n_seqwhile, ↓R.n_while, ↓R.n_seqcomp, ↓R.n_setcomp, ↓R.n_seqI, ↓R.n_forn, ↓R.n_forc, ↓R.g_add_ii, ↓R.g_add_ss, ↓R.g_add_tt, ↓R.g_sub_ii, ↓R.g_iadd_ii, ↓R.g_mul_ii, ↓R.g_mul_si, ↓R.g_fdiv_ii, ↓R.g_mod_ii, ↓R.g_pow_ii, ↓R.g_neg_i, ↓R.g_lt_ii, ↓R.g_le_ii, ↓R.g_gt_ii, ↓R.g_ge_ii, ↓R.g_eq_ii, ↓R.g_eq_ss, ↓R.g_eq_bb, ↓R.g_ne_ii, ↓R.g_ne_ss, ↓R.g_ne_bb, ↓R.ix_0, ↓R.ix_1, ↓R.ix_2, ↓R.ix_3, ↓R.ix_4, ↓R.g_ix_lst, ↓R.g_ix_tup, ↓R.g_ix_kt, ↓R.g_ix_scr, ↓R.g_ix_olst, ↓R.g_ix_tlst, ↓R.g_ix_blst, ↓R.g_ix_str, ↓R.g_ix_ds, ↓R.g_ix_tds, ↓R.g_ix_bds, ↓R.g_ix_di, ↓R.g_ix_tdi, ↓R.g_ix_bdi, ↓R.g_len_str, ↓R.g_len_lst, ↓R.g_len_tup, ↓R.g_len_kt, ↓R.g_len_scr, ↓R.g_len_olst, ↓R.g_len_tlst, ↓R.g_len_blst, ↓R.g_len_dic, ↓R.g_len_tdic, ↓R.g_len_bdic, ↓R.g_int_b, ↓R.g_max_ii, ↓R.g_min_ii, ↓R.g_abs_i, ↓R.g_dict1, ↓R.g_dict1s, ↓R.g_dict1b, ↓R.g_tup1, ↓R.g_tup2, ↓R.g_tup3, ↓R.g_tup4, ↓R.g_lst0, ↓R.g_lst1, ↓R.g_lst2, ↓R.g_lst3, ↓R.g_lst4, ↓R.g_lst5, ↓R.g_lst6, ↓R.g_isi_int_int, ↓R.g_isi_int_bool, ↓R.g_isi_bl_bool, ↓R.g_isi_bl_int, ↓R.g_isi_tup_tup, ↓R.g_isi_str_tup, ↓R.g_isi_int_tup, ↓R.g_isi_str_str, ↓R.g_isi_lst_lst, ↓R.g_int?_i, ↓R.g_walk_lst, ↓R.g_walk_tup, ↓R.g_walk_scr, ↓R.g_walk_blst, ↓R.g_walk_tlst, ↓R.g_range1, ↓R.g_range2, ↓R.g_range3, ↓R.g_sl_tup, ↓R.g_sl_lst, ↓R.g_sl_scr, ↓R.n_itE, ↓R.n_en_sh, ↓R.n_en_bo, ↓R.n_en_tr, ↓R.g_tup5, ↓R.g_tup6, ↓R.g_tup7, ↓R.g_lst7, ↓R.g_lst8, ↓R.ix_5, ↓R.ix_6, ↓R.g_add_lss, ↓R.g_add_lst, ↓R.g_add_lsb, ↓R.g_add_lso, ↓R.g_add_lts, ↓R.g_add_ltt, ↓R.g_add_ltb, ↓R.g_add_lto, ↓R.g_add_lbs, ↓R.g_add_lbt, ↓R.g_add_lbb, ↓R.g_add_lbo, ↓R.g_add_los, ↓R.g_add_lot, ↓R.g_add_lob, ↓R.g_add_loo, ↓R.g_list_s, ↓R.g_tuple_s, ↓R.g_mul_ls, ↓R.g_list_t, ↓R.g_tuple_t, ↓R.g_mul_lt, ↓R.g_sl_lt, ↓R.g_list_b, ↓R.g_tuple_b, ↓R.g_mul_lb, ↓R.g_sl_lb, ↓R.g_list_o, ↓R.g_tuple_o, ↓R.g_mul_lo, ↓R.g_sl_lo, ↓R.g_list_tup, ↓R.g_list_scr, ↓R.g_tuple_tup, ↓R.g_lrg, ↓R.n_seqlk, ↓R.n_lk, ↓R.g_tup0, ↓R.g_isi_tlst_lst, ↓R.g_isi_blst_lst, ↓R.g_isi_lst_tup, ↓R.g_isi_non_tup, ↓R.g_isi_tup_str, ↓R.g_isi_int_str, ↓R.g_isi_non_str, ↓R.n_sq_lst, ↓R.n_sq_tup, ↓R.n_sq_kt, ↓R.n_sqsh, ↓R.n_sqtl, ↓R.n_sqol, ↓R.n_sqbl, ↓R.n_qt_sh, ↓R.n_qt_bo, ↓R.n_qt_tr, ↓R.n_qt_own, ↓R.n_enS, ↓R.n_itE2, ↓R.n_zpS, ↓R.n_itZ, ↓R.n_lnS, ↓R.n_lno, ↓R.n_lni, ↓R.n_bkS, ↓R.n_bko, ↓R.n_bki, ↓R.n_cm0, ↓R.n_cmsh, ↓R.n_cmbo, ↓R.n_cl0, ↓R.n_clsh, ↓R.n_clbo, ↓R.n_ioS, ↓R.n_io0, ↓R.n_callL, ↓R.n_laL, ↓R.n_pk1S, ↓R.n_pk1sh, ↓R.n_pk1l, ↓R.n_pk1d, ↓R.n_pk0, ↓R.n_pks, ↓R.n_pkk, ↓R.n_pkT, ↓R.n_px, ↓R.n_pt0, ↓R.n_ptc, ↓R.n_fosh, ↓R.n_fol, ↓R.n_fod, ↓R.n_unpP, ↓R.n_btsl, ↓R.n_bttl, ↓R.n_btol, ↓R.n_btbl, ↓R.n_meth, ↓R.n_popI, ↓R.n_setli, ↓R.n_setdII, ↓R.g_ix_d1, ↓R.g_ix_td1, ↓R.g_ix_bd1, ↓R.g_in_d1, ↓R.g_nin_d1, ↓R.g_isN, ↓R.g_notN, ↓R.n_non_non, ↓R.n_non_tup, ↓R.n_non_int, ↓R.n_non_str, ↓R.g_mul2_t, ↓R.g_walk_slst, ↓R.n_abs_i, ↓R.n_make, ↓R.n_fvsh, ↓R.n_fvl, ↓R.n_fvd, ↓R.n_sf, ↓R.n_setF, ↓R.n_gf, ↓R.n_uf, ↓R.n_mutf, ↓R.n_setIxf, ↓R.g_fld_t, ↓R.g_fld_b, ↓R.g_fld_o, ↓R.g_fld_s, ↓R.n_ftsh, ↓R.n_ftl, ↓R.n_ftd, ↓R.n_fbsh, ↓R.n_fbl, ↓R.n_fbd, ↓R.n_ofvl, ↓R.n_ofvd, ↓R.n_frne, ↓R.n_ffr, ↓R.n_fzfr, ↓R.g_fr1, ↓R.g_fr2, ↓R.g_fr3, ↓R.g_fr4, ↓R.g_fr5, ↓R.n_lk1, ↓R.n_lk2, ↓R.n_lk3, ↓R.n_lk4, ↓R.n_lk5, ↓R.n_lk6, ↓R.n_fdsh, ↓R.n_fdl, ↓R.n_fdd, R.n_pf1, R.n_pf2, R.n_pf3, R.n_pf4, R.n_pf5, R.n_ps1, R.n_ps2, R.n_ps3, ↓R.n_fc1, ↓R.n_fc2, ↓R.n_fc3, ↓R.n_pk2, ↓R.n_pkL2, ↓R.n_opS, ↓R.n_op0, ↓R.n_ixPk, ↓R.n_i0, ↓R.n_i1, ↓R.n_opL, ↓R.n_gkS, ↓R.n_gk0, ↓R.n_gk1, ↓R.n_uk0, ↓R.n_uk1, ↓R.n_ukS, ↓R.n_mutP, ↓R.n_mutP0, ↓R.n_lssh, ↓R.n_lsown, ↓R.n_lstr, ↓R.n_sl3M, ↓R.n_raise0, ↓R.n_inY, ↓R.n_inYd, ↓R.n_zS, ↓R.n_z0, ↓R.n_tlx, ↓R.n_tlrt, ↓R.n_tlbk, ↓R.n_tlct, ↓R.n_try, ↓R.n_non_exn, ↓R.g_isx_c, ↓R.g_isx_t, ↓R.n_d0t, ↓R.n_d0s, ↓R.n_d0b, ↓R.n_dks, ↓R.n_dget, ↓R.n_extend, ↓R.g_shr_ii, ↓R.g_in_ds, ↓R.g_in_dt, ↓R.g_nin_ds, ↓R.g_nin_dt, ↓R.pop_app, ↓R.ix_last, ↓R.ix_last2, ↓reduceIte, true_and, and_true, decide_eq_true_eq, Bool.not_eq_true', decide_eq_false_iff_not, Bool.not_true, Bool.not_false, decide_true, decide_false, Bool.false_eq_true, if_true, if_false, $args,*] at $l:ident)
local macro_rules | `(tactic| simp_all! only [$args,*]) => `(tactic| simp (config := { maxSteps := 100000000, implicitDefEqProofs := false }) only [↓R.wp_ok, ↓R.wp_exc, ↓R.gP_some, ↓R.gP_none, ↓R.gP_ite, ↓R.w_pure, ↓R.w_valT, ↓R.w_andT, ↓R.w_orT, ↓R.w_notT, ↓R.w_andV, ↓R.w_orV, ↓R.w_notV, ↓R.w_ifV, ↓R.w_sl, ↓R.w_oNone, ↓R.w_oSome, ↓R.w_comp, ↓R.w_itT, ↓R.w_itA, ↓R.w_yes, ↓R.shP_sh, ↓R.w_p0, ↓R.w_p1, ↓R.w_disp, ↓R.ow_nx, ↓R.ow_rt, ↓R.ow_ct, ↓R.ow_bk, ↓R.w_nx, ↓R.w_bk, ↓R.w_ct, ↓R.w_seq, ↓R.w_if, ↓R.w_retN, ↓R.w_expr, ↓R.tL_ct, ↓R.tL_bk, ↓R.tL_rt, ↓R.tL_exc, ↓R.tU_ct, ↓R.tU_bk, ↓R.tU_rt, ↓R.n_vS, ↓R.n_v0sh, ↓R.n_v0own, ↓R.n_v0io, ↓R.n_v0bo, ↓R.n_var, ↓R.n_fS, ↓R.n_f0sh, ↓R.n_f0lst, ↓R.n_f0dic, ↓R.n_varF, ↓R.n_oS, ↓R.n_o0sh, ↓R.n_o0own, ↓R.n_varO, ↓R.n_fzsh, ↓R.n_fzlst, ↓R.n_fzdic, ↓R.n_frz, ↓R.n_stsh, ↓R.n_stbo, ↓R.n_argsh, ↓R.n_argbo, ↓R.n_argtr, ↓R.n_retsh, ↓R.n_retown, ↓R.n_op2, ↓R.n_op2c, ↓R.n_op1, ↓R.n_opA, ↓R.n_a0, ↓R.n_a1, ↓R.n_a1c, ↓R.n_isB, ↓R.n_itM, ↓R.n_c0, ↓R.n_csh, ↓R.n_cbo, ↓R.n_ctr, ↓R.n_s0, ↓R.n_sN, ↓R.n_sS, ↓R.n_u0, ↓R.n_ush, ↓R.n_ubo, ↓R.n_uio, ↓R.n_call, ↓R.n_frt, ↓R.n_fexc, ↓R.n_runF, ↓R.n_gS, ↓R.n_gol, ↓R.n_gil, ↓R.n_god, ↓R.n_gid, ↓R.n_uS, ↓R.n_uol, ↓R.n_uil, ↓R.n_uod, ↓R.n_uid, ↓R.n_tyl, ↓R.n_tyd, ↓R.n_tyd1, ↓R.n_shsh, ↓R.n_mut, ↓R.n_mut0, ↓R.n_append, ↓R.n_setds, ↓R.n_setdi, ↓R.n_clear, ↓R.n_eS, ↓R.n_e0sh, ↓R.n_e0own, ↓R.n_set, ↓R.n_ret, ↓R.n_aS, ↓R.n_a0sh, ↓R.n_aug, ↓R.n_setIx, ↓R.n_unp, ↓R.n_pS, ↓R.n_p0, ↓R.n_pt, ↓R.n_pl0, ↓R.n_pl1, ↓R.n_seqfor, ↓R.n_for, ↓R.n_seqwhile, ↓R.n_while, ↓R.n_seqcomp, ↓R.n_setcomp, ↓R.n_seqI, ↓R.n_forn, ↓R.n_forc, ↓R.g_add_ii, ↓R.g_add_ss, ↓R.g_add_tt, ↓R.g_sub_ii, ↓R.g_iadd_ii, ↓R.g_mul_ii, ↓R.g_mul_si, ↓R.g_fdiv_ii, ↓R.g_mod_ii, ↓R.g_pow_ii, ↓R.g_neg_i, ↓R.g_lt_ii, ↓R.g_le_ii, ↓R.g_gt_ii, ↓R.g_ge_ii, ↓R.g_eq_ii, ↓R.g_eq_ss, ↓R.g_eq_bb, ↓R.g_ne_ii, ↓R.g_ne_ss, ↓R.g_ne_bb, ↓R.ix_0, ↓R.ix_1, ↓R.ix_2, ↓R.ix_3, ↓R.ix_4, ↓R.g_ix_lst, ↓R.g_ix_tup, ↓R.g_ix_kt, ↓R.g_ix_scr, ↓R.g_ix_olst, ↓R.g_ix_tlst, ↓R.g_ix_blst, ↓R.g_ix_str, ↓R.g_ix_ds, ↓R.g_ix_tds, ↓R.g_ix_bds, ↓R.g_ix_di, ↓R.g_ix_tdi, ↓R.g_ix_bdi, ↓R.g_len_str, ↓R.g_len_lst, ↓R.g_len_tup, ↓R.g_len_kt, ↓R.g_len_scr, ↓R.g_len_olst, ↓R.g_len_tlst, ↓R.g_len_blst, ↓R.g_len_dic, ↓R.g_len_tdic, ↓R.g_len_bdic, ↓R.g_max_ii, ↓R.g_min_ii, ↓R.g_abs_i, ↓R.g_dict1, ↓R.g_dict1s, ↓R.g_dict1b, ↓R.g_tup1, ↓R.g_tup2, ↓R.g_tup3, ↓R.g_tup4, ↓R.g_lst0, ↓R.g_lst1, ↓R.g_lst2, ↓R.g_lst3, ↓R.g_lst4, ↓R.g_lst5, ↓R.g_lst6, ↓R.g_isi_int_int, ↓R.g_isi_int_bool, ↓R.g_isi_bl_bool, ↓R.g_isi_bl_int, ↓R.g_isi_tup_tup, ↓R.g_isi_str_tup, ↓R.g_isi_int_tup, ↓R.g_isi_str_str, ↓R.g_isi_lst_lst, ↓R.g_int?_i, ↓R.g_walk_lst, ↓R.g_walk_tup, ↓R.g_walk_scr, ↓R.g_walk_blst, ↓R.g_walk_tlst, ↓R.g_range1, ↓R.g_range2, ↓R.g_range3, ↓R.g_sl_tup, ↓R.g_sl_lst, ↓R.g_sl_scr, ↓R.n_itE, ↓R.n_en_sh, ↓R.n_en_bo, ↓R.n_en_tr, ↓R.g_tup5, ↓R.g_tup6, ↓R.g_tup7, ↓R.g_lst7, ↓R.g_lst8, ↓R.ix_5, ↓R.ix_6, ↓R.g_add_lss, ↓R.g_add_lst, ↓R.g_add_lsb, ↓R.g_add_lso, ↓R.g_add_lts, ↓R.g_add_ltt, ↓R.g_add_ltb, ↓R.g_add_lto, ↓R.g_add_lbs, ↓R.g_add_lbt, ↓R.g_add_lbb, ↓R.g_add_lbo, ↓R.g_add_los, ↓R.g_add_lot, ↓R.g_add_lob, ↓R.g_add_loo, ↓R.g_list_s, ↓R.g_tuple_s, ↓R.g_mul_ls, ↓R.g_list_t, ↓R.g_tuple_t, ↓R.g_mul_lt, ↓R.g_sl_lt, ↓R.g_list_b, ↓R.g_tuple_b, ↓R.g_mul_lb, ↓R.g_sl_lb, ↓R.g_list_o, ↓R.g_tuple_o, ↓R.g_mul_lo, ↓R.g_sl_lo, ↓R.g_list_tup, ↓R.g_list_scr, ↓R.g_tuple_tup, ↓R.g_lrg, ↓R.n_seqlk, ↓R.n_lk, ↓R.g_tup0, ↓R.g_isi_tlst_lst, ↓R.g_isi_blst_lst, ↓R.g_isi_lst_tup, ↓R.g_isi_non_tup, ↓R.g_isi_tup_str, ↓R.g_isi_int_str, ↓R.g_isi_non_str, ↓R.n_sq_lst, ↓R.n_sq_tup, ↓R.n_sq_kt, ↓R.n_sqsh, ↓R.n_sqtl, ↓R.n_sqol, ↓R.n_sqbl, ↓R.n_qt_sh, ↓R.n_qt_bo, ↓R.n_qt_tr, ↓R.n_qt_own, ↓R.n_enS, ↓R.n_itE2, ↓R.n_zpS, ↓R.n_itZ, ↓R.n_lnS, ↓R.n_lno, ↓R.n_lni, ↓R.n_bkS, ↓R.n_bko, ↓R.n_bki, ↓R.n_cm0, ↓R.n_cmsh, ↓R.n_cmbo, ↓R.n_cl0, ↓R.n_clsh, ↓R.n_clbo, ↓R.n_ioS, ↓R.n_io0, ↓R.n_callL, ↓R.n_laL, ↓R.n_pk1S, ↓R.n_pk1sh, ↓R.n_pk1l, ↓R.n_pk1d, ↓R.n_pk0, ↓R.n_pks, ↓R.n_pkk, ↓R.n_pkT, ↓R.n_px, ↓R.n_pt0, ↓R.n_ptc, ↓R.n_fosh, ↓R.n_fol, ↓R.n_fod, ↓R.n_unpP, ↓R.n_btsl, ↓R.n_bttl, ↓R.n_btol, ↓R.n_btbl, ↓R.n_meth, ↓R.n_popI, ↓R.n_setli, ↓R.n_setdII, ↓R.g_ix_d1, ↓R.g_ix_td1, ↓R.g_ix_bd1, ↓R.g_in_d1, ↓R.g_nin_d1, ↓R.g_isN, ↓R.g_notN, ↓R.n_non_non, ↓R.n_non_tup, ↓R.n_non_int, ↓R.n_non_str, ↓R.g_mul2_t, ↓R.g_walk_slst, ↓R.n_abs_i, ↓R.n_make, ↓R.n_fvsh, ↓R.n_fvl, ↓R.n_fvd, ↓R.n_sf, ↓R.n_setF, ↓R.n_gf, ↓R.n_uf, ↓R.n_mutf, ↓R.n_setIxf, ↓R.g_fld_t, ↓R.g_fld_b, ↓R.g_fld_o, ↓R.g_fld_s, ↓R.n_ftsh, ↓R.n_ftl, ↓R.n_ftd, ↓R.n_fbsh, ↓R.n_fbl, ↓R.n_fbd, ↓R.n_ofvl, ↓R.n_ofvd, ↓R.n_frne, ↓R.n_ffr, ↓R.n_fzfr, ↓R.g_fr1, ↓R.g_fr2, ↓R.g_fr3, ↓R.g_fr4, ↓R.g_fr5, ↓R.n_lk1, ↓R.n_lk2, ↓R.n_lk3, ↓R.n_lk4, ↓R.n_lk5, ↓R.n_lk6, ↓R.n_fdsh, ↓R.n_fdl, ↓R.n_fdd, R.n_pf1, R.n_pf2, R.n_pf3, R.n_pf4, R.n_pf5, R.n_ps1, R.n_ps2, R.n_ps3, ↓R.n_fc1, ↓R.n_fc2, ↓R.n_fc3, ↓R.n_pk2, ↓R.n_pkL2, ↓R.n_opS, ↓R.n_op0, ↓R.n_ixPk, ↓R.n_i0, ↓R.n_i1, ↓R.n_opL, ↓R.n_gkS, ↓R.n_gk0, ↓R.n_gk1, ↓R.n_uk0, ↓R.n_uk1, ↓R.n_ukS, ↓R.n_mutP, ↓R.n_mutP0, ↓R.n_lssh, ↓R.n_lsown, ↓R.n_lstr, ↓R.n_sl3M, ↓R.n_raise0, ↓R.n_inY, ↓R.n_inYd, ↓R.n_zS, ↓R.n_z0, ↓R.n_tlx, ↓R.n_tlrt, ↓R.n_tlbk, ↓R.n_tlct, ↓R.n_try, ↓R.n_non_exn, ↓R.g_isx_c, ↓R.g_isx_t, ↓R.n_d0t, ↓R.n_d0s, ↓R.n_d0b, ↓R.n_dks, ↓R.n_dget, ↓R.n_extend, ↓R.g_shr_ii, ↓R.g_in_ds, ↓R.g_in_dt, ↓R.g_nin_ds, ↓R.g_nin_dt, ↓R.pop_app, ↓R.ix_last, ↓R.ix_last2, ↓reduceIte, true_and, and_true, decide_eq_true_eq, Bool.not_eq_true', decide_eq_false_iff_not, Bool.not_true, Bool.not_false, decide_true, decide_false, Bool.false_eq_true, if_true, if_false, $args,*])
namespace K93
open PySem R
theorem mix_spec (n p : Int) (hk : 0 ≤ p) (h : p < 1000) : ∃ r : Int, 0 ≤ r ∧ m__law_mix [.sh (.int n), .sh (.int p)] = .ok (.sh (.int r)) [.sh (.int n), .sh (.int p)] := by
  suffices h : (m__law_mix [.sh (.int n), .sh (.int p)]).wp (fun x bs => bs = [.sh (.int n), .sh (.int p)] ∧ ∃ r : Int, 0 ≤ r ∧ x = .sh (.int r)) fun _ _ => False by
    obtain ⟨a, s, e, rfl, r, h1, rfl⟩ := h.ok
    exact ⟨r, h1, e⟩
  have e18 : (10 : Int) ^ Int.toNat 18 = 1000000000000000000 := by decide
  unfold m__law_mix b__law_mix
  simp! only [e18]
  have h20 : cMul 20 p = true := cMul_lt (by decide) (by decide) (by omega) (by omega)
  have hs : cShr n (20 * p) = true := cShr_of (by omega)
  have fin : ∃ r : Int, 0 ≤ r ∧ SV.sh (D.int (n / 2 ^ (20 * p).toNat % 1048576)) = SV.sh (D.int r) := ⟨_, Int.emod_nonneg _ (by decide), rfl⟩
  refine ite_of (fun hsp => ?_) (fun hsp => ?_)
  · exact ⟨h20, hs, cMod_of (by decide), fin⟩
  · refine ⟨by decide, ?_⟩
    refine ite_of (fun hsp => ?_) (fun hsp => ?_)
    · exact ⟨h20, hs, cMod_of (by decide), fin⟩
    · have hn : cMul n (2 * p + 3) = true := cMul_lt (by omega) (by omega) (by omega) (by omega)
      generalize n * (2 * p + 3) + p = A
      have hB : 0 ≤ A % 2147483629 ∧ A % 2147483629 < 2147483629 := by omega
      generalize A % 2147483629 = B at hB ⊢
      have hC : 0 ≤ B * B ∧ B * B < 2147483629 * 2147483629 := by
        refine ⟨Int.mul_nonneg hB.1 hB.1, ?_⟩
        have := Int.mul_le_mul (show B ≤ 2147483628 by omega) (show B ≤ 2147483628 by omega) hB.1 (by omega)
        omega
      have hBB : cMul B B = true := cMul_lt (by omega) (by omega) (by omega) (by omega)
      generalize B * B = C at hC ⊢
      have hD : 0 ≤ (C + 1) * 48271 % 2147483629 ∧ (C + 1) * 48271 % 2147483629 < 2147483629 := by omega
      generalize (C + 1) * 48271 = Dd at hD ⊢
      generalize Dd % 2147483629 = Ee at hD ⊢
      exact ⟨cMul_lt (by decide) (by decide) (by omega) (by omega), hn, cMod_of (by decide), hBB, cMul_lt (by omega) (by omega) (by decide) (by decide), cMod_of (by decide), cMul_lt (by omega) (by omega) (by omega) (by omega), cMod_of (by decide), _, Int.emod_nonneg _ (by decide), rfl⟩
/-- a short text -/
def OkS (s : Str) : Prop := PyData.strOk s = true ∧ s.length ≤ 20
theorem str_app_len {a b : Str} : (a ++ b).length = a.length + b.length := by
  show (a.cps ++ b.cps).size = _
  rw [Array.size_append]; rfl
theorem sok_add {a b : Str} (ha : PyData.strOk a = true) (hb : PyData.strOk b = true) : PyData.strOk (a ++ b) = true := by
  unfold PyData.strOk at *
  show (a.cps ++ b.cps).all _ = true
  rw [Array.all_append, ha, hb]
  rfl
def nmS (s : Nat) (tl : Str) (j : Nat) : Str := ⟨#[97 + (s + 3 * j) % 26]⟩ ++ Str.ofString "q" ++ tl
theorem one_ok : ∀ k < 26, PyData.strOk ⟨#[97 + k]⟩ = true := by decide +kernel
theorem abc_at : ∀ k < 26, (Str.ofString "abcdefghijklmnopqrstuvwxyz").cps.toList[k]? = some (97 + k) := by decide +kernel
theorem nm_ok {s j : Nat} {tl : Str} (h : PyData.strOk tl = true) (hl : tl.length ≤ 4) : OkS (nmS s tl j) := by
  refine ⟨sok_add (sok_add (one_ok _ (Nat.mod_lt _ (by decide))) (by decide +kernel)) h, ?_⟩
  unfold nmS
  rw [str_app_len, str_app_len]
  have : (⟨#[97 + (s + 3 * j) % 26]⟩ : Str).length = 1 := rfl
  have : (Str.ofString "q").length = 1 := by decide
  omega
theorem nm_ne {s : Nat} {tl : Str} : nmS s tl 0 ≠ nmS s tl 1 := fun h => by
  have e : (nmS s tl 0).cps.toList.head? = (nmS s tl 1).cps.toList.head? := by rw [h]
  have f : ∀ j, (nmS s tl j).cps.toList.head? = some (97 + (s + 3 * j) % 26) := fun j => by
    unfold nmS
    show (((#[97 + (s + 3 * j) % 26] ++ (Str.ofString "q").cps) ++ tl.cps).toList).head? = _
    rw [Array.toList_append, Array.toList_append]
    rfl
  rw [f, f] at e
  have e := Option.some.inj e
  omega
theorem names_spec (n : Int) : ∃ names : List Str, names.length = 12 ∧ (∀ s ∈ names, OkS s) ∧ (∀ a b, names[0]? = some a → names[1]? = some b → a ≠ b) ∧ m__law_names [.sh (.int n)] = .ok (.own (.lst (names.map D.str))) [.sh (.int n)] := by
  suffices h : (m__law_names [.sh (.int n)]).wp (fun x bs => bs = [.sh (.int n)] ∧ ∃ s tl, (PyData.strOk tl = true ∧ tl.length ≤ 4) ∧ x = .own (.lst (((List.range 12).map (nmS s tl)).map D.str))) fun _ _ => False by
    obtain ⟨a, s, e, rfl, st, tl, ht, rfl⟩ := h.ok
    refine ⟨(List.range 12).map (nmS st tl), by simp, fun s hs => ?_, fun a b ha hb => ?_, e⟩
    · obtain ⟨j, _, rfl⟩ := List.mem_map.mp hs
      exact nm_ok ht.1 ht.2
    · cases ha; cases hb; exact nm_ne
  have sb := sizeLine_big
  obtain ⟨st, hs0, es⟩ := mix_spec n 1 (by decide) (by decide)
  obtain ⟨t, ht0, et⟩ := mix_spec n 2 (by decide) (by decide)
  have es := wp_eq es
  have et := wp_eq et
  unfold m__law_names b__law_names
  simp! only [↓es, ↓et]
  refine ⟨cMod_of (by decide), ix_mid (by omega) (by simp only [List.length_cons, List.length_nil]; omega) fun d hd => ?_⟩
  obtain ⟨tl, rfl, htl⟩ : ∃ tl : Str, d = .str tl ∧ PyData.strOk tl = true ∧ tl.length ≤ 4 := by
    have := List.mem_of_getElem? hd
    simp only [List.mem_cons, List.not_mem_nil, or_false] at this
    rcases this with rfl | rfl | rfl | rfl <;> exact ⟨_, rfl, by decide +kernel, by decide +kernel⟩
  simp! only []
  refine ⟨inLo_of (by decide) (by decide), rfl, ?_⟩
  refine comp_inv (fun j acc ρ => ρ = [some (.sh (.int n)), some (.sh (.str "abcdefghijklmnopqrstuvwxyz")), some (.sh (.int st)), some (.sh (.str tl)), none] ∧ acc = ((List.range j).map (nmS st.toNat tl)).map D.str) ⟨rfl, rfl⟩ ?_ ?_
  · rintro j x acc _ hx ⟨rfl, rfl⟩
    obtain ⟨hj, rfl⟩ := rangeD_at hx
    have hj : j < 12 := hj
    show putN _ _ _ _
    simp! only []
    have hlen : ((List.range j).map (nmS st.toNat tl)).length = j := by simp
    refine ⟨cMul_lt (by decide) (by decide) (by omega) (by omega), cMod_of (by decide), ?_⟩
    refine ⟨by decide +kernel, ?_⟩
    rw [atI_nat (by omega), show ((st + 3 * (0 + (j : Int))) % 26).toNat = (st.toNat + 3 * j) % 26 by omega, abc_at _ (Nat.mod_lt _ (by decide))]
    simp! only []
    have l1 : (⟨#[97 + (st.toNat + 3 * j) % 26]⟩ : Str).length = 1 := rfl
    have lq : (Str.ofString "q").length = 1 := by decide
    have h4 := htl.2
    refine ⟨by omega, by rw [str_app_len]; omega, by rw [List.length_map, hlen]; omega, rfl, ?_⟩
    rw [List.range_succ, List.map_append, List.map_append]
    rfl
  · rintro acc _ ⟨rfl, rfl⟩
    exact ⟨rfl, _, _, htl, rfl⟩
/-! the plan -/
structure Fam where
  nm : Str
  rs : List Str
  cs : List Str
  os : List Str
def celD (c : Str) : D := .tup [.str c, .int 0, .int 1, .int 0]
def famD (f : Fam) : D := .tup [.str f.nm, .int 1, .lst (f.rs.map D.str), .lst (f.cs.map celD), .lst (f.os.map D.str), .lst []]
def planD (fs : List Fam) : D := .tup [.lst (fs.map famD), .lst [], .lst []]
structure FamOk (f : Fam) : Prop where
  nm : OkS f.nm
  rs : ∀ s ∈ f.rs, OkS s
  cs : ∀ s ∈ f.cs, OkS s
  os : ∀ s ∈ f.os, OkS s
  lr : f.rs.length ≤ 12
  lc : f.cs.length ≤ 12
theorem str_list {names : List Str} {d : D} (h : d ∈ names.map D.str) : ∃ s ∈ names, d = .str s := by
  obtain ⟨s, hs, rfl⟩ := List.mem_map.mp h
  exact ⟨s, hs, rfl⟩
theorem cutD_map {α : Type} (f : α → D) {xs : List α} {lo hi : Option Int} : ∃ ys : List α, cutD (xs.map f) lo hi = ys.map f ∧ (∀ y ∈ ys, y ∈ xs) ∧ ys.length ≤ xs.length := by
  unfold cutD
  rw [List.length_map, ← List.map_drop, ← List.map_take]
  exact ⟨_, rfl, fun y hy => List.mem_of_mem_drop (List.mem_of_mem_take hy), by rw [List.length_take, List.length_drop]; omega⟩
theorem plan_spec (n : Int) : ∃ fs : List Fam, 1 ≤ fs.length ∧ fs.length ≤ 2 ∧ (∀ f ∈ fs, FamOk f) ∧ (fs.map Fam.nm).Nodup ∧ m__law_plan [.sh (.int n)] = .ok (.sh (planD fs)) [.sh (.int n)] := by
  suffices h : (m__law_plan [.sh (.int n)]).wp (fun x bs => bs = [.sh (.int n)] ∧ ∃ fs : List Fam, 1 ≤ fs.length ∧ fs.length ≤ 2 ∧ (∀ f ∈ fs, FamOk f) ∧ (fs.map Fam.nm).Nodup ∧ x = .sh (planD fs)) fun _ _ => False by
    obtain ⟨a, s, e, rfl, fs, h1, h2, h3, h4, rfl⟩ := h.ok
    exact ⟨fs, h1, h2, h3, h4, e⟩
  have sb := sizeLine_big
  obtain ⟨names, hl, hok, hne, en⟩ := names_spec n
  obtain ⟨m3, h30, e3⟩ := mix_spec n 3 (by decide) (by decide)
  have en := wp_eq en
  have e3 := wp_eq e3
  unfold m__law_plan b__law_plan
  simp! only [↓en]
  refine forK_of ?_
  simp! only [↓e3]
  refine ⟨cMod_of (by decide), inLo_of (by omega) (by omega), ?_⟩
  refine for_inv (fun i ρ => ∃ (fs : List Fam) (z3 z4 z5 z6 : Option SV), ρ = [some (.sh (.int n)), some (.own (.lst (names.map D.str))), some (.own (.lst (fs.map famD))), z3, z4, z5, z6, none] ∧ fs.length = i ∧ (∀ f ∈ fs, FamOk f) ∧ (∀ (j : Nat) (f : Fam), fs[j]? = some f → names[j]? = some f.nm)) ⟨[], none, none, none, none, rfl, rfl, (fun f h => by cases h), (fun j f h => by simp at h)⟩ ?_ ?_
  · rintro i x _ hx ⟨fs, z3, z4, z5, z6, rfl, hfl, hfo, hfn⟩
    obtain ⟨hi, rfl⟩ := rangeD_at hx
    have hi : i < 2 := by omega
    obtain ⟨m4, h40, e4⟩ := mix_spec n (4 + (0 + (i : Int))) (by omega) (by omega)
    obtain ⟨m6, h60, e6⟩ := mix_spec n (6 + (0 + (i : Int))) (by omega) (by omega)
    obtain ⟨m8, h80, e8⟩ := mix_spec n (8 + (0 + (i : Int))) (by omega) (by omega)
    have e4 := wp_eq e4
    have e6 := wp_eq e6
    have e8 := wp_eq e8
    show putN _ _ _ _
    simp! only [↓e4]
    have hc : ∀ lo hi, ∃ ys : List Str, cutD (names.map D.str) lo hi = ys.map D.str ∧ (∀ y ∈ ys, y ∈ names) ∧ ys.length ≤ names.length := fun lo hi => cutD_map D.str
    obtain ⟨rs, er, hrs, hrl⟩ := hc (some (2 + 3 * (0 + (i : Int)))) (some (3 + 3 * (0 + (i : Int)) + m4 % 3))
    obtain ⟨cs, ec, hcs, hcl⟩ := hc (some (6 - 2 * (0 + (i : Int)))) (some (6 - 2 * (0 + (i : Int)) + m6 % 3))
    obtain ⟨os, eo, hos, hol⟩ := hc (some (9 + (0 + (i : Int)))) (some (9 + (0 + (i : Int)) + m8 % 2))
    rw [er]
    refine ⟨cMul_lt (by decide) (by decide) (by omega) (by omega), cMul_lt (by decide) (by decide) (by omega) (by omega), cMod_of (by decide), ?_⟩
    refine compK_of (fun ds ρ => ds = cs.map D.str ∧ ρ = [some (.sh (.int n)), some (.own (.lst (names.map D.str))), some (.own (.lst (fs.map famD))), some (.sh (.int (0 + (i : Int)))), some (.own (.lst (rs.map D.str))), z5, z6, none]) (fun acc ρ => acc = cs.map celD ∧ ρ = [some (.sh (.int n)), some (.own (.lst (names.map D.str))), some (.own (.lst (fs.map famD))), some (.sh (.int (0 + (i : Int)))), some (.own (.lst (rs.map D.str))), z5, z6, none]) ?_ ?_ ?_
    · simp! only [↓e6]
      exact ⟨cMul_lt (by decide) (by decide) (by omega) (by omega), cMul_lt (by decide) (by decide) (by omega) (by omega), cMod_of (by decide), ec⟩
    · rintro ds _ ⟨rfl, rfl⟩
      refine ⟨rfl, ?_⟩
      refine comp_inv (fun j acc ρ => ρ = [some (.sh (.int n)), some (.own (.lst (names.map D.str))), some (.own (.lst (fs.map famD))), some (.sh (.int (0 + (i : Int)))), some (.own (.lst (rs.map D.str))), z5, z6, none] ∧ acc = (cs.take j).map celD) ⟨rfl, rfl⟩ ?_ ?_
      · rintro j x acc _ hx ⟨rfl, rfl⟩
        rw [List.getElem?_map] at hx
        obtain ⟨c, hc, rfl⟩ := Option.map_eq_some_iff.mp hx
        show putN _ _ _ _
        simp! only []
        refine ⟨by rw [List.length_map, List.length_take]; omega, rfl, ?_⟩
        rw [take_snoc hc, List.map_append]
        rfl
      · rintro acc _ ⟨rfl, rfl⟩
        rw [List.length_map, List.take_length]
        exact ⟨rfl, rfl⟩
    rintro _ _ ⟨rfl, rfl⟩
    simp! only [↓e8]
    rw [eo]
    refine ⟨cMod_of (by decide), ix_mid (by omega) (by rw [List.length_map, hl]; omega) fun d hd => ?_⟩
    rw [List.getElem?_map] at hd
    obtain ⟨nm, hnm, rfl⟩ := Option.map_eq_some_iff.mp hd
    have hnm : names[i]? = some nm := by rw [← hnm]; congr 1; omega
    simp! only []
    refine ⟨by rw [List.length_map]; omega, fs ++ [⟨nm, rs, cs, os⟩], _, _, _, _, by rw [List.map_append]; rfl, by rw [List.length_append, hfl]; rfl, fun f hf => ?_, fun j f hj => ?_⟩
    · rcases List.mem_append.mp hf with hf | hf
      · exact hfo f hf
      · rw [List.mem_singleton] at hf
        subst hf
        exact ⟨hok _ (List.mem_of_getElem? hnm), fun s h => hok s (hrs s h), fun s h => hok s (hcs s h), fun s h => hok s (hos s h), by show rs.length ≤ 12; omega, by show cs.length ≤ 12; omega⟩
    · by_cases c : j < fs.length
      · rw [List.getElem?_append_left c] at hj; exact hfn j f hj
      · rw [List.getElem?_append_right (by omega)] at hj
        have hj0 : j = i := by
          by_cases c2 : j - fs.length = 0
          · omega
          · rw [List.getElem?_eq_none (by simp; omega)] at hj; cases hj
        subst hj0
        rw [hfl, Nat.sub_self] at hj
        cases hj
        exact hnm
  · rintro _ ⟨fs, z3, z4, z5, z6, rfl, hfl, hfo, hfn⟩
    rw [rangeD_len] at hfl
    simp! only []
    refine ⟨fs, by omega, by omega, hfo, ?_, rfl⟩
    match fs, hfl, hfn with
    | [], hfl, _ => simp at hfl; omega
    | [f], _, _ => simp
    | [f, g], _, hfn =>
      have h := hne _ _ (hfn 0 f rfl) (hfn 1 g rfl)
      simp [h]
    | f :: g :: h :: r, hfl, _ => simp at hfl; omega
end K93

namespace K93
open PySem R
/-! conditions and facts -/
inductive Cd
  | tr | one (n : Str) | nt (n : Str) | or (n : Str)
def oneD (n : Str) : D := .tup [.str "is", .str "<", .tup [.str "plus", .tup [.str "number", .int 1], .tup [.str "name", .str n]], .tup [.str "number", .int 3]]
def Cd.d : Cd → D
  | .tr => .tup [.str "true"] | .one n => oneD n | .nt n => .tup [.str "not", oneD n] | .or n => .tup [.str "or", .tup [.str "true"], oneD n]
def Cd.ns : Cd → List Str
  | .tr => [] | .one n => [n] | .nt n => [n] | .or n => [n]
theorem cut1 {d : D} {ds : List D} : cutD (d :: ds) (some 1) none = ds := cut_drop (ds := d :: ds) (i := 1)
theorem gi_one {n : Str} {k : SV → Prop} : gP (gIsi [.sh (oneD n), .sh (.ty "tuple")]) k = k (.sh (.bl true)) := g_isi_tup_tup
theorem in_name {m : Nat} {n : Str} : m_names_in (m + 1) [.sh (.tup [.str "name", .str n])] = .ok (.own (.lst [.str n])) [.sh (.tup [.str "name", .str n])] := by
  suffices h : (m_names_in (m + 1) [.sh (.tup [.str "name", .str n])]).wp (fun x bs => bs = [.sh (.tup [.str "name", .str n])] ∧ x = .own (.lst [.str n])) fun _ _ => False by
    obtain ⟨x, s, h0, rfl, rfl⟩ := h.ok
    exact h0
  unfold m_names_in b_names_in
  simp! only []
theorem in_num {m : Nat} {i : Int} : m_names_in (m + 1) [.sh (.tup [.str "number", .int i])] = .ok (.own (.lst [])) [.sh (.tup [.str "number", .int i])] := by
  suffices h : (m_names_in (m + 1) [.sh (.tup [.str "number", .int i])]).wp (fun x bs => bs = [.sh (.tup [.str "number", .int i])] ∧ x = .own (.lst [])) fun _ _ => False by
    obtain ⟨x, s, h0, rfl, rfl⟩ := h.ok
    exact h0
  have sb := sizeLine_big
  unfold m_names_in b_names_in
  simp! only [sO, String.reduceEq]
  refine forK_of ?_
  simp! only [cut1]
theorem in_tr {m : Nat} : m_names_in (m + 1) [.sh (.tup [.str "true"])] = .ok (.own (.lst [])) [.sh (.tup [.str "true"])] := by
  suffices h : (m_names_in (m + 1) [.sh (.tup [.str "true"])]).wp (fun x bs => bs = [.sh (.tup [.str "true"])] ∧ x = .own (.lst [])) fun _ _ => False by
    obtain ⟨x, s, h0, rfl, rfl⟩ := h.ok
    exact h0
  unfold m_names_in b_names_in
  simp! only [sO, String.reduceEq]
  refine forK_of ?_
  simp! only [cut1]
theorem in_plus {m : Nat} {n : Str} : m_names_in (m + 2) [.sh (.tup [.str "plus", .tup [.str "number", .int 1], .tup [.str "name", .str n]])] = .ok (.own (.lst [.str n])) [.sh (.tup [.str "plus", .tup [.str "number", .int 1], .tup [.str "name", .str n]])] := by
  suffices h : (m_names_in (m + 2) [.sh (.tup [.str "plus", .tup [.str "number", .int 1], .tup [.str "name", .str n]])]).wp (fun x bs => bs = [.sh (.tup [.str "plus", .tup [.str "number", .int 1], .tup [.str "name", .str n]])] ∧ x = .own (.lst [.str n])) fun _ _ => False by
    obtain ⟨x, s, h0, rfl, rfl⟩ := h.ok
    exact h0
  have e1 := wp_eq (@in_name m n)
  have e2 := wp_eq (@in_num m 1)
  have sb := sizeLine_big
  unfold m_names_in b_names_in
  simp! only [sO, String.reduceEq]
  refine forK_of ?_
  simp! only [cut1, ↓e1, ↓e2]
  exact ⟨by simp <;> omega, by simp <;> omega, rfl⟩
theorem in_one {m : Nat} {n : Str} : m_names_in (m + 3) [.sh (oneD n)] = .ok (.own (.lst [.str n])) [.sh (oneD n)] := by
  suffices h : (m_names_in (m + 3) [.sh (oneD n)]).wp (fun x bs => bs = [.sh (oneD n)] ∧ x = .own (.lst [.str n])) fun _ _ => False by
    obtain ⟨x, s, h0, rfl, rfl⟩ := h.ok
    exact h0
  unfold oneD
  have e1 := wp_eq (@in_plus m n)
  have e2 := wp_eq (@in_num (m + 1) 3)
  have sb := sizeLine_big
  unfold m_names_in b_names_in
  simp! only [sO, String.reduceEq]
  refine forK_of ?_
  simp! only [cut1, ↓e1, ↓e2]
  exact ⟨by simp <;> omega, by simp <;> omega, rfl⟩
theorem in_nt {m : Nat} {n : Str} : m_names_in (m + 4) [.sh (.tup [.str "not", oneD n])] = .ok (.own (.lst [.str n])) [.sh (.tup [.str "not", oneD n])] := by
  suffices h : (m_names_in (m + 4) [.sh (.tup [.str "not", oneD n])]).wp (fun x bs => bs = [.sh (.tup [.str "not", oneD n])] ∧ x = .own (.lst [.str n])) fun _ _ => False by
    obtain ⟨x, s, h0, rfl, rfl⟩ := h.ok
    exact h0
  have e1 := wp_eq (@in_one m n)
  have sb := sizeLine_big
  unfold m_names_in b_names_in
  simp! only [sO, String.reduceEq]
  refine forK_of ?_
  simp! only [cut1, ↓e1, ↓gi_one]
  exact ⟨by simp <;> omega, rfl⟩
theorem in_or {m : Nat} {n : Str} : m_names_in (m + 4) [.sh (.tup [.str "or", .tup [.str "true"], oneD n])] = .ok (.own (.lst [.str n])) [.sh (.tup [.str "or", .tup [.str "true"], oneD n])] := by
  suffices h : (m_names_in (m + 4) [.sh (.tup [.str "or", .tup [.str "true"], oneD n])]).wp (fun x bs => bs = [.sh (.tup [.str "or", .tup [.str "true"], oneD n])] ∧ x = .own (.lst [.str n])) fun _ _ => False by
    obtain ⟨x, s, h0, rfl, rfl⟩ := h.ok
    exact h0
  have e1 := wp_eq (@in_one m n)
  have e2 := wp_eq (@in_tr (m + 2))
  have sb := sizeLine_big
  unfold m_names_in b_names_in
  simp! only [sO, String.reduceEq]
  refine forK_of ?_
  simp! only [cut1, ↓e1, ↓e2, ↓gi_one]
  exact ⟨by simp <;> omega, by simp <;> omega, rfl⟩
theorem in_cond (c : Cd) : m_names_in 60 [.sh c.d] = .ok (.own (.lst (c.ns.map D.str))) [.sh c.d] := by
  cases c with
  | tr => exact in_tr
  | one n => exact in_one (m := 57)
  | nt n => exact in_nt (m := 56)
  | or n => exact in_or (m := 56)
theorem sp_name {m : Nat} {n : Str} : m__law_spoken (m + 1) [.sh (.tup [.str "name", .str n])] = .ok (.own (.lst [.str n])) [.sh (.tup [.str "name", .str n])] := by
  suffices h : (m__law_spoken (m + 1) [.sh (.tup [.str "name", .str n])]).wp (fun x bs => bs = [.sh (.tup [.str "name", .str n])] ∧ x = .own (.lst [.str n])) fun _ _ => False by
    obtain ⟨x, s, h0, rfl, rfl⟩ := h.ok
    exact h0
  unfold m__law_spoken b__law_spoken
  simp! only []
theorem sp_num {m : Nat} {i : Int} : m__law_spoken (m + 1) [.sh (.tup [.str "number", .int i])] = .ok (.own (.lst [])) [.sh (.tup [.str "number", .int i])] := by
  suffices h : (m__law_spoken (m + 1) [.sh (.tup [.str "number", .int i])]).wp (fun x bs => bs = [.sh (.tup [.str "number", .int i])] ∧ x = .own (.lst [])) fun _ _ => False by
    obtain ⟨x, s, h0, rfl, rfl⟩ := h.ok
    exact h0
  have sb := sizeLine_big
  unfold m__law_spoken b__law_spoken
  simp! only [sO, String.reduceEq]
  refine forK_of ?_
  simp! only [cut1]
theorem sp_tr {m : Nat} : m__law_spoken (m + 1) [.sh (.tup [.str "true"])] = .ok (.own (.lst [])) [.sh (.tup [.str "true"])] := by
  suffices h : (m__law_spoken (m + 1) [.sh (.tup [.str "true"])]).wp (fun x bs => bs = [.sh (.tup [.str "true"])] ∧ x = .own (.lst [])) fun _ _ => False by
    obtain ⟨x, s, h0, rfl, rfl⟩ := h.ok
    exact h0
  unfold m__law_spoken b__law_spoken
  simp! only [sO, String.reduceEq]
  refine forK_of ?_
  simp! only [cut1]
theorem sp_plus {m : Nat} {n : Str} : m__law_spoken (m + 2) [.sh (.tup [.str "plus", .tup [.str "number", .int 1], .tup [.str "name", .str n]])] = .ok (.own (.lst [.str n])) [.sh (.tup [.str "plus", .tup [.str "number", .int 1], .tup [.str "name", .str n]])] := by
  suffices h : (m__law_spoken (m + 2) [.sh (.tup [.str "plus", .tup [.str "number", .int 1], .tup [.str "name", .str n]])]).wp (fun x bs => bs = [.sh (.tup [.str "plus", .tup [.str "number", .int 1], .tup [.str "name", .str n]])] ∧ x = .own (.lst [.str n])) fun _ _ => False by
    obtain ⟨x, s, h0, rfl, rfl⟩ := h.ok
    exact h0
  have e1 := wp_eq (@sp_name m n)
  have e2 := wp_eq (@sp_num m 1)
  have sb := sizeLine_big
  unfold m__law_spoken b__law_spoken
  simp! only [sO, String.reduceEq]
  refine forK_of ?_
  simp! only [cut1, ↓e1, ↓e2]
  exact ⟨by simp <;> omega, by simp <;> omega, rfl⟩
theorem sp_one {m : Nat} {n : Str} : m__law_spoken (m + 3) [.sh (oneD n)] = .ok (.own (.lst [.str n])) [.sh (oneD n)] := by
  suffices h : (m__law_spoken (m + 3) [.sh (oneD n)]).wp (fun x bs => bs = [.sh (oneD n)] ∧ x = .own (.lst [.str n])) fun _ _ => False by
    obtain ⟨x, s, h0, rfl, rfl⟩ := h.ok
    exact h0
  unfold oneD
  have e1 := wp_eq (@sp_plus m n)
  have e2 := wp_eq (@sp_num (m + 1) 3)
  have sb := sizeLine_big
  unfold m__law_spoken b__law_spoken
  simp! only [sO, String.reduceEq]
  refine forK_of ?_
  simp! only [cut1, ↓e1, ↓e2]
  exact ⟨by simp <;> omega, by simp <;> omega, rfl⟩
theorem sp_nt {m : Nat} {n : Str} : m__law_spoken (m + 4) [.sh (.tup [.str "not", oneD n])] = .ok (.own (.lst [.str n])) [.sh (.tup [.str "not", oneD n])] := by
  suffices h : (m__law_spoken (m + 4) [.sh (.tup [.str "not", oneD n])]).wp (fun x bs => bs = [.sh (.tup [.str "not", oneD n])] ∧ x = .own (.lst [.str n])) fun _ _ => False by
    obtain ⟨x, s, h0, rfl, rfl⟩ := h.ok
    exact h0
  have e1 := wp_eq (@sp_one m n)
  have sb := sizeLine_big
  unfold m__law_spoken b__law_spoken
  simp! only [sO, String.reduceEq]
  refine forK_of ?_
  simp! only [cut1, ↓e1, ↓gi_one]
  exact ⟨by simp <;> omega, rfl⟩
theorem sp_or {m : Nat} {n : Str} : m__law_spoken (m + 4) [.sh (.tup [.str "or", .tup [.str "true"], oneD n])] = .ok (.own (.lst [.str n])) [.sh (.tup [.str "or", .tup [.str "true"], oneD n])] := by
  suffices h : (m__law_spoken (m + 4) [.sh (.tup [.str "or", .tup [.str "true"], oneD n])]).wp (fun x bs => bs = [.sh (.tup [.str "or", .tup [.str "true"], oneD n])] ∧ x = .own (.lst [.str n])) fun _ _ => False by
    obtain ⟨x, s, h0, rfl, rfl⟩ := h.ok
    exact h0
  have e1 := wp_eq (@sp_one m n)
  have e2 := wp_eq (@sp_tr (m + 2))
  have sb := sizeLine_big
  unfold m__law_spoken b__law_spoken
  simp! only [sO, String.reduceEq]
  refine forK_of ?_
  simp! only [cut1, ↓e1, ↓e2, ↓gi_one]
  exact ⟨by simp <;> omega, by simp <;> omega, rfl⟩
theorem sp_cond (c : Cd) : m__law_spoken 60 [.sh c.d] = .ok (.own (.lst (c.ns.map D.str))) [.sh c.d] := by
  cases c with
  | tr => exact sp_tr
  | one n => exact sp_one (m := 57)
  | nt n => exact sp_nt (m := 56)
  | or n => exact sp_or (m := 56)
/-! families -/
def famF (fs : List Fam) (a : Str) : Option Fam := fs.find? fun f => decide (f.nm = a)
theorem famF_mem {fs : List Fam} {a : Str} {f : Fam} (h : famF fs a = some f) : f ∈ fs := List.mem_of_find?_eq_some h
theorem family_spec {fs : List Fam} {a : Str} : m_family_of [.sh (planD fs), .sh (.str a)] = match famF fs a with | some f => .ok (.sh (famD f)) [.sh (planD fs), .sh (.str a)] | none => .exc ⟨"NoFact", []⟩ [.sh (planD fs), .sh (.str a)] := by
  have key : (m_family_of [.sh (planD fs), .sh (.str a)]).wp (fun x bs => bs = [.sh (planD fs), .sh (.str a)] ∧ ∃ f, famF fs a = some f ∧ x = .sh (famD f)) (fun e bs => bs = [.sh (planD fs), .sh (.str a)] ∧ famF fs a = none ∧ e = ⟨"NoFact", []⟩) := by
    unfold m_family_of b_family_of planD
    simp! only []
    refine forK_of ?_
    simp! only []
    refine for_inv (fun i ρ => ∃ y2 : Option D, ρ = [some (.sh (.tup [.lst (fs.map famD), .lst [], .lst []])), some (.sh (.str a)), (y2.map SV.sh)] ∧ (fs.take i).find? (fun f => decide (f.nm = a)) = none) ⟨none, rfl, rfl⟩ ?_ ?_
    · rintro i x _ hx ⟨y2, rfl, hn⟩
      rw [List.getElem?_map] at hx
      obtain ⟨f, hf, rfl⟩ := Option.map_eq_some_iff.mp hx
      show putN _ _ _ _
      unfold famD
      simp! only []
      refine ite_of (fun h => ?_) (fun h => ?_)
      · refine ⟨f, ?_, rfl⟩
        unfold famF
        have e1 : fs = fs.take i ++ f :: fs.drop (i + 1) := by
          have hi := (List.getElem?_eq_some_iff.mp hf).1
          conv => lhs; rw [← List.take_append_drop i fs, List.drop_eq_getElem_cons hi]
          rw [(List.getElem?_eq_some_iff.mp hf).2]
        rw [e1, List.find?_append, hn, List.find?_cons, decide_eq_true h]
        rfl
      · refine ⟨some _, rfl, ?_⟩
        rw [take_snoc hf, List.find?_append, hn, List.find?_cons, decide_eq_false h]
        rfl
    · rintro _ ⟨y2, rfl, hn⟩
      rw [List.length_map, List.take_length] at hn
      simp! only []
      exact hn
  cases q : m_family_of [.sh (planD fs), .sh (.str a)] with
  | ok x bs =>
    rw [q] at key
    obtain ⟨rfl, e, h1, rfl⟩ := key
    rw [h1]
  | exc e bs =>
    rw [q] at key
    obtain ⟨rfl, h1, rfl⟩ := key
    rw [h1]
  | bad => rw [q] at key; exact key.elim
/-- the family, the room and the names of the condition are there -/
def GoodH (fs : List Fam) (a r : Str) (c : Cd) : Prop := ∃ f, famF fs a = some f ∧ (r = Str.ofString "" ∨ r ∈ f.rs) ∧ ∀ n ∈ c.ns, n ∈ f.cs
end K93

namespace K93
open PySem R
def Cd.ok : Cd → Prop
  | .tr => True | .one n => OkS n | .nt n => OkS n | .or n => OkS n
theorem Cd.ok_ns {c : Cd} (h : c.ok) : ∀ n ∈ c.ns, OkS n := fun n hn => by
  cases c <;> simp only [Cd.ns, List.mem_cons, List.not_mem_nil, or_false] at hn <;> first | exact hn.elim | (subst hn; exact h)
theorem strs_nb {xs : List Str} (h : ∀ s ∈ xs, OkS s) : ∀ d ∈ xs.map D.str, Nb 1 d := fun d hd => by
  obtain ⟨s, hs, rfl⟩ := List.mem_map.mp hd
  exact .str (h s hs).1
theorem mem_strs {xs : List Str} {s : Str} : D.str s ∈ xs.map D.str ↔ s ∈ xs := ⟨fun h => by
  obtain ⟨t, ht, e⟩ := List.mem_map.mp h
  cases e; exact ht, fun h => List.mem_map.mpr ⟨s, h, rfl⟩⟩
open Classical in
theorem hands_spec {fs : List Fam} (hf : ∀ f ∈ fs, FamOk f) {w a r : Str} {c : Cd} {x : List D} (ha : OkS a) (hr : OkS r) (hc : c.ok) :
    m_check_hands [.sh (planD fs), .sh (.tup (.str w :: .str a :: .str r :: c.d :: x))] = if GoodH fs a r c then .ok (.sh .non) [.sh (planD fs), .sh (.tup (.str w :: .str a :: .str r :: c.d :: x))] else .exc ⟨"NoFact", []⟩ [.sh (planD fs), .sh (.tup (.str w :: .str a :: .str r :: c.d :: x))] := by
  have key : (m_check_hands [.sh (planD fs), .sh (.tup (.str w :: .str a :: .str r :: c.d :: x))]).wp (fun y bs => bs = [.sh (planD fs), .sh (.tup (.str w :: .str a :: .str r :: c.d :: x))] ∧ GoodH fs a r c ∧ y = .sh .non) (fun e bs => bs = [.sh (planD fs), .sh (.tup (.str w :: .str a :: .str r :: c.d :: x))] ∧ ¬ GoodH fs a r c ∧ e = ⟨"NoFact", []⟩) := by
    have ef := @family_spec fs a
    have en := wp_eq (in_cond c)
    unfold m_check_hands b_check_hands
    cases q : famF fs a with
    | none =>
      rw [q] at ef
      have ef := wp_eqx ef
      simp! only [↓ef]
      rintro ⟨f, h, _⟩
      rw [q] at h; cases h
    | some f =>
      rw [q] at ef
      have ef := wp_eq ef
      have ok := hf f (famF_mem q)
      have hg : GoodH fs a r c ↔ (r = Str.ofString "" ∨ r ∈ f.rs) ∧ ∀ n ∈ c.ns, n ∈ f.cs := ⟨fun ⟨g, h, k⟩ => by rw [q] at h; cases h; exact k, fun k => ⟨f, q, k⟩⟩
      have hni : ∀ k : SV → Prop, gP (gNotIn (.sh (.str r)) (.sh (.lst (f.rs.map D.str)))) k = k (.sh (.bl (!decide (D.str r ∈ f.rs.map D.str)))) := fun k => gNotIn_nb (x := .sh (.str r)) (y := .sh (.lst (f.rs.map D.str))) (n := 1) (.str hr.1) (strs_nb ok.rs) (by decide) (by decide) (.inr rfl)
      rw [hg]
      unfold famD at ef
      simp! only [↓ef, ↓hni]
      have hni2 : ∀ (n : Str), OkS n → ∀ k : SV → Prop, gP (gNotIn (.sh (.str n)) (.tr (.lst (f.cs.map D.str)))) k = k (.sh (.bl (!decide (D.str n ∈ f.cs.map D.str)))) := fun n hn k => gNotIn_nb (x := .sh (.str n)) (y := .tr (.lst (f.cs.map D.str))) (n := 1) (.str hn.1) (strs_nb ok.cs) (by decide) (by decide) (.inr rfl)
      have hcn := Cd.ok_ns hc
      have sb := sizeLine_big
      refine ite_of (fun h => ite_of (fun h2 => ?_) (fun h2 => ?_)) (fun h => ?_)
      · rw [mem_strs] at h2
        exact fun z => z.1.elim h h2
      all_goals
        have hr2 : r = Str.ofString "" ∨ r ∈ f.rs := by
          first
          | (rw [mem_strs, Classical.not_not] at h2; exact .inr h2)
          | exact .inl (Classical.not_not.mp h)
        clear hni
        refine compK_of (fun ds ρ => ds = f.cs.map celD ∧ ρ = [some (.sh (planD fs)), some (.sh (.tup (.str w :: .str a :: .str r :: c.d :: x))), some (.sh (.tup [.str f.nm, .int 1, .lst (f.rs.map D.str), .lst (f.cs.map celD), .lst (f.os.map D.str), .lst []])), none, none, none]) (fun acc ρ => acc = f.cs.map D.str ∧ ρ = [some (.sh (planD fs)), some (.sh (.tup (.str w :: .str a :: .str r :: c.d :: x))), some (.sh (.tup [.str f.nm, .int 1, .lst (f.rs.map D.str), .lst (f.cs.map celD), .lst (f.os.map D.str), .lst []])), none, none, none]) ?_ ?_ ?_
        · simp! only []
        · rintro ds _ ⟨rfl, rfl⟩
          refine ⟨rfl, ?_⟩
          refine comp_inv (fun j acc ρ => ρ = [some (.sh (planD fs)), some (.sh (.tup (.str w :: .str a :: .str r :: c.d :: x))), some (.sh (.tup [.str f.nm, .int 1, .lst (f.rs.map D.str), .lst (f.cs.map celD), .lst (f.os.map D.str), .lst []])), none, none, none] ∧ acc = (f.cs.take j).map D.str) ⟨rfl, rfl⟩ ?_ ?_
          · rintro j y acc _ hx ⟨rfl, rfl⟩
            rw [List.getElem?_map] at hx
            obtain ⟨n, hn, rfl⟩ := Option.map_eq_some_iff.mp hx
            have hlc := ok.lc
            unfold celD
            show putN _ _ _ _
            simp! only []
            refine ⟨by rw [List.length_map, List.length_take]; omega, rfl, ?_⟩
            rw [take_snoc hn, List.map_append]
            rfl
          · rintro acc _ ⟨rfl, rfl⟩
            rw [List.length_map, List.take_length]
            exact ⟨rfl, rfl⟩
        rintro _ _ ⟨rfl, rfl⟩
        simp! only []
        refine forK_of ?_
        simp! only [↓en]
        refine for_inv (fun i ρ => ∃ y4 : Option D, ρ = [some (.sh (planD fs)), some (.sh (.tup (.str w :: .str a :: .str r :: c.d :: x))), some (.sh (.tup [.str f.nm, .int 1, .lst (f.rs.map D.str), .lst (f.cs.map celD), .lst (f.os.map D.str), .lst []])), some (.own (.lst (f.cs.map D.str))), (y4.map SV.sh), none] ∧ ∀ n ∈ c.ns.take i, n ∈ f.cs) ⟨none, rfl, (fun n h => by simp at h)⟩ ?_ ?_
        · rintro i y _ hx ⟨y4, rfl, hn⟩
          rw [List.getElem?_map] at hx
          obtain ⟨n, hnn, rfl⟩ := Option.map_eq_some_iff.mp hx
          have hmem := List.mem_of_getElem? hnn
          have g2 := hni2 n (hcn n hmem)
          show putN _ _ _ _
          simp! only [↓g2]
          refine ite_of (fun h3 => ?_) (fun h3 => ?_)
          · rw [mem_strs] at h3
            exact fun z => h3 (z.2 n hmem)
          · rw [mem_strs, Classical.not_not] at h3
            refine ⟨some _, rfl, fun m hm => ?_⟩
            rw [take_snoc hnn] at hm
            rcases List.mem_append.mp hm with hm | hm
            · exact hn m hm
            · rw [List.mem_singleton] at hm; rw [hm]; exact h3
        · rintro _ ⟨y4, rfl, hn⟩
          rw [List.length_map, List.take_length] at hn
          simp! only []
          exact ⟨hr2, hn⟩
  by_cases g : GoodH fs a r c
  · rw [if_pos g]
    have key := key.imp (Q' := fun y bs => bs = [.sh (planD fs), .sh (.tup (.str w :: .str a :: .str r :: c.d :: x))] ∧ y = .sh .non) (E' := fun _ _ => False) (fun y bs h => ⟨h.1, h.2.2⟩) (fun e bs h => h.2.1 g)
    obtain ⟨y, s, h0, rfl, rfl⟩ := key.ok
    exact h0
  · rw [if_neg g]
    have key := key.imp (Q' := fun _ _ => False) (E' := fun e bs => bs = [.sh (planD fs), .sh (.tup (.str w :: .str a :: .str r :: c.d :: x))] ∧ e = ⟨"NoFact", []⟩) (fun y bs h => g h.2.1) (fun e bs h => ⟨h.1, h.2.2⟩)
    obtain ⟨e, s, h0, rfl, rfl⟩ := key.exc
    exact h0
end K93

namespace K93
open PySem R
/-- a part: what it speaks of -/
inductive Pt
  | lt (a b m : Str) | tr | dry | so (a r : Str) (c : Cd) | al (a r : Str) (c : Cd) | mn (a r : Str) (c : Cd) | sk (a r : Str) (c : Cd) | ek (a r : Str) (c : Cd)
inductive Fa
  | pt (p : Pt) | not (p : Pt) | an (p q : Pt) | or (p q : Pt)
def Pt.d : Pt → D
  | .lt a b m => .tup [.str "letters", .str a, .str b, .str m, .str "=", .int 1]
  | .tr => .tup [.str "true"] | .dry => .tup [.str "dry"]
  | .so a r c => .tup [.str "some", .str a, .str r, c.d] | .al a r c => .tup [.str "all", .str a, .str r, c.d]
  | .mn a r c => .tup [.str "many", .str a, .str r, c.d, .str ">", .int 0]
  | .sk a r c => .tup [.str "some knows", .str a, .tup [.str "some", .str a, .str r, c.d]]
  | .ek a r c => .tup [.str "each knows", .str a, .tup [.str "some", .str a, .str r, c.d]]
def Fa.d : Fa → D
  | .pt p => p.d | .not p => .tup [.str "not", p.d] | .an p q => .tup [.str "and", p.d, q.d] | .or p q => .tup [.str "or", p.d, q.d]
def Pt.ok : Pt → Prop
  | .lt a b m => OkS a ∧ OkS b ∧ OkS m | .tr => True | .dry => True
  | .so a r c => OkS a ∧ OkS r ∧ c.ok | .al a r c => OkS a ∧ OkS r ∧ c.ok | .mn a r c => OkS a ∧ OkS r ∧ c.ok | .sk a r c => OkS a ∧ OkS r ∧ c.ok | .ek a r c => OkS a ∧ OkS r ∧ c.ok
def Fa.ok : Fa → Prop
  | .pt p => p.ok | .not p => p.ok | .an p q => p.ok ∧ q.ok | .or p q => p.ok ∧ q.ok
def Pt.good (fs : List Fam) : Pt → Prop
  | .lt a b _ => (famF fs a).isSome ∧ (famF fs b).isSome | .tr => True | .dry => True
  | .so a r c => GoodH fs a r c | .al a r c => GoodH fs a r c | .mn a r c => GoodH fs a r c | .sk a r c => GoodH fs a r c | .ek a r c => GoodH fs a r c
def Fa.good (fs : List Fam) : Fa → Prop
  | .pt p => p.good fs | .not p => p.good fs | .an p q => p.good fs ∧ q.good fs | .or p q => p.good fs ∧ q.good fs
/-- all right, or refused -/
def Chk (r : Res (List SV) SV) (as : List SV) (g : Prop) : Prop := r.wp (fun y bs => bs = as ∧ g ∧ y = .sh .non) (fun e bs => bs = as ∧ ¬ g ∧ e = ⟨"NoFact", []⟩)
open Classical in
theorem Chk.eq {r : Res (List SV) SV} {as : List SV} {g : Prop} (h : Chk r as g) : r = if g then .ok (.sh .non) as else .exc ⟨"NoFact", []⟩ as := by
  by_cases c : g
  · rw [if_pos c]
    have key := Res.wp.imp (Q' := fun y bs => bs = as ∧ y = .sh .non) (E' := fun _ _ => False) h (fun y bs h => ⟨h.1, h.2.2⟩) (fun e bs h => h.2.1 c)
    obtain ⟨y, s, h0, rfl, rfl⟩ := key.ok
    exact h0
  · rw [if_neg c]
    have key := Res.wp.imp (Q' := fun _ _ => False) (E' := fun e bs => bs = as ∧ e = ⟨"NoFact", []⟩) h (fun y bs h => c h.2.1) (fun e bs h => ⟨h.1, h.2.2⟩)
    obtain ⟨e, s, h0, rfl, rfl⟩ := key.exc
    exact h0
section
variable {k : SV → Prop}
theorem iw_t1_0 : gP (gIn (.sh (.str "some")) (.sh (.tup [.str "some", .str "all", .str "many"]))) k = k (.sh (.bl true)) := rfl
theorem iw_t1_1 : gP (gIn (.sh (.str "all")) (.sh (.tup [.str "some", .str "all", .str "many"]))) k = k (.sh (.bl true)) := rfl
theorem iw_t1_2 : gP (gIn (.sh (.str "many")) (.sh (.tup [.str "some", .str "all", .str "many"]))) k = k (.sh (.bl true)) := rfl
theorem iw_t1_3 : gP (gIn (.sh (.str "letters")) (.sh (.tup [.str "some", .str "all", .str "many"]))) k = k (.sh (.bl false)) := rfl
theorem iw_t1_4 : gP (gIn (.sh (.str "some knows")) (.sh (.tup [.str "some", .str "all", .str "many"]))) k = k (.sh (.bl false)) := rfl
theorem iw_t1_5 : gP (gIn (.sh (.str "each knows")) (.sh (.tup [.str "some", .str "all", .str "many"]))) k = k (.sh (.bl false)) := rfl
theorem iw_t1_6 : gP (gIn (.sh (.str "true")) (.sh (.tup [.str "some", .str "all", .str "many"]))) k = k (.sh (.bl false)) := rfl
theorem iw_t1_7 : gP (gIn (.sh (.str "dry")) (.sh (.tup [.str "some", .str "all", .str "many"]))) k = k (.sh (.bl false)) := rfl
theorem iw_t1_8 : gP (gIn (.sh (.str "not")) (.sh (.tup [.str "some", .str "all", .str "many"]))) k = k (.sh (.bl false)) := rfl
theorem iw_t1_9 : gP (gIn (.sh (.str "and")) (.sh (.tup [.str "some", .str "all", .str "many"]))) k = k (.sh (.bl false)) := rfl
theorem iw_t1_10 : gP (gIn (.sh (.str "or")) (.sh (.tup [.str "some", .str "all", .str "many"]))) k = k (.sh (.bl false)) := rfl
theorem iw_t2_0 : gP (gIn (.sh (.str "some")) (.sh (.tup [.str "some knows", .str "each knows"]))) k = k (.sh (.bl false)) := rfl
theorem iw_t2_1 : gP (gIn (.sh (.str "all")) (.sh (.tup [.str "some knows", .str "each knows"]))) k = k (.sh (.bl false)) := rfl
theorem iw_t2_2 : gP (gIn (.sh (.str "many")) (.sh (.tup [.str "some knows", .str "each knows"]))) k = k (.sh (.bl false)) := rfl
theorem iw_t2_3 : gP (gIn (.sh (.str "letters")) (.sh (.tup [.str "some knows", .str "each knows"]))) k = k (.sh (.bl false)) := rfl
theorem iw_t2_4 : gP (gIn (.sh (.str "some knows")) (.sh (.tup [.str "some knows", .str "each knows"]))) k = k (.sh (.bl true)) := rfl
theorem iw_t2_5 : gP (gIn (.sh (.str "each knows")) (.sh (.tup [.str "some knows", .str "each knows"]))) k = k (.sh (.bl true)) := rfl
theorem iw_t2_6 : gP (gIn (.sh (.str "true")) (.sh (.tup [.str "some knows", .str "each knows"]))) k = k (.sh (.bl false)) := rfl
theorem iw_t2_7 : gP (gIn (.sh (.str "dry")) (.sh (.tup [.str "some knows", .str "each knows"]))) k = k (.sh (.bl false)) := rfl
theorem iw_t2_8 : gP (gIn (.sh (.str "not")) (.sh (.tup [.str "some knows", .str "each knows"]))) k = k (.sh (.bl false)) := rfl
theorem iw_t2_9 : gP (gIn (.sh (.str "and")) (.sh (.tup [.str "some knows", .str "each knows"]))) k = k (.sh (.bl false)) := rfl
theorem iw_t2_10 : gP (gIn (.sh (.str "or")) (.sh (.tup [.str "some knows", .str "each knows"]))) k = k (.sh (.bl false)) := rfl
theorem iw_t3_0 : gP (gIn (.sh (.str "some")) (.sh (.tup [.str "true", .str "dry"]))) k = k (.sh (.bl false)) := rfl
theorem iw_t3_1 : gP (gIn (.sh (.str "all")) (.sh (.tup [.str "true", .str "dry"]))) k = k (.sh (.bl false)) := rfl
theorem iw_t3_2 : gP (gIn (.sh (.str "many")) (.sh (.tup [.str "true", .str "dry"]))) k = k (.sh (.bl false)) := rfl
theorem iw_t3_3 : gP (gIn (.sh (.str "letters")) (.sh (.tup [.str "true", .str "dry"]))) k = k (.sh (.bl false)) := rfl
theorem iw_t3_4 : gP (gIn (.sh (.str "some knows")) (.sh (.tup [.str "true", .str "dry"]))) k = k (.sh (.bl false)) := rfl
theorem iw_t3_5 : gP (gIn (.sh (.str "each knows")) (.sh (.tup [.str "true", .str "dry"]))) k = k (.sh (.bl false)) := rfl
theorem iw_t3_6 : gP (gIn (.sh (.str "true")) (.sh (.tup [.str "true", .str "dry"]))) k = k (.sh (.bl true)) := rfl
theorem iw_t3_7 : gP (gIn (.sh (.str "dry")) (.sh (.tup [.str "true", .str "dry"]))) k = k (.sh (.bl true)) := rfl
theorem iw_t3_8 : gP (gIn (.sh (.str "not")) (.sh (.tup [.str "true", .str "dry"]))) k = k (.sh (.bl false)) := rfl
theorem iw_t3_9 : gP (gIn (.sh (.str "and")) (.sh (.tup [.str "true", .str "dry"]))) k = k (.sh (.bl false)) := rfl
theorem iw_t3_10 : gP (gIn (.sh (.str "or")) (.sh (.tup [.str "true", .str "dry"]))) k = k (.sh (.bl false)) := rfl
theorem iw_t4_0 : gP (gIn (.sh (.str "some")) (.sh (.tup [.str "not", .str "and", .str "or"]))) k = k (.sh (.bl false)) := rfl
theorem iw_t4_1 : gP (gIn (.sh (.str "all")) (.sh (.tup [.str "not", .str "and", .str "or"]))) k = k (.sh (.bl false)) := rfl
theorem iw_t4_2 : gP (gIn (.sh (.str "many")) (.sh (.tup [.str "not", .str "and", .str "or"]))) k = k (.sh (.bl false)) := rfl
theorem iw_t4_3 : gP (gIn (.sh (.str "letters")) (.sh (.tup [.str "not", .str "and", .str "or"]))) k = k (.sh (.bl false)) := rfl
theorem iw_t4_4 : gP (gIn (.sh (.str "some knows")) (.sh (.tup [.str "not", .str "and", .str "or"]))) k = k (.sh (.bl false)) := rfl
theorem iw_t4_5 : gP (gIn (.sh (.str "each knows")) (.sh (.tup [.str "not", .str "and", .str "or"]))) k = k (.sh (.bl false)) := rfl
theorem iw_t4_6 : gP (gIn (.sh (.str "true")) (.sh (.tup [.str "not", .str "and", .str "or"]))) k = k (.sh (.bl false)) := rfl
theorem iw_t4_7 : gP (gIn (.sh (.str "dry")) (.sh (.tup [.str "not", .str "and", .str "or"]))) k = k (.sh (.bl false)) := rfl
theorem iw_t4_8 : gP (gIn (.sh (.str "not")) (.sh (.tup [.str "not", .str "and", .str "or"]))) k = k (.sh (.bl true)) := rfl
theorem iw_t4_9 : gP (gIn (.sh (.str "and")) (.sh (.tup [.str "not", .str "and", .str "or"]))) k = k (.sh (.bl true)) := rfl
theorem iw_t4_10 : gP (gIn (.sh (.str "or")) (.sh (.tup [.str "not", .str "and", .str "or"]))) k = k (.sh (.bl true)) := rfl
end
section
variable {fs : List Fam} (hf : ∀ f ∈ fs, FamOk f)
include hf
open Classical in
theorem ck_so {m : Nat} {a r : Str} {c : Cd} (ha : OkS a) (hr : OkS r) (hc : c.ok) : Chk (m_check_fact (m + 1) [.sh (planD fs), .sh (.tup [.str "some", .str a, .str r, c.d])]) [.sh (planD fs), .sh (.tup [.str "some", .str a, .str r, c.d])] (GoodH fs a r c) := by
  have eh := hands_spec hf (w := "some") (x := []) ha hr hc
  unfold Chk m_check_fact b_check_fact
  by_cases g : GoodH fs a r c
  · rw [if_pos g] at eh
    have eh := wp_eq eh
    simp! only [sO, String.reduceEq, ↓iw_t1_0, ↓iw_t1_1, ↓iw_t1_2, ↓iw_t1_3, ↓iw_t1_4, ↓iw_t1_5, ↓iw_t1_6, ↓iw_t1_7, ↓iw_t1_8, ↓iw_t1_9, ↓iw_t1_10, ↓iw_t2_0, ↓iw_t2_1, ↓iw_t2_2, ↓iw_t2_3, ↓iw_t2_4, ↓iw_t2_5, ↓iw_t2_6, ↓iw_t2_7, ↓iw_t2_8, ↓iw_t2_9, ↓iw_t2_10, ↓iw_t3_0, ↓iw_t3_1, ↓iw_t3_2, ↓iw_t3_3, ↓iw_t3_4, ↓iw_t3_5, ↓iw_t3_6, ↓iw_t3_7, ↓iw_t3_8, ↓iw_t3_9, ↓iw_t3_10, ↓iw_t4_0, ↓iw_t4_1, ↓iw_t4_2, ↓iw_t4_3, ↓iw_t4_4, ↓iw_t4_5, ↓iw_t4_6, ↓iw_t4_7, ↓iw_t4_8, ↓iw_t4_9, ↓iw_t4_10, ↓eh]
    exact g
  · rw [if_neg g] at eh
    have eh := wp_eqx eh
    simp! only [sO, String.reduceEq, ↓iw_t1_0, ↓iw_t1_1, ↓iw_t1_2, ↓iw_t1_3, ↓iw_t1_4, ↓iw_t1_5, ↓iw_t1_6, ↓iw_t1_7, ↓iw_t1_8, ↓iw_t1_9, ↓iw_t1_10, ↓iw_t2_0, ↓iw_t2_1, ↓iw_t2_2, ↓iw_t2_3, ↓iw_t2_4, ↓iw_t2_5, ↓iw_t2_6, ↓iw_t2_7, ↓iw_t2_8, ↓iw_t2_9, ↓iw_t2_10, ↓iw_t3_0, ↓iw_t3_1, ↓iw_t3_2, ↓iw_t3_3, ↓iw_t3_4, ↓iw_t3_5, ↓iw_t3_6, ↓iw_t3_7, ↓iw_t3_8, ↓iw_t3_9, ↓iw_t3_10, ↓iw_t4_0, ↓iw_t4_1, ↓iw_t4_2, ↓iw_t4_3, ↓iw_t4_4, ↓iw_t4_5, ↓iw_t4_6, ↓iw_t4_7, ↓iw_t4_8, ↓iw_t4_9, ↓iw_t4_10, ↓eh]
    exact g
open Classical in
theorem ck_al {m : Nat} {a r : Str} {c : Cd} (ha : OkS a) (hr : OkS r) (hc : c.ok) : Chk (m_check_fact (m + 1) [.sh (planD fs), .sh (.tup [.str "all", .str a, .str r, c.d])]) [.sh (planD fs), .sh (.tup [.str "all", .str a, .str r, c.d])] (GoodH fs a r c) := by
  have eh := hands_spec hf (w := "all") (x := []) ha hr hc
  unfold Chk m_check_fact b_check_fact
  by_cases g : GoodH fs a r c
  · rw [if_pos g] at eh
    have eh := wp_eq eh
    simp! only [sO, String.reduceEq, ↓iw_t1_0, ↓iw_t1_1, ↓iw_t1_2, ↓iw_t1_3, ↓iw_t1_4, ↓iw_t1_5, ↓iw_t1_6, ↓iw_t1_7, ↓iw_t1_8, ↓iw_t1_9, ↓iw_t1_10, ↓iw_t2_0, ↓iw_t2_1, ↓iw_t2_2, ↓iw_t2_3, ↓iw_t2_4, ↓iw_t2_5, ↓iw_t2_6, ↓iw_t2_7, ↓iw_t2_8, ↓iw_t2_9, ↓iw_t2_10, ↓iw_t3_0, ↓iw_t3_1, ↓iw_t3_2, ↓iw_t3_3, ↓iw_t3_4, ↓iw_t3_5, ↓iw_t3_6, ↓iw_t3_7, ↓iw_t3_8, ↓iw_t3_9, ↓iw_t3_10, ↓iw_t4_0, ↓iw_t4_1, ↓iw_t4_2, ↓iw_t4_3, ↓iw_t4_4, ↓iw_t4_5, ↓iw_t4_6, ↓iw_t4_7, ↓iw_t4_8, ↓iw_t4_9, ↓iw_t4_10, ↓eh]
    exact g
  · rw [if_neg g] at eh
    have eh := wp_eqx eh
    simp! only [sO, String.reduceEq, ↓iw_t1_0, ↓iw_t1_1, ↓iw_t1_2, ↓iw_t1_3, ↓iw_t1_4, ↓iw_t1_5, ↓iw_t1_6, ↓iw_t1_7, ↓iw_t1_8, ↓iw_t1_9, ↓iw_t1_10, ↓iw_t2_0, ↓iw_t2_1, ↓iw_t2_2, ↓iw_t2_3, ↓iw_t2_4, ↓iw_t2_5, ↓iw_t2_6, ↓iw_t2_7, ↓iw_t2_8, ↓iw_t2_9, ↓iw_t2_10, ↓iw_t3_0, ↓iw_t3_1, ↓iw_t3_2, ↓iw_t3_3, ↓iw_t3_4, ↓iw_t3_5, ↓iw_t3_6, ↓iw_t3_7, ↓iw_t3_8, ↓iw_t3_9, ↓iw_t3_10, ↓iw_t4_0, ↓iw_t4_1, ↓iw_t4_2, ↓iw_t4_3, ↓iw_t4_4, ↓iw_t4_5, ↓iw_t4_6, ↓iw_t4_7, ↓iw_t4_8, ↓iw_t4_9, ↓iw_t4_10, ↓eh]
    exact g
open Classical in
theorem ck_mn {m : Nat} {a r : Str} {c : Cd} (ha : OkS a) (hr : OkS r) (hc : c.ok) : Chk (m_check_fact (m + 1) [.sh (planD fs), .sh (.tup [.str "many", .str a, .str r, c.d, .str ">", .int 0])]) [.sh (planD fs), .sh (.tup [.str "many", .str a, .str r, c.d, .str ">", .int 0])] (GoodH fs a r c) := by
  have eh := hands_spec hf (w := "many") (x := [.str ">", .int 0]) ha hr hc
  unfold Chk m_check_fact b_check_fact
  by_cases g : GoodH fs a r c
  · rw [if_pos g] at eh
    have eh := wp_eq eh
    simp! only [sO, String.reduceEq, ↓iw_t1_0, ↓iw_t1_1, ↓iw_t1_2, ↓iw_t1_3, ↓iw_t1_4, ↓iw_t1_5, ↓iw_t1_6, ↓iw_t1_7, ↓iw_t1_8, ↓iw_t1_9, ↓iw_t1_10, ↓iw_t2_0, ↓iw_t2_1, ↓iw_t2_2, ↓iw_t2_3, ↓iw_t2_4, ↓iw_t2_5, ↓iw_t2_6, ↓iw_t2_7, ↓iw_t2_8, ↓iw_t2_9, ↓iw_t2_10, ↓iw_t3_0, ↓iw_t3_1, ↓iw_t3_2, ↓iw_t3_3, ↓iw_t3_4, ↓iw_t3_5, ↓iw_t3_6, ↓iw_t3_7, ↓iw_t3_8, ↓iw_t3_9, ↓iw_t3_10, ↓iw_t4_0, ↓iw_t4_1, ↓iw_t4_2, ↓iw_t4_3, ↓iw_t4_4, ↓iw_t4_5, ↓iw_t4_6, ↓iw_t4_7, ↓iw_t4_8, ↓iw_t4_9, ↓iw_t4_10, ↓eh]
    exact g
  · rw [if_neg g] at eh
    have eh := wp_eqx eh
    simp! only [sO, String.reduceEq, ↓iw_t1_0, ↓iw_t1_1, ↓iw_t1_2, ↓iw_t1_3, ↓iw_t1_4, ↓iw_t1_5, ↓iw_t1_6, ↓iw_t1_7, ↓iw_t1_8, ↓iw_t1_9, ↓iw_t1_10, ↓iw_t2_0, ↓iw_t2_1, ↓iw_t2_2, ↓iw_t2_3, ↓iw_t2_4, ↓iw_t2_5, ↓iw_t2_6, ↓iw_t2_7, ↓iw_t2_8, ↓iw_t2_9, ↓iw_t2_10, ↓iw_t3_0, ↓iw_t3_1, ↓iw_t3_2, ↓iw_t3_3, ↓iw_t3_4, ↓iw_t3_5, ↓iw_t3_6, ↓iw_t3_7, ↓iw_t3_8, ↓iw_t3_9, ↓iw_t3_10, ↓iw_t4_0, ↓iw_t4_1, ↓iw_t4_2, ↓iw_t4_3, ↓iw_t4_4, ↓iw_t4_5, ↓iw_t4_6, ↓iw_t4_7, ↓iw_t4_8, ↓iw_t4_9, ↓iw_t4_10, ↓eh]
    exact g
theorem ck_tr {m : Nat} : Chk (m_check_fact (m + 1) [.sh (planD fs), .sh (.tup [.str "true"])]) [.sh (planD fs), .sh (.tup [.str "true"])] True := by
  unfold Chk m_check_fact b_check_fact
  simp! only [sO, String.reduceEq, ↓iw_t1_0, ↓iw_t1_1, ↓iw_t1_2, ↓iw_t1_3, ↓iw_t1_4, ↓iw_t1_5, ↓iw_t1_6, ↓iw_t1_7, ↓iw_t1_8, ↓iw_t1_9, ↓iw_t1_10, ↓iw_t2_0, ↓iw_t2_1, ↓iw_t2_2, ↓iw_t2_3, ↓iw_t2_4, ↓iw_t2_5, ↓iw_t2_6, ↓iw_t2_7, ↓iw_t2_8, ↓iw_t2_9, ↓iw_t2_10, ↓iw_t3_0, ↓iw_t3_1, ↓iw_t3_2, ↓iw_t3_3, ↓iw_t3_4, ↓iw_t3_5, ↓iw_t3_6, ↓iw_t3_7, ↓iw_t3_8, ↓iw_t3_9, ↓iw_t3_10, ↓iw_t4_0, ↓iw_t4_1, ↓iw_t4_2, ↓iw_t4_3, ↓iw_t4_4, ↓iw_t4_5, ↓iw_t4_6, ↓iw_t4_7, ↓iw_t4_8, ↓iw_t4_9, ↓iw_t4_10]
  refine forK_of ?_
  simp! only [cut1]
theorem ck_dry {m : Nat} : Chk (m_check_fact (m + 1) [.sh (planD fs), .sh (.tup [.str "dry"])]) [.sh (planD fs), .sh (.tup [.str "dry"])] True := by
  unfold Chk m_check_fact b_check_fact
  simp! only [sO, String.reduceEq, ↓iw_t1_0, ↓iw_t1_1, ↓iw_t1_2, ↓iw_t1_3, ↓iw_t1_4, ↓iw_t1_5, ↓iw_t1_6, ↓iw_t1_7, ↓iw_t1_8, ↓iw_t1_9, ↓iw_t1_10, ↓iw_t2_0, ↓iw_t2_1, ↓iw_t2_2, ↓iw_t2_3, ↓iw_t2_4, ↓iw_t2_5, ↓iw_t2_6, ↓iw_t2_7, ↓iw_t2_8, ↓iw_t2_9, ↓iw_t2_10, ↓iw_t3_0, ↓iw_t3_1, ↓iw_t3_2, ↓iw_t3_3, ↓iw_t3_4, ↓iw_t3_5, ↓iw_t3_6, ↓iw_t3_7, ↓iw_t3_8, ↓iw_t3_9, ↓iw_t3_10, ↓iw_t4_0, ↓iw_t4_1, ↓iw_t4_2, ↓iw_t4_3, ↓iw_t4_4, ↓iw_t4_5, ↓iw_t4_6, ↓iw_t4_7, ↓iw_t4_8, ↓iw_t4_9, ↓iw_t4_10]
  refine forK_of ?_
  simp! only [cut1]
open Classical in
theorem ck_sk {m : Nat} {a r : Str} {c : Cd} (ha : OkS a) (hr : OkS r) (hc : c.ok) : Chk (m_check_fact (m + 2) [.sh (planD fs), .sh (.tup [.str "some knows", .str a, .tup [.str "some", .str a, .str r, c.d]])]) [.sh (planD fs), .sh (.tup [.str "some knows", .str a, .tup [.str "some", .str a, .str r, c.d]])] (GoodH fs a r c) := by
  have eh := (ck_so hf (m := m) ha hr hc).eq
  have ef := @family_spec fs a
  unfold Chk m_check_fact b_check_fact
  cases q : famF fs a with
  | none =>
    rw [q] at ef
    have ef := wp_eqx ef
    simp! only [sO, String.reduceEq, ↓iw_t1_0, ↓iw_t1_1, ↓iw_t1_2, ↓iw_t1_3, ↓iw_t1_4, ↓iw_t1_5, ↓iw_t1_6, ↓iw_t1_7, ↓iw_t1_8, ↓iw_t1_9, ↓iw_t1_10, ↓iw_t2_0, ↓iw_t2_1, ↓iw_t2_2, ↓iw_t2_3, ↓iw_t2_4, ↓iw_t2_5, ↓iw_t2_6, ↓iw_t2_7, ↓iw_t2_8, ↓iw_t2_9, ↓iw_t2_10, ↓iw_t3_0, ↓iw_t3_1, ↓iw_t3_2, ↓iw_t3_3, ↓iw_t3_4, ↓iw_t3_5, ↓iw_t3_6, ↓iw_t3_7, ↓iw_t3_8, ↓iw_t3_9, ↓iw_t3_10, ↓iw_t4_0, ↓iw_t4_1, ↓iw_t4_2, ↓iw_t4_3, ↓iw_t4_4, ↓iw_t4_5, ↓iw_t4_6, ↓iw_t4_7, ↓iw_t4_8, ↓iw_t4_9, ↓iw_t4_10, ↓ef]
    rintro ⟨f, h, _⟩
    rw [q] at h; cases h
  | some f =>
    rw [q] at ef
    have ef := wp_eq ef
    by_cases g : GoodH fs a r c
    · rw [if_pos g] at eh
      have eh := wp_eq eh
      simp! only [sO, String.reduceEq, ↓iw_t1_0, ↓iw_t1_1, ↓iw_t1_2, ↓iw_t1_3, ↓iw_t1_4, ↓iw_t1_5, ↓iw_t1_6, ↓iw_t1_7, ↓iw_t1_8, ↓iw_t1_9, ↓iw_t1_10, ↓iw_t2_0, ↓iw_t2_1, ↓iw_t2_2, ↓iw_t2_3, ↓iw_t2_4, ↓iw_t2_5, ↓iw_t2_6, ↓iw_t2_7, ↓iw_t2_8, ↓iw_t2_9, ↓iw_t2_10, ↓iw_t3_0, ↓iw_t3_1, ↓iw_t3_2, ↓iw_t3_3, ↓iw_t3_4, ↓iw_t3_5, ↓iw_t3_6, ↓iw_t3_7, ↓iw_t3_8, ↓iw_t3_9, ↓iw_t3_10, ↓iw_t4_0, ↓iw_t4_1, ↓iw_t4_2, ↓iw_t4_3, ↓iw_t4_4, ↓iw_t4_5, ↓iw_t4_6, ↓iw_t4_7, ↓iw_t4_8, ↓iw_t4_9, ↓iw_t4_10, ↓ef, ↓eh]
      exact g
    · rw [if_neg g] at eh
      have eh := wp_eqx eh
      simp! only [sO, String.reduceEq, ↓iw_t1_0, ↓iw_t1_1, ↓iw_t1_2, ↓iw_t1_3, ↓iw_t1_4, ↓iw_t1_5, ↓iw_t1_6, ↓iw_t1_7, ↓iw_t1_8, ↓iw_t1_9, ↓iw_t1_10, ↓iw_t2_0, ↓iw_t2_1, ↓iw_t2_2, ↓iw_t2_3, ↓iw_t2_4, ↓iw_t2_5, ↓iw_t2_6, ↓iw_t2_7, ↓iw_t2_8, ↓iw_t2_9, ↓iw_t2_10, ↓iw_t3_0, ↓iw_t3_1, ↓iw_t3_2, ↓iw_t3_3, ↓iw_t3_4, ↓iw_t3_5, ↓iw_t3_6, ↓iw_t3_7, ↓iw_t3_8, ↓iw_t3_9, ↓iw_t3_10, ↓iw_t4_0, ↓iw_t4_1, ↓iw_t4_2, ↓iw_t4_3, ↓iw_t4_4, ↓iw_t4_5, ↓iw_t4_6, ↓iw_t4_7, ↓iw_t4_8, ↓iw_t4_9, ↓iw_t4_10, ↓ef, ↓eh]
      exact g
open Classical in
theorem ck_ek {m : Nat} {a r : Str} {c : Cd} (ha : OkS a) (hr : OkS r) (hc : c.ok) : Chk (m_check_fact (m + 2) [.sh (planD fs), .sh (.tup [.str "each knows", .str a, .tup [.str "some", .str a, .str r, c.d]])]) [.sh (planD fs), .sh (.tup [.str "each knows", .str a, .tup [.str "some", .str a, .str r, c.d]])] (GoodH fs a r c) := by
  have eh := (ck_so hf (m := m) ha hr hc).eq
  have ef := @family_spec fs a
  unfold Chk m_check_fact b_check_fact
  cases q : famF fs a with
  | none =>
    rw [q] at ef
    have ef := wp_eqx ef
    simp! only [sO, String.reduceEq, ↓iw_t1_0, ↓iw_t1_1, ↓iw_t1_2, ↓iw_t1_3, ↓iw_t1_4, ↓iw_t1_5, ↓iw_t1_6, ↓iw_t1_7, ↓iw_t1_8, ↓iw_t1_9, ↓iw_t1_10, ↓iw_t2_0, ↓iw_t2_1, ↓iw_t2_2, ↓iw_t2_3, ↓iw_t2_4, ↓iw_t2_5, ↓iw_t2_6, ↓iw_t2_7, ↓iw_t2_8, ↓iw_t2_9, ↓iw_t2_10, ↓iw_t3_0, ↓iw_t3_1, ↓iw_t3_2, ↓iw_t3_3, ↓iw_t3_4, ↓iw_t3_5, ↓iw_t3_6, ↓iw_t3_7, ↓iw_t3_8, ↓iw_t3_9, ↓iw_t3_10, ↓iw_t4_0, ↓iw_t4_1, ↓iw_t4_2, ↓iw_t4_3, ↓iw_t4_4, ↓iw_t4_5, ↓iw_t4_6, ↓iw_t4_7, ↓iw_t4_8, ↓iw_t4_9, ↓iw_t4_10, ↓ef]
    rintro ⟨f, h, _⟩
    rw [q] at h; cases h
  | some f =>
    rw [q] at ef
    have ef := wp_eq ef
    by_cases g : GoodH fs a r c
    · rw [if_pos g] at eh
      have eh := wp_eq eh
      simp! only [sO, String.reduceEq, ↓iw_t1_0, ↓iw_t1_1, ↓iw_t1_2, ↓iw_t1_3, ↓iw_t1_4, ↓iw_t1_5, ↓iw_t1_6, ↓iw_t1_7, ↓iw_t1_8, ↓iw_t1_9, ↓iw_t1_10, ↓iw_t2_0, ↓iw_t2_1, ↓iw_t2_2, ↓iw_t2_3, ↓iw_t2_4, ↓iw_t2_5, ↓iw_t2_6, ↓iw_t2_7, ↓iw_t2_8, ↓iw_t2_9, ↓iw_t2_10, ↓iw_t3_0, ↓iw_t3_1, ↓iw_t3_2, ↓iw_t3_3, ↓iw_t3_4, ↓iw_t3_5, ↓iw_t3_6, ↓iw_t3_7, ↓iw_t3_8, ↓iw_t3_9, ↓iw_t3_10, ↓iw_t4_0, ↓iw_t4_1, ↓iw_t4_2, ↓iw_t4_3, ↓iw_t4_4, ↓iw_t4_5, ↓iw_t4_6, ↓iw_t4_7, ↓iw_t4_8, ↓iw_t4_9, ↓iw_t4_10, ↓ef, ↓eh]
      exact g
    · rw [if_neg g] at eh
      have eh := wp_eqx eh
      simp! only [sO, String.reduceEq, ↓iw_t1_0, ↓iw_t1_1, ↓iw_t1_2, ↓iw_t1_3, ↓iw_t1_4, ↓iw_t1_5, ↓iw_t1_6, ↓iw_t1_7, ↓iw_t1_8, ↓iw_t1_9, ↓iw_t1_10, ↓iw_t2_0, ↓iw_t2_1, ↓iw_t2_2, ↓iw_t2_3, ↓iw_t2_4, ↓iw_t2_5, ↓iw_t2_6, ↓iw_t2_7, ↓iw_t2_8, ↓iw_t2_9, ↓iw_t2_10, ↓iw_t3_0, ↓iw_t3_1, ↓iw_t3_2, ↓iw_t3_3, ↓iw_t3_4, ↓iw_t3_5, ↓iw_t3_6, ↓iw_t3_7, ↓iw_t3_8, ↓iw_t3_9, ↓iw_t3_10, ↓iw_t4_0, ↓iw_t4_1, ↓iw_t4_2, ↓iw_t4_3, ↓iw_t4_4, ↓iw_t4_5, ↓iw_t4_6, ↓iw_t4_7, ↓iw_t4_8, ↓iw_t4_9, ↓iw_t4_10, ↓ef, ↓eh]
      exact g
theorem ck_lt {m : Nat} {a b m2 : Str} : Chk (m_check_fact (m + 1) [.sh (planD fs), .sh (.tup [.str "letters", .str a, .str b, .str m2, .str "=", .int 1])]) [.sh (planD fs), .sh (.tup [.str "letters", .str a, .str b, .str m2, .str "=", .int 1])] ((famF fs a).isSome ∧ (famF fs b).isSome) := by
  have ea := @family_spec fs a
  have eb := @family_spec fs b
  unfold Chk m_check_fact b_check_fact
  cases q : famF fs a with
  | none =>
    rw [q] at ea
    have ea := wp_eqx ea
    simp! only [sO, String.reduceEq, ↓iw_t1_0, ↓iw_t1_1, ↓iw_t1_2, ↓iw_t1_3, ↓iw_t1_4, ↓iw_t1_5, ↓iw_t1_6, ↓iw_t1_7, ↓iw_t1_8, ↓iw_t1_9, ↓iw_t1_10, ↓iw_t2_0, ↓iw_t2_1, ↓iw_t2_2, ↓iw_t2_3, ↓iw_t2_4, ↓iw_t2_5, ↓iw_t2_6, ↓iw_t2_7, ↓iw_t2_8, ↓iw_t2_9, ↓iw_t2_10, ↓iw_t3_0, ↓iw_t3_1, ↓iw_t3_2, ↓iw_t3_3, ↓iw_t3_4, ↓iw_t3_5, ↓iw_t3_6, ↓iw_t3_7, ↓iw_t3_8, ↓iw_t3_9, ↓iw_t3_10, ↓iw_t4_0, ↓iw_t4_1, ↓iw_t4_2, ↓iw_t4_3, ↓iw_t4_4, ↓iw_t4_5, ↓iw_t4_6, ↓iw_t4_7, ↓iw_t4_8, ↓iw_t4_9, ↓iw_t4_10, ↓ea]
    simp
  | some f =>
    rw [q] at ea
    have ea := wp_eq ea
    cases q2 : famF fs b with
    | none =>
      rw [q2] at eb
      have eb := wp_eqx eb
      simp! only [sO, String.reduceEq, ↓iw_t1_0, ↓iw_t1_1, ↓iw_t1_2, ↓iw_t1_3, ↓iw_t1_4, ↓iw_t1_5, ↓iw_t1_6, ↓iw_t1_7, ↓iw_t1_8, ↓iw_t1_9, ↓iw_t1_10, ↓iw_t2_0, ↓iw_t2_1, ↓iw_t2_2, ↓iw_t2_3, ↓iw_t2_4, ↓iw_t2_5, ↓iw_t2_6, ↓iw_t2_7, ↓iw_t2_8, ↓iw_t2_9, ↓iw_t2_10, ↓iw_t3_0, ↓iw_t3_1, ↓iw_t3_2, ↓iw_t3_3, ↓iw_t3_4, ↓iw_t3_5, ↓iw_t3_6, ↓iw_t3_7, ↓iw_t3_8, ↓iw_t3_9, ↓iw_t3_10, ↓iw_t4_0, ↓iw_t4_1, ↓iw_t4_2, ↓iw_t4_3, ↓iw_t4_4, ↓iw_t4_5, ↓iw_t4_6, ↓iw_t4_7, ↓iw_t4_8, ↓iw_t4_9, ↓iw_t4_10, ↓ea, ↓eb]
      simp
    | some g =>
      rw [q2] at eb
      have eb := wp_eq eb
      simp! only [sO, String.reduceEq, ↓iw_t1_0, ↓iw_t1_1, ↓iw_t1_2, ↓iw_t1_3, ↓iw_t1_4, ↓iw_t1_5, ↓iw_t1_6, ↓iw_t1_7, ↓iw_t1_8, ↓iw_t1_9, ↓iw_t1_10, ↓iw_t2_0, ↓iw_t2_1, ↓iw_t2_2, ↓iw_t2_3, ↓iw_t2_4, ↓iw_t2_5, ↓iw_t2_6, ↓iw_t2_7, ↓iw_t2_8, ↓iw_t2_9, ↓iw_t2_10, ↓iw_t3_0, ↓iw_t3_1, ↓iw_t3_2, ↓iw_t3_3, ↓iw_t3_4, ↓iw_t3_5, ↓iw_t3_6, ↓iw_t3_7, ↓iw_t3_8, ↓iw_t3_9, ↓iw_t3_10, ↓iw_t4_0, ↓iw_t4_1, ↓iw_t4_2, ↓iw_t4_3, ↓iw_t4_4, ↓iw_t4_5, ↓iw_t4_6, ↓iw_t4_7, ↓iw_t4_8, ↓iw_t4_9, ↓iw_t4_10, ↓ea, ↓eb]
      simp
theorem ck_pt {m : Nat} {p : Pt} (hp : p.ok) : Chk (m_check_fact (m + 2) [.sh (planD fs), .sh p.d]) [.sh (planD fs), .sh p.d] (p.good fs) := by
  cases p with
  | lt a b m2 => exact ck_lt hf (m := m + 1)
  | tr => exact ck_tr hf (m := m + 1)
  | dry => exact ck_dry hf (m := m + 1)
  | so a r c => exact ck_so hf (m := m + 1) hp.1 hp.2.1 hp.2.2
  | al a r c => exact ck_al hf (m := m + 1) hp.1 hp.2.1 hp.2.2
  | mn a r c => exact ck_mn hf (m := m + 1) hp.1 hp.2.1 hp.2.2
  | sk a r c => exact ck_sk hf hp.1 hp.2.1 hp.2.2
  | ek a r c => exact ck_ek hf hp.1 hp.2.1 hp.2.2
theorem ck_not {m : Nat} {p : Pt} (hp : p.ok) : Chk (m_check_fact (m + 3) [.sh (planD fs), .sh (.tup [.str "not", p.d])]) [.sh (planD fs), .sh (.tup [.str "not", p.d])] (p.good fs) := by
  have e1 := (ck_pt hf (m := m) hp).eq
  unfold Chk m_check_fact b_check_fact
  by_cases g : p.good fs
  · rw [if_pos g] at e1
    have e1 := wp_eq e1
    simp! only [sO, String.reduceEq, ↓iw_t1_0, ↓iw_t1_1, ↓iw_t1_2, ↓iw_t1_3, ↓iw_t1_4, ↓iw_t1_5, ↓iw_t1_6, ↓iw_t1_7, ↓iw_t1_8, ↓iw_t1_9, ↓iw_t1_10, ↓iw_t2_0, ↓iw_t2_1, ↓iw_t2_2, ↓iw_t2_3, ↓iw_t2_4, ↓iw_t2_5, ↓iw_t2_6, ↓iw_t2_7, ↓iw_t2_8, ↓iw_t2_9, ↓iw_t2_10, ↓iw_t3_0, ↓iw_t3_1, ↓iw_t3_2, ↓iw_t3_3, ↓iw_t3_4, ↓iw_t3_5, ↓iw_t3_6, ↓iw_t3_7, ↓iw_t3_8, ↓iw_t3_9, ↓iw_t3_10, ↓iw_t4_0, ↓iw_t4_1, ↓iw_t4_2, ↓iw_t4_3, ↓iw_t4_4, ↓iw_t4_5, ↓iw_t4_6, ↓iw_t4_7, ↓iw_t4_8, ↓iw_t4_9, ↓iw_t4_10]
    refine forK_of ?_
    simp! only [cut1, ↓e1]
    exact g
  · rw [if_neg g] at e1
    have e1 := wp_eqx e1
    simp! only [sO, String.reduceEq, ↓iw_t1_0, ↓iw_t1_1, ↓iw_t1_2, ↓iw_t1_3, ↓iw_t1_4, ↓iw_t1_5, ↓iw_t1_6, ↓iw_t1_7, ↓iw_t1_8, ↓iw_t1_9, ↓iw_t1_10, ↓iw_t2_0, ↓iw_t2_1, ↓iw_t2_2, ↓iw_t2_3, ↓iw_t2_4, ↓iw_t2_5, ↓iw_t2_6, ↓iw_t2_7, ↓iw_t2_8, ↓iw_t2_9, ↓iw_t2_10, ↓iw_t3_0, ↓iw_t3_1, ↓iw_t3_2, ↓iw_t3_3, ↓iw_t3_4, ↓iw_t3_5, ↓iw_t3_6, ↓iw_t3_7, ↓iw_t3_8, ↓iw_t3_9, ↓iw_t3_10, ↓iw_t4_0, ↓iw_t4_1, ↓iw_t4_2, ↓iw_t4_3, ↓iw_t4_4, ↓iw_t4_5, ↓iw_t4_6, ↓iw_t4_7, ↓iw_t4_8, ↓iw_t4_9, ↓iw_t4_10]
    refine forK_of ?_
    simp! only [cut1, ↓e1]
    exact g
theorem ck_an {m : Nat} {p q : Pt} (hp : p.ok) (hq : q.ok) : Chk (m_check_fact (m + 3) [.sh (planD fs), .sh (.tup [.str "and", p.d, q.d])]) [.sh (planD fs), .sh (.tup [.str "and", p.d, q.d])] (p.good fs ∧ q.good fs) := by
  have e1 := (ck_pt hf (m := m) hp).eq
  have e2 := (ck_pt hf (m := m) hq).eq
  unfold Chk m_check_fact b_check_fact
  by_cases g : p.good fs
  · rw [if_pos g] at e1
    have e1 := wp_eq e1
    by_cases g2 : q.good fs
    · rw [if_pos g2] at e2
      have e2 := wp_eq e2
      simp! only [sO, String.reduceEq, ↓iw_t1_0, ↓iw_t1_1, ↓iw_t1_2, ↓iw_t1_3, ↓iw_t1_4, ↓iw_t1_5, ↓iw_t1_6, ↓iw_t1_7, ↓iw_t1_8, ↓iw_t1_9, ↓iw_t1_10, ↓iw_t2_0, ↓iw_t2_1, ↓iw_t2_2, ↓iw_t2_3, ↓iw_t2_4, ↓iw_t2_5, ↓iw_t2_6, ↓iw_t2_7, ↓iw_t2_8, ↓iw_t2_9, ↓iw_t2_10, ↓iw_t3_0, ↓iw_t3_1, ↓iw_t3_2, ↓iw_t3_3, ↓iw_t3_4, ↓iw_t3_5, ↓iw_t3_6, ↓iw_t3_7, ↓iw_t3_8, ↓iw_t3_9, ↓iw_t3_10, ↓iw_t4_0, ↓iw_t4_1, ↓iw_t4_2, ↓iw_t4_3, ↓iw_t4_4, ↓iw_t4_5, ↓iw_t4_6, ↓iw_t4_7, ↓iw_t4_8, ↓iw_t4_9, ↓iw_t4_10]
      refine forK_of ?_
      simp! only [cut1, ↓e1, ↓e2]
      exact ⟨g, g2⟩
    · rw [if_neg g2] at e2
      have e2 := wp_eqx e2
      simp! only [sO, String.reduceEq, ↓iw_t1_0, ↓iw_t1_1, ↓iw_t1_2, ↓iw_t1_3, ↓iw_t1_4, ↓iw_t1_5, ↓iw_t1_6, ↓iw_t1_7, ↓iw_t1_8, ↓iw_t1_9, ↓iw_t1_10, ↓iw_t2_0, ↓iw_t2_1, ↓iw_t2_2, ↓iw_t2_3, ↓iw_t2_4, ↓iw_t2_5, ↓iw_t2_6, ↓iw_t2_7, ↓iw_t2_8, ↓iw_t2_9, ↓iw_t2_10, ↓iw_t3_0, ↓iw_t3_1, ↓iw_t3_2, ↓iw_t3_3, ↓iw_t3_4, ↓iw_t3_5, ↓iw_t3_6, ↓iw_t3_7, ↓iw_t3_8, ↓iw_t3_9, ↓iw_t3_10, ↓iw_t4_0, ↓iw_t4_1, ↓iw_t4_2, ↓iw_t4_3, ↓iw_t4_4, ↓iw_t4_5, ↓iw_t4_6, ↓iw_t4_7, ↓iw_t4_8, ↓iw_t4_9, ↓iw_t4_10]
      refine forK_of ?_
      simp! only [cut1, ↓e1, ↓e2]
      exact fun z => g2 z.2
  · rw [if_neg g] at e1
    have e1 := wp_eqx e1
    simp! only [sO, String.reduceEq, ↓iw_t1_0, ↓iw_t1_1, ↓iw_t1_2, ↓iw_t1_3, ↓iw_t1_4, ↓iw_t1_5, ↓iw_t1_6, ↓iw_t1_7, ↓iw_t1_8, ↓iw_t1_9, ↓iw_t1_10, ↓iw_t2_0, ↓iw_t2_1, ↓iw_t2_2, ↓iw_t2_3, ↓iw_t2_4, ↓iw_t2_5, ↓iw_t2_6, ↓iw_t2_7, ↓iw_t2_8, ↓iw_t2_9, ↓iw_t2_10, ↓iw_t3_0, ↓iw_t3_1, ↓iw_t3_2, ↓iw_t3_3, ↓iw_t3_4, ↓iw_t3_5, ↓iw_t3_6, ↓iw_t3_7, ↓iw_t3_8, ↓iw_t3_9, ↓iw_t3_10, ↓iw_t4_0, ↓iw_t4_1, ↓iw_t4_2, ↓iw_t4_3, ↓iw_t4_4, ↓iw_t4_5, ↓iw_t4_6, ↓iw_t4_7, ↓iw_t4_8, ↓iw_t4_9, ↓iw_t4_10]
    refine forK_of ?_
    simp! only [cut1, ↓e1]
    exact fun z => g z.1
theorem ck_or {m : Nat} {p q : Pt} (hp : p.ok) (hq : q.ok) : Chk (m_check_fact (m + 3) [.sh (planD fs), .sh (.tup [.str "or", p.d, q.d])]) [.sh (planD fs), .sh (.tup [.str "or", p.d, q.d])] (p.good fs ∧ q.good fs) := by
  have e1 := (ck_pt hf (m := m) hp).eq
  have e2 := (ck_pt hf (m := m) hq).eq
  unfold Chk m_check_fact b_check_fact
  by_cases g : p.good fs
  · rw [if_pos g] at e1
    have e1 := wp_eq e1
    by_cases g2 : q.good fs
    · rw [if_pos g2] at e2
      have e2 := wp_eq e2
      simp! only [sO, String.reduceEq, ↓iw_t1_0, ↓iw_t1_1, ↓iw_t1_2, ↓iw_t1_3, ↓iw_t1_4, ↓iw_t1_5, ↓iw_t1_6, ↓iw_t1_7, ↓iw_t1_8, ↓iw_t1_9, ↓iw_t1_10, ↓iw_t2_0, ↓iw_t2_1, ↓iw_t2_2, ↓iw_t2_3, ↓iw_t2_4, ↓iw_t2_5, ↓iw_t2_6, ↓iw_t2_7, ↓iw_t2_8, ↓iw_t2_9, ↓iw_t2_10, ↓iw_t3_0, ↓iw_t3_1, ↓iw_t3_2, ↓iw_t3_3, ↓iw_t3_4, ↓iw_t3_5, ↓iw_t3_6, ↓iw_t3_7, ↓iw_t3_8, ↓iw_t3_9, ↓iw_t3_10, ↓iw_t4_0, ↓iw_t4_1, ↓iw_t4_2, ↓iw_t4_3, ↓iw_t4_4, ↓iw_t4_5, ↓iw_t4_6, ↓iw_t4_7, ↓iw_t4_8, ↓iw_t4_9, ↓iw_t4_10]
      refine forK_of ?_
      simp! only [cut1, ↓e1, ↓e2]
      exact ⟨g, g2⟩
    · rw [if_neg g2] at e2
      have e2 := wp_eqx e2
      simp! only [sO, String.reduceEq, ↓iw_t1_0, ↓iw_t1_1, ↓iw_t1_2, ↓iw_t1_3, ↓iw_t1_4, ↓iw_t1_5, ↓iw_t1_6, ↓iw_t1_7, ↓iw_t1_8, ↓iw_t1_9, ↓iw_t1_10, ↓iw_t2_0, ↓iw_t2_1, ↓iw_t2_2, ↓iw_t2_3, ↓iw_t2_4, ↓iw_t2_5, ↓iw_t2_6, ↓iw_t2_7, ↓iw_t2_8, ↓iw_t2_9, ↓iw_t2_10, ↓iw_t3_0, ↓iw_t3_1, ↓iw_t3_2, ↓iw_t3_3, ↓iw_t3_4, ↓iw_t3_5, ↓iw_t3_6, ↓iw_t3_7, ↓iw_t3_8, ↓iw_t3_9, ↓iw_t3_10, ↓iw_t4_0, ↓iw_t4_1, ↓iw_t4_2, ↓iw_t4_3, ↓iw_t4_4, ↓iw_t4_5, ↓iw_t4_6, ↓iw_t4_7, ↓iw_t4_8, ↓iw_t4_9, ↓iw_t4_10]
      refine forK_of ?_
      simp! only [cut1, ↓e1, ↓e2]
      exact fun z => g2 z.2
  · rw [if_neg g] at e1
    have e1 := wp_eqx e1
    simp! only [sO, String.reduceEq, ↓iw_t1_0, ↓iw_t1_1, ↓iw_t1_2, ↓iw_t1_3, ↓iw_t1_4, ↓iw_t1_5, ↓iw_t1_6, ↓iw_t1_7, ↓iw_t1_8, ↓iw_t1_9, ↓iw_t1_10, ↓iw_t2_0, ↓iw_t2_1, ↓iw_t2_2, ↓iw_t2_3, ↓iw_t2_4, ↓iw_t2_5, ↓iw_t2_6, ↓iw_t2_7, ↓iw_t2_8, ↓iw_t2_9, ↓iw_t2_10, ↓iw_t3_0, ↓iw_t3_1, ↓iw_t3_2, ↓iw_t3_3, ↓iw_t3_4, ↓iw_t3_5, ↓iw_t3_6, ↓iw_t3_7, ↓iw_t3_8, ↓iw_t3_9, ↓iw_t3_10, ↓iw_t4_0, ↓iw_t4_1, ↓iw_t4_2, ↓iw_t4_3, ↓iw_t4_4, ↓iw_t4_5, ↓iw_t4_6, ↓iw_t4_7, ↓iw_t4_8, ↓iw_t4_9, ↓iw_t4_10]
    refine forK_of ?_
    simp! only [cut1, ↓e1]
    exact fun z => g z.1
theorem ck_fa {m : Nat} {p : Fa} (hp : p.ok) : Chk (m_check_fact (m + 3) [.sh (planD fs), .sh p.d]) [.sh (planD fs), .sh p.d] (p.good fs) := by
  cases p with
  | pt p => exact ck_pt hf (m := m + 1) hp
  | not p => exact ck_not hf hp
  | an p q => exact ck_an hf hp.1 hp.2
  | or p q => exact ck_or hf hp.1 hp.2
end
end K93

namespace K93
open PySem R
theorem famF_app {fs : List Fam} {i : Nat} {f : Fam} (hn : (fs.map Fam.nm).Nodup) (hf : fs[i]? = some f) (a : Str) : famF (fs.take i ++ [f]) a = if a = f.nm then some f else famF (fs.take i) a := by
  unfold famF
  rw [List.find?_append]
  by_cases c : a = f.nm
  · subst c
    rw [if_pos rfl]
    have : (fs.take i).find? (fun g => decide (g.nm = f.nm)) = none := by
      rw [List.find?_eq_none]
      intro g hg e
      have e : g.nm = f.nm := of_decide_eq_true e
      obtain ⟨j, hj⟩ := List.getElem?_of_mem hg
      have hji : j < i := by
        have := (List.getElem?_eq_some_iff.mp hj).1
        rw [List.length_take] at this; omega
      rw [List.getElem?_take_of_lt hji] at hj
      have e1 : (fs.map Fam.nm)[j]? = some f.nm := by rw [List.getElem?_map, hj, ← e]; rfl
      have e2 : (fs.map Fam.nm)[i]? = some f.nm := by rw [List.getElem?_map, hf]; rfl
      have l1 := (List.getElem?_eq_some_iff.mp e1).1
      have l2 := (List.getElem?_eq_some_iff.mp e2).1
      have := (List.getElem_inj (h₀ := l1) (h₁ := l2) hn).mp (by rw [(List.getElem?_eq_some_iff.mp e1).2, (List.getElem?_eq_some_iff.mp e2).2])
      omega
    rw [this, List.find?_cons, decide_eq_true rfl]
    rfl
  · rw [if_neg c, List.find?_cons, decide_eq_false (fun e => c e.symm)]
    simp
theorem known_of {fs : List Fam} {t : D} {N : Nv → Prop} {L : Out → Prop} {c : MS} (hn : (fs.map Fam.nm).Nodup) (hl : fs.length ≤ 2)
    (h : ∀ (ps : List (DKey × D)) (y3 : Option D), (∀ a, dget ps (.inl (.inr a)) = (famF fs a).map famD) → (c [some (.sh (planD fs)), some (.sh t), some (.own (.dic 0 ps)), (y3.map SV.sh), none, none, none, none]).wp N L) :
    forK (.nm 3) (itM (op2 gIx (varM 0) (pureM (.sh (.int 0))))) (setIxS (.v 2) (op2 gIx (varM 3) (pureM (.sh (.int 0)))) (varF 3)) c [some (.sh (planD fs)), some (.sh t), some (.own (.dic 0 [])), none, none, none, none, none] N L := by
  have sb := sizeLine_big
  refine forK_of ?_
  unfold planD
  simp! only []
  refine for_inv (fun i ρ => ∃ (ps : List (DKey × D)) (y3 : Option D), ρ = [some (.sh (planD fs)), some (.sh t), some (.own (.dic 0 ps)), (y3.map SV.sh), none, none, none, none] ∧ ps.length ≤ i ∧ ∀ a, dget ps (.inl (.inr a)) = (famF (fs.take i) a).map famD) ⟨[], none, rfl, Nat.le_refl _, fun a => rfl⟩ ?_ ?_
  · rintro i x _ hx ⟨ps, y3, rfl, hpl, hps⟩
    rw [List.getElem?_map] at hx
    obtain ⟨f, hf, rfl⟩ := Option.map_eq_some_iff.mp hx
    have hi := (List.getElem?_eq_some_iff.mp hf).1
    show putN _ _ _ _
    unfold famD
    simp! only []
    refine ⟨by omega, _, some _, rfl, Nat.le_trans dput_length (by omega), fun a => ?_⟩
    rw [dget_dput, take_snoc hf, famF_app hn hf, hps]
    by_cases c : a = f.nm
    · subst c
      rw [if_pos rfl, if_pos rfl]
      rfl
    · rw [if_neg c, if_neg (fun e => c (by injection e with e; injection e))]
      rfl
  · rintro _ ⟨ps, y3, rfl, hpl, hps⟩
    rw [List.length_map, List.take_length] at hps
    exact h ps y3 hps
open Classical in
theorem goods_of {α : Type} {dd : α → D} {m : Nat} {fs : List Fam} {xs : List α} {g : α → Prop} {a b c d : Option SV} {rest : Nv} {Q : List D → Nv → Prop} {E : Ex → Nv → Prop}
    (h : ∀ x ∈ xs, m__law_good m [.sh (planD fs), .sh (dd x)] = .ok (.sh (.bl (decide (g x)))) [.sh (planD fs), .sh (dd x)]) (hl : xs.length ≤ 10)
    (hQ : Q (xs.map fun x => .bl (decide (g x))) (some (.sh (planD fs)) :: a :: b :: c :: d :: none :: rest)) :
    (compL (.nm 5) yesM (frzM (callM 2 (m__law_good m) (a1 (varM 0) (a1 (varM 5) a0)))) (xs.map dd) [] (some (.sh (planD fs)) :: a :: b :: c :: d :: none :: rest)).wp Q E := by
  have sb := sizeLine_big
  refine comp_inv (fun i acc ρ => ρ = some (.sh (planD fs)) :: a :: b :: c :: d :: none :: rest ∧ acc = (xs.take i).map fun x => .bl (decide (g x))) ⟨rfl, rfl⟩ ?_ ?_
  · rintro i x acc _ hx ⟨rfl, rfl⟩
    rw [List.getElem?_map] at hx
    obtain ⟨x, hx2, rfl⟩ := Option.map_eq_some_iff.mp hx
    have e := wp_eq (h x (List.mem_of_getElem? hx2))
    show putN _ _ _ _
    simp! only [↓e]
    refine ⟨by rw [List.length_map, List.length_take]; omega, rfl, ?_⟩
    rw [take_snoc hx2, List.map_append]
    rfl
  · rintro acc _ ⟨rfl, rfl⟩
    rw [List.length_map, List.take_length]
    exact hQ
open Classical in
theorem nin_goods {α : Type} {xs : List α} {g : α → Prop} {k : SV → Prop} {o : SV} (ho : o.data = .lst (xs.map fun x => .bl (decide (g x)))) : gP (gNotIn (.sh (.bl false)) o) k = k (.sh (.bl (decide (∀ x ∈ xs, g x)))) := by
  have e : xs.map (fun x => D.bl (decide (g x))) = (xs.map fun x => decide (g x)).map D.bl := by rw [List.map_map]; rfl
  rw [gNotIn_bl (ho.trans (by rw [e]))]
  congr 3
  rw [Bool.eq_iff_iff]
  simp
section
variable {fs : List Fam} (hf : ∀ f ∈ fs, FamOk f) (hn : (fs.map Fam.nm).Nodup) (hl : fs.length ≤ 2)
include hf hn hl
open Classical in
theorem gd_tr {m : Nat}  : m__law_good (m + 1) [.sh (planD fs), .sh (.tup [.str "true"])] = .ok (.sh (.bl (@decide (True) (Classical.propDecidable _)))) [.sh (planD fs), .sh (.tup [.str "true"])] := by
  suffices h : (m__law_good (m + 1) [.sh (planD fs), .sh (.tup [.str "true"])]).wp (fun x bs => bs = [.sh (planD fs), .sh (.tup [.str "true"])] ∧ x = .sh (.bl (@decide (True) (Classical.propDecidable _)))) fun _ _ => False by
    obtain ⟨x, s, h0, rfl, rfl⟩ := h.ok
    exact h0
  have sb := sizeLine_big
  unfold m__law_good b__law_good
  simp! only []
  refine known_of hn hl fun ps y3 hps => ?_
  simp! only [sO, String.reduceEq, ↓iw_t1_0, ↓iw_t1_1, ↓iw_t1_2, ↓iw_t1_3, ↓iw_t1_4, ↓iw_t1_5, ↓iw_t1_6, ↓iw_t1_7, ↓iw_t1_8, ↓iw_t1_9, ↓iw_t1_10, ↓iw_t2_0, ↓iw_t2_1, ↓iw_t2_2, ↓iw_t2_3, ↓iw_t2_4, ↓iw_t2_5, ↓iw_t2_6, ↓iw_t2_7, ↓iw_t2_8, ↓iw_t2_9, ↓iw_t2_10, ↓iw_t3_0, ↓iw_t3_1, ↓iw_t3_2, ↓iw_t3_3, ↓iw_t3_4, ↓iw_t3_5, ↓iw_t3_6, ↓iw_t3_7, ↓iw_t3_8, ↓iw_t3_9, ↓iw_t3_10, ↓iw_t4_0, ↓iw_t4_1, ↓iw_t4_2, ↓iw_t4_3, ↓iw_t4_4, ↓iw_t4_5, ↓iw_t4_6, ↓iw_t4_7, ↓iw_t4_8, ↓iw_t4_9, ↓iw_t4_10]
open Classical in
theorem gd_dry {m : Nat}  : m__law_good (m + 1) [.sh (planD fs), .sh (.tup [.str "dry"])] = .ok (.sh (.bl (@decide (True) (Classical.propDecidable _)))) [.sh (planD fs), .sh (.tup [.str "dry"])] := by
  suffices h : (m__law_good (m + 1) [.sh (planD fs), .sh (.tup [.str "dry"])]).wp (fun x bs => bs = [.sh (planD fs), .sh (.tup [.str "dry"])] ∧ x = .sh (.bl (@decide (True) (Classical.propDecidable _)))) fun _ _ => False by
    obtain ⟨x, s, h0, rfl, rfl⟩ := h.ok
    exact h0
  have sb := sizeLine_big
  unfold m__law_good b__law_good
  simp! only []
  refine known_of hn hl fun ps y3 hps => ?_
  simp! only [sO, String.reduceEq, ↓iw_t1_0, ↓iw_t1_1, ↓iw_t1_2, ↓iw_t1_3, ↓iw_t1_4, ↓iw_t1_5, ↓iw_t1_6, ↓iw_t1_7, ↓iw_t1_8, ↓iw_t1_9, ↓iw_t1_10, ↓iw_t2_0, ↓iw_t2_1, ↓iw_t2_2, ↓iw_t2_3, ↓iw_t2_4, ↓iw_t2_5, ↓iw_t2_6, ↓iw_t2_7, ↓iw_t2_8, ↓iw_t2_9, ↓iw_t2_10, ↓iw_t3_0, ↓iw_t3_1, ↓iw_t3_2, ↓iw_t3_3, ↓iw_t3_4, ↓iw_t3_5, ↓iw_t3_6, ↓iw_t3_7, ↓iw_t3_8, ↓iw_t3_9, ↓iw_t3_10, ↓iw_t4_0, ↓iw_t4_1, ↓iw_t4_2, ↓iw_t4_3, ↓iw_t4_4, ↓iw_t4_5, ↓iw_t4_6, ↓iw_t4_7, ↓iw_t4_8, ↓iw_t4_9, ↓iw_t4_10]
open Classical in
theorem gd_lt {m : Nat} {a b m2 : Str} : m__law_good (m + 1) [.sh (planD fs), .sh (.tup [.str "letters", .str a, .str b, .str m2, .str "=", .int 1])] = .ok (.sh (.bl (@decide ((famF fs a).isSome ∧ (famF fs b).isSome) (Classical.propDecidable _)))) [.sh (planD fs), .sh (.tup [.str "letters", .str a, .str b, .str m2, .str "=", .int 1])] := by
  suffices h : (m__law_good (m + 1) [.sh (planD fs), .sh (.tup [.str "letters", .str a, .str b, .str m2, .str "=", .int 1])]).wp (fun x bs => bs = [.sh (planD fs), .sh (.tup [.str "letters", .str a, .str b, .str m2, .str "=", .int 1])] ∧ x = .sh (.bl (@decide ((famF fs a).isSome ∧ (famF fs b).isSome) (Classical.propDecidable _)))) fun _ _ => False by
    obtain ⟨x, s, h0, rfl, rfl⟩ := h.ok
    exact h0
  have sb := sizeLine_big
  unfold m__law_good b__law_good
  simp! only []
  refine known_of hn hl fun ps y3 hps => ?_
  simp! only [sO, String.reduceEq, ↓iw_t1_0, ↓iw_t1_1, ↓iw_t1_2, ↓iw_t1_3, ↓iw_t1_4, ↓iw_t1_5, ↓iw_t1_6, ↓iw_t1_7, ↓iw_t1_8, ↓iw_t1_9, ↓iw_t1_10, ↓iw_t2_0, ↓iw_t2_1, ↓iw_t2_2, ↓iw_t2_3, ↓iw_t2_4, ↓iw_t2_5, ↓iw_t2_6, ↓iw_t2_7, ↓iw_t2_8, ↓iw_t2_9, ↓iw_t2_10, ↓iw_t3_0, ↓iw_t3_1, ↓iw_t3_2, ↓iw_t3_3, ↓iw_t3_4, ↓iw_t3_5, ↓iw_t3_6, ↓iw_t3_7, ↓iw_t3_8, ↓iw_t3_9, ↓iw_t3_10, ↓iw_t4_0, ↓iw_t4_1, ↓iw_t4_2, ↓iw_t4_3, ↓iw_t4_4, ↓iw_t4_5, ↓iw_t4_6, ↓iw_t4_7, ↓iw_t4_8, ↓iw_t4_9, ↓iw_t4_10, hps, Option.isSome_map]
  cases (famF fs a).isSome <;> cases (famF fs b).isSome <;> simp
open Classical in
theorem gd_so {m : Nat} {a r : Str} {c : Cd} (ha : OkS a) (hr : OkS r) (hc : c.ok) : m__law_good (m + 1) [.sh (planD fs), .sh (.tup [.str "some", .str a, .str r, c.d])] = .ok (.sh (.bl (@decide (GoodH fs a r c) (Classical.propDecidable _)))) [.sh (planD fs), .sh (.tup [.str "some", .str a, .str r, c.d])] := by
  suffices h : (m__law_good (m + 1) [.sh (planD fs), .sh (.tup [.str "some", .str a, .str r, c.d])]).wp (fun x bs => bs = [.sh (planD fs), .sh (.tup [.str "some", .str a, .str r, c.d])] ∧ x = .sh (.bl (@decide (GoodH fs a r c) (Classical.propDecidable _)))) fun _ _ => False by
    obtain ⟨x, s, h0, rfl, rfl⟩ := h.ok
    exact h0
  have sb := sizeLine_big
  unfold m__law_good b__law_good
  simp! only []
  refine known_of hn hl fun ps y3 hps => ?_
  have es := wp_eq (sp_cond c)
  cases q : famF fs a with
  | none =>
    have pa : (dget ps (.inl (.inr a))).isSome = false := by rw [hps, q]; rfl
    simp! only [sO, String.reduceEq, ↓iw_t1_0, ↓iw_t1_1, ↓iw_t1_2, ↓iw_t1_3, ↓iw_t1_4, ↓iw_t1_5, ↓iw_t1_6, ↓iw_t1_7, ↓iw_t1_8, ↓iw_t1_9, ↓iw_t1_10, ↓iw_t2_0, ↓iw_t2_1, ↓iw_t2_2, ↓iw_t2_3, ↓iw_t2_4, ↓iw_t2_5, ↓iw_t2_6, ↓iw_t2_7, ↓iw_t2_8, ↓iw_t2_9, ↓iw_t2_10, ↓iw_t3_0, ↓iw_t3_1, ↓iw_t3_2, ↓iw_t3_3, ↓iw_t3_4, ↓iw_t3_5, ↓iw_t3_6, ↓iw_t3_7, ↓iw_t3_8, ↓iw_t3_9, ↓iw_t3_10, ↓iw_t4_0, ↓iw_t4_1, ↓iw_t4_2, ↓iw_t4_3, ↓iw_t4_4, ↓iw_t4_5, ↓iw_t4_6, ↓iw_t4_7, ↓iw_t4_8, ↓iw_t4_9, ↓iw_t4_10, pa]
    rw [decide_eq_false]
    rintro ⟨f, h, _⟩
    rw [q] at h; cases h
  | some f =>
    have pa : (dget ps (.inl (.inr a))).isSome = true := by rw [hps, q]; rfl
    have d1 := fun k => dxP_of (k := k) ((hps a).trans (by rw [q]; rfl))
    unfold famD at d1
    have ok := hf f (famF_mem q)
    have hg : GoodH fs a r c ↔ (r = Str.ofString "" ∨ r ∈ f.rs) ∧ ∀ n ∈ c.ns, n ∈ f.cs := ⟨fun ⟨g, h, k⟩ => by rw [q] at h; cases h; exact k, fun k => ⟨f, q, k⟩⟩
    have hni : ∀ k : SV → Prop, gP (gNotIn (.sh (.str r)) (.sh (.lst (f.rs.map D.str)))) k = k (.sh (.bl (!decide (D.str r ∈ f.rs.map D.str)))) := fun k => gNotIn_nb (x := .sh (.str r)) (y := .sh (.lst (f.rs.map D.str))) (n := 1) (.str hr.1) (strs_nb ok.rs) (by decide) (by decide) (.inr rfl)
    have hni2 : ∀ (n : Str), OkS n → ∀ k : SV → Prop, gP (gNotIn (.sh (.str n)) (.tr (.lst (f.cs.map D.str)))) k = k (.sh (.bl (!decide (D.str n ∈ f.cs.map D.str)))) := fun n hn k => gNotIn_nb (x := .sh (.str n)) (y := .tr (.lst (f.cs.map D.str))) (n := 1) (.str hn.1) (strs_nb ok.cs) (by decide) (by decide) (.inr rfl)
    have hcn := Cd.ok_ns hc
    have hen : decide (GoodH fs a r c) = decide ((r = Str.ofString "" ∨ r ∈ f.rs) ∧ ∀ n ∈ c.ns, n ∈ f.cs) := decide_eq_decide.mpr hg
    rw [hen]
    simp! only [sO, String.reduceEq, ↓iw_t1_0, ↓iw_t1_1, ↓iw_t1_2, ↓iw_t1_3, ↓iw_t1_4, ↓iw_t1_5, ↓iw_t1_6, ↓iw_t1_7, ↓iw_t1_8, ↓iw_t1_9, ↓iw_t1_10, ↓iw_t2_0, ↓iw_t2_1, ↓iw_t2_2, ↓iw_t2_3, ↓iw_t2_4, ↓iw_t2_5, ↓iw_t2_6, ↓iw_t2_7, ↓iw_t2_8, ↓iw_t2_9, ↓iw_t2_10, ↓iw_t3_0, ↓iw_t3_1, ↓iw_t3_2, ↓iw_t3_3, ↓iw_t3_4, ↓iw_t3_5, ↓iw_t3_6, ↓iw_t3_7, ↓iw_t3_8, ↓iw_t3_9, ↓iw_t3_10, ↓iw_t4_0, ↓iw_t4_1, ↓iw_t4_2, ↓iw_t4_3, ↓iw_t4_4, ↓iw_t4_5, ↓iw_t4_6, ↓iw_t4_7, ↓iw_t4_8, ↓iw_t4_9, ↓iw_t4_10, pa, ↓d1, ↓hni]
    refine ite_of (fun h => ite_of (fun h2 => ?_) (fun h2 => ?_)) (fun h => ?_)
    · rw [mem_strs] at h2
      rw [decide_eq_false (fun z => z.1.elim h h2)]
    all_goals
      have hr2 : r = Str.ofString "" ∨ r ∈ f.rs := by
        first
        | (rw [mem_strs, Classical.not_not] at h2; exact .inr h2)
        | exact .inl (Classical.not_not.mp h)
      clear hni
      refine ⟨rfl, ?_⟩
      refine comp_inv (fun j acc ρ => ρ = [some (.sh (planD fs)), some (.sh (.tup [.str "some", .str a, .str r, c.d])), some (.own (.dic 0 ps)), some (.sh (.tup [.str f.nm, .int 1, .lst (f.rs.map D.str), .lst (f.cs.map celD), .lst (f.os.map D.str), .lst []])), none, none, none, none] ∧ acc = (f.cs.take j).map D.str) ⟨rfl, rfl⟩ ?_ ?_
      · rintro j y acc _ hx ⟨rfl, rfl⟩
        rw [List.getElem?_map] at hx
        obtain ⟨n, hn, rfl⟩ := Option.map_eq_some_iff.mp hx
        have hlc := ok.lc
        unfold celD
        show putN _ _ _ _
        simp! only []
        refine ⟨by rw [List.length_map, List.length_take]; omega, rfl, ?_⟩
        rw [take_snoc hn, List.map_append]
        rfl
      rintro acc _ ⟨rfl, rfl⟩
      rw [List.length_map, List.take_length]
      show eN [some (.sh (planD fs)), some (.sh (.tup [.str "some", .str a, .str r, c.d])), some (.own (.dic 0 ps)), some (.sh (.tup [.str f.nm, .int 1, .lst (f.rs.map D.str), .lst (f.cs.map celD), .lst (f.os.map D.str), .lst []])), none, none, none, none] 4 (.own (.lst (f.cs.map D.str))) _
      simp! only [↓es]
      refine ⟨rfl, ?_⟩
      refine comp_inv (fun j acc ρ => ρ = [some (.sh (planD fs)), some (.sh (.tup [.str "some", .str a, .str r, c.d])), some (.own (.dic 0 ps)), some (.sh (.tup [.str f.nm, .int 1, .lst (f.rs.map D.str), .lst (f.cs.map celD), .lst (f.os.map D.str), .lst []])), some (.own (.lst (f.cs.map D.str))), none, none, none] ∧ acc = ((c.ns.take j).filter fun n => decide (n ∉ f.cs)).map D.str) ⟨rfl, rfl⟩ ?_ ?_
      · rintro j y acc _ hx ⟨rfl, rfl⟩
        rw [List.getElem?_map] at hx
        obtain ⟨n, hnn, rfl⟩ := Option.map_eq_some_iff.mp hx
        have hmem := List.mem_of_getElem? hnn
        have g2 := hni2 n (hcn n hmem)
        show putN _ _ _ _
        simp! only [↓g2]
        rw [take_snoc hnn, List.filter_append, List.map_append]
        refine ite_of (fun h3 => ?_) (fun h3 => ?_)
        · rw [mem_strs] at h3
          refine ⟨?_, rfl, ?_⟩
          · rw [List.length_map]
            have := List.length_filter_le (fun n => decide (n ∉ f.cs)) (c.ns.take j)
            have h1 : c.ns.length ≤ 1 := by cases c <;> simp [Cd.ns]
            rw [List.length_take] at this
            omega
          · rw [List.filter_cons, decide_eq_true h3]; rfl
        · rw [mem_strs] at h3
          rw [List.filter_cons, decide_eq_false h3]
          exact ⟨rfl, by simp⟩
      · rintro acc _ ⟨rfl, rfl⟩
        rw [List.length_map, List.take_length]
        have ge := fun k => gEq_nil (x := .own (.lst ((c.ns.filter fun n => decide (n ∉ f.cs)).map D.str))) (k := k) (n := 1) rfl (Fines.of fun d hd => by
          obtain ⟨n, hn, rfl⟩ := List.mem_map.mp hd
          exact .str (hcn n (List.mem_filter.mp hn).1).1) (by decide)
        have he : decide ((c.ns.filter fun n => decide (n ∉ f.cs)).map D.str = []) = decide ((r = Str.ofString "" ∨ r ∈ f.rs) ∧ ∀ n ∈ c.ns, n ∈ f.cs) := by
          rw [decide_eq_decide, List.map_eq_nil_iff, List.filter_eq_nil_iff]
          refine ⟨fun z => ⟨hr2, fun n hn => ?_⟩, fun z n hn => ?_⟩
          · have := z n hn
            simpa using this
          · simpa using z.2 n hn
        simp! only [↓ge]
        rw [he]
        exact ⟨rfl, rfl⟩
open Classical in
theorem gd_al {m : Nat} {a r : Str} {c : Cd} (ha : OkS a) (hr : OkS r) (hc : c.ok) : m__law_good (m + 1) [.sh (planD fs), .sh (.tup [.str "all", .str a, .str r, c.d])] = .ok (.sh (.bl (@decide (GoodH fs a r c) (Classical.propDecidable _)))) [.sh (planD fs), .sh (.tup [.str "all", .str a, .str r, c.d])] := by
  suffices h : (m__law_good (m + 1) [.sh (planD fs), .sh (.tup [.str "all", .str a, .str r, c.d])]).wp (fun x bs => bs = [.sh (planD fs), .sh (.tup [.str "all", .str a, .str r, c.d])] ∧ x = .sh (.bl (@decide (GoodH fs a r c) (Classical.propDecidable _)))) fun _ _ => False by
    obtain ⟨x, s, h0, rfl, rfl⟩ := h.ok
    exact h0
  have sb := sizeLine_big
  unfold m__law_good b__law_good
  simp! only []
  refine known_of hn hl fun ps y3 hps => ?_
  have es := wp_eq (sp_cond c)
  cases q : famF fs a with
  | none =>
    have pa : (dget ps (.inl (.inr a))).isSome = false := by rw [hps, q]; rfl
    simp! only [sO, String.reduceEq, ↓iw_t1_0, ↓iw_t1_1, ↓iw_t1_2, ↓iw_t1_3, ↓iw_t1_4, ↓iw_t1_5, ↓iw_t1_6, ↓iw_t1_7, ↓iw_t1_8, ↓iw_t1_9, ↓iw_t1_10, ↓iw_t2_0, ↓iw_t2_1, ↓iw_t2_2, ↓iw_t2_3, ↓iw_t2_4, ↓iw_t2_5, ↓iw_t2_6, ↓iw_t2_7, ↓iw_t2_8, ↓iw_t2_9, ↓iw_t2_10, ↓iw_t3_0, ↓iw_t3_1, ↓iw_t3_2, ↓iw_t3_3, ↓iw_t3_4, ↓iw_t3_5, ↓iw_t3_6, ↓iw_t3_7, ↓iw_t3_8, ↓iw_t3_9, ↓iw_t3_10, ↓iw_t4_0, ↓iw_t4_1, ↓iw_t4_2, ↓iw_t4_3, ↓iw_t4_4, ↓iw_t4_5, ↓iw_t4_6, ↓iw_t4_7, ↓iw_t4_8, ↓iw_t4_9, ↓iw_t4_10, pa]
    rw [decide_eq_false]
    rintro ⟨f, h, _⟩
    rw [q] at h; cases h
  | some f =>
    have pa : (dget ps (.inl (.inr a))).isSome = true := by rw [hps, q]; rfl
    have d1 := fun k => dxP_of (k := k) ((hps a).trans (by rw [q]; rfl))
    unfold famD at d1
    have ok := hf f (famF_mem q)
    have hg : GoodH fs a r c ↔ (r = Str.ofString "" ∨ r ∈ f.rs) ∧ ∀ n ∈ c.ns, n ∈ f.cs := ⟨fun ⟨g, h, k⟩ => by rw [q] at h; cases h; exact k, fun k => ⟨f, q, k⟩⟩
    have hni : ∀ k : SV → Prop, gP (gNotIn (.sh (.str r)) (.sh (.lst (f.rs.map D.str)))) k = k (.sh (.bl (!decide (D.str r ∈ f.rs.map D.str)))) := fun k => gNotIn_nb (x := .sh (.str r)) (y := .sh (.lst (f.rs.map D.str))) (n := 1) (.str hr.1) (strs_nb ok.rs) (by decide) (by decide) (.inr rfl)
    have hni2 : ∀ (n : Str), OkS n → ∀ k : SV → Prop, gP (gNotIn (.sh (.str n)) (.tr (.lst (f.cs.map D.str)))) k = k (.sh (.bl (!decide (D.str n ∈ f.cs.map D.str)))) := fun n hn k => gNotIn_nb (x := .sh (.str n)) (y := .tr (.lst (f.cs.map D.str))) (n := 1) (.str hn.1) (strs_nb ok.cs) (by decide) (by decide) (.inr rfl)
    have hcn := Cd.ok_ns hc
    have hen : decide (GoodH fs a r c) = decide ((r = Str.ofString "" ∨ r ∈ f.rs) ∧ ∀ n ∈ c.ns, n ∈ f.cs) := decide_eq_decide.mpr hg
    rw [hen]
    simp! only [sO, String.reduceEq, ↓iw_t1_0, ↓iw_t1_1, ↓iw_t1_2, ↓iw_t1_3, ↓iw_t1_4, ↓iw_t1_5, ↓iw_t1_6, ↓iw_t1_7, ↓iw_t1_8, ↓iw_t1_9, ↓iw_t1_10, ↓iw_t2_0, ↓iw_t2_1, ↓iw_t2_2, ↓iw_t2_3, ↓iw_t2_4, ↓iw_t2_5, ↓iw_t2_6, ↓iw_t2_7, ↓iw_t2_8, ↓iw_t2_9, ↓iw_t2_10, ↓iw_t3_0, ↓iw_t3_1, ↓iw_t3_2, ↓iw_t3_3, ↓iw_t3_4, ↓iw_t3_5, ↓iw_t3_6, ↓iw_t3_7, ↓iw_t3_8, ↓iw_t3_9, ↓iw_t3_10, ↓iw_t4_0, ↓iw_t4_1, ↓iw_t4_2, ↓iw_t4_3, ↓iw_t4_4, ↓iw_t4_5, ↓iw_t4_6, ↓iw_t4_7, ↓iw_t4_8, ↓iw_t4_9, ↓iw_t4_10, pa, ↓d1, ↓hni]
    refine ite_of (fun h => ite_of (fun h2 => ?_) (fun h2 => ?_)) (fun h => ?_)
    · rw [mem_strs] at h2
      rw [decide_eq_false (fun z => z.1.elim h h2)]
    all_goals
      have hr2 : r = Str.ofString "" ∨ r ∈ f.rs := by
        first
        | (rw [mem_strs, Classical.not_not] at h2; exact .inr h2)
        | exact .inl (Classical.not_not.mp h)
      clear hni
      refine ⟨rfl, ?_⟩
      refine comp_inv (fun j acc ρ => ρ = [some (.sh (planD fs)), some (.sh (.tup [.str "all", .str a, .str r, c.d])), some (.own (.dic 0 ps)), some (.sh (.tup [.str f.nm, .int 1, .lst (f.rs.map D.str), .lst (f.cs.map celD), .lst (f.os.map D.str), .lst []])), none, none, none, none] ∧ acc = (f.cs.take j).map D.str) ⟨rfl, rfl⟩ ?_ ?_
      · rintro j y acc _ hx ⟨rfl, rfl⟩
        rw [List.getElem?_map] at hx
        obtain ⟨n, hn, rfl⟩ := Option.map_eq_some_iff.mp hx
        have hlc := ok.lc
        unfold celD
        show putN _ _ _ _
        simp! only []
        refine ⟨by rw [List.length_map, List.length_take]; omega, rfl, ?_⟩
        rw [take_snoc hn, List.map_append]
        rfl
      rintro acc _ ⟨rfl, rfl⟩
      rw [List.length_map, List.take_length]
      show eN [some (.sh (planD fs)), some (.sh (.tup [.str "all", .str a, .str r, c.d])), some (.own (.dic 0 ps)), some (.sh (.tup [.str f.nm, .int 1, .lst (f.rs.map D.str), .lst (f.cs.map celD), .lst (f.os.map D.str), .lst []])), none, none, none, none] 4 (.own (.lst (f.cs.map D.str))) _
      simp! only [↓es]
      refine ⟨rfl, ?_⟩
      refine comp_inv (fun j acc ρ => ρ = [some (.sh (planD fs)), some (.sh (.tup [.str "all", .str a, .str r, c.d])), some (.own (.dic 0 ps)), some (.sh (.tup [.str f.nm, .int 1, .lst (f.rs.map D.str), .lst (f.cs.map celD), .lst (f.os.map D.str), .lst []])), some (.own (.lst (f.cs.map D.str))), none, none, none] ∧ acc = ((c.ns.take j).filter fun n => decide (n ∉ f.cs)).map D.str) ⟨rfl, rfl⟩ ?_ ?_
      · rintro j y acc _ hx ⟨rfl, rfl⟩
        rw [List.getElem?_map] at hx
        obtain ⟨n, hnn, rfl⟩ := Option.map_eq_some_iff.mp hx
        have hmem := List.mem_of_getElem? hnn
        have g2 := hni2 n (hcn n hmem)
        show putN _ _ _ _
        simp! only [↓g2]
        rw [take_snoc hnn, List.filter_append, List.map_append]
        refine ite_of (fun h3 => ?_) (fun h3 => ?_)
        · rw [mem_strs] at h3
          refine ⟨?_, rfl, ?_⟩
          · rw [List.length_map]
            have := List.length_filter_le (fun n => decide (n ∉ f.cs)) (c.ns.take j)
            have h1 : c.ns.length ≤ 1 := by cases c <;> simp [Cd.ns]
            rw [List.length_take] at this
            omega
          · rw [List.filter_cons, decide_eq_true h3]; rfl
        · rw [mem_strs] at h3
          rw [List.filter_cons, decide_eq_false h3]
          exact ⟨rfl, by simp⟩
      · rintro acc _ ⟨rfl, rfl⟩
        rw [List.length_map, List.take_length]
        have ge := fun k => gEq_nil (x := .own (.lst ((c.ns.filter fun n => decide (n ∉ f.cs)).map D.str))) (k := k) (n := 1) rfl (Fines.of fun d hd => by
          obtain ⟨n, hn, rfl⟩ := List.mem_map.mp hd
          exact .str (hcn n (List.mem_filter.mp hn).1).1) (by decide)
        have he : decide ((c.ns.filter fun n => decide (n ∉ f.cs)).map D.str = []) = decide ((r = Str.ofString "" ∨ r ∈ f.rs) ∧ ∀ n ∈ c.ns, n ∈ f.cs) := by
          rw [decide_eq_decide, List.map_eq_nil_iff, List.filter_eq_nil_iff]
          refine ⟨fun z => ⟨hr2, fun n hn => ?_⟩, fun z n hn => ?_⟩
          · have := z n hn
            simpa using this
          · simpa using z.2 n hn
        simp! only [↓ge]
        rw [he]
        exact ⟨rfl, rfl⟩
open Classical in
theorem gd_mn {m : Nat} {a r : Str} {c : Cd} (ha : OkS a) (hr : OkS r) (hc : c.ok) : m__law_good (m + 1) [.sh (planD fs), .sh (.tup [.str "many", .str a, .str r, c.d, .str ">", .int 0])] = .ok (.sh (.bl (@decide (GoodH fs a r c) (Classical.propDecidable _)))) [.sh (planD fs), .sh (.tup [.str "many", .str a, .str r, c.d, .str ">", .int 0])] := by
  suffices h : (m__law_good (m + 1) [.sh (planD fs), .sh (.tup [.str "many", .str a, .str r, c.d, .str ">", .int 0])]).wp (fun x bs => bs = [.sh (planD fs), .sh (.tup [.str "many", .str a, .str r, c.d, .str ">", .int 0])] ∧ x = .sh (.bl (@decide (GoodH fs a r c) (Classical.propDecidable _)))) fun _ _ => False by
    obtain ⟨x, s, h0, rfl, rfl⟩ := h.ok
    exact h0
  have sb := sizeLine_big
  unfold m__law_good b__law_good
  simp! only []
  refine known_of hn hl fun ps y3 hps => ?_
  have es := wp_eq (sp_cond c)
  cases q : famF fs a with
  | none =>
    have pa : (dget ps (.inl (.inr a))).isSome = false := by rw [hps, q]; rfl
    simp! only [sO, String.reduceEq, ↓iw_t1_0, ↓iw_t1_1, ↓iw_t1_2, ↓iw_t1_3, ↓iw_t1_4, ↓iw_t1_5, ↓iw_t1_6, ↓iw_t1_7, ↓iw_t1_8, ↓iw_t1_9, ↓iw_t1_10, ↓iw_t2_0, ↓iw_t2_1, ↓iw_t2_2, ↓iw_t2_3, ↓iw_t2_4, ↓iw_t2_5, ↓iw_t2_6, ↓iw_t2_7, ↓iw_t2_8, ↓iw_t2_9, ↓iw_t2_10, ↓iw_t3_0, ↓iw_t3_1, ↓iw_t3_2, ↓iw_t3_3, ↓iw_t3_4, ↓iw_t3_5, ↓iw_t3_6, ↓iw_t3_7, ↓iw_t3_8, ↓iw_t3_9, ↓iw_t3_10, ↓iw_t4_0, ↓iw_t4_1, ↓iw_t4_2, ↓iw_t4_3, ↓iw_t4_4, ↓iw_t4_5, ↓iw_t4_6, ↓iw_t4_7, ↓iw_t4_8, ↓iw_t4_9, ↓iw_t4_10, pa]
    rw [decide_eq_false]
    rintro ⟨f, h, _⟩
    rw [q] at h; cases h
  | some f =>
    have pa : (dget ps (.inl (.inr a))).isSome = true := by rw [hps, q]; rfl
    have d1 := fun k => dxP_of (k := k) ((hps a).trans (by rw [q]; rfl))
    unfold famD at d1
    have ok := hf f (famF_mem q)
    have hg : GoodH fs a r c ↔ (r = Str.ofString "" ∨ r ∈ f.rs) ∧ ∀ n ∈ c.ns, n ∈ f.cs := ⟨fun ⟨g, h, k⟩ => by rw [q] at h; cases h; exact k, fun k => ⟨f, q, k⟩⟩
    have hni : ∀ k : SV → Prop, gP (gNotIn (.sh (.str r)) (.sh (.lst (f.rs.map D.str)))) k = k (.sh (.bl (!decide (D.str r ∈ f.rs.map D.str)))) := fun k => gNotIn_nb (x := .sh (.str r)) (y := .sh (.lst (f.rs.map D.str))) (n := 1) (.str hr.1) (strs_nb ok.rs) (by decide) (by decide) (.inr rfl)
    have hni2 : ∀ (n : Str), OkS n → ∀ k : SV → Prop, gP (gNotIn (.sh (.str n)) (.tr (.lst (f.cs.map D.str)))) k = k (.sh (.bl (!decide (D.str n ∈ f.cs.map D.str)))) := fun n hn k => gNotIn_nb (x := .sh (.str n)) (y := .tr (.lst (f.cs.map D.str))) (n := 1) (.str hn.1) (strs_nb ok.cs) (by decide) (by decide) (.inr rfl)
    have hcn := Cd.ok_ns hc
    have hen : decide (GoodH fs a r c) = decide ((r = Str.ofString "" ∨ r ∈ f.rs) ∧ ∀ n ∈ c.ns, n ∈ f.cs) := decide_eq_decide.mpr hg
    rw [hen]
    simp! only [sO, String.reduceEq, ↓iw_t1_0, ↓iw_t1_1, ↓iw_t1_2, ↓iw_t1_3, ↓iw_t1_4, ↓iw_t1_5, ↓iw_t1_6, ↓iw_t1_7, ↓iw_t1_8, ↓iw_t1_9, ↓iw_t1_10, ↓iw_t2_0, ↓iw_t2_1, ↓iw_t2_2, ↓iw_t2_3, ↓iw_t2_4, ↓iw_t2_5, ↓iw_t2_6, ↓iw_t2_7, ↓iw_t2_8, ↓iw_t2_9, ↓iw_t2_10, ↓iw_t3_0, ↓iw_t3_1, ↓iw_t3_2, ↓iw_t3_3, ↓iw_t3_4, ↓iw_t3_5, ↓iw_t3_6, ↓iw_t3_7, ↓iw_t3_8, ↓iw_t3_9, ↓iw_t3_10, ↓iw_t4_0, ↓iw_t4_1, ↓iw_t4_2, ↓iw_t4_3, ↓iw_t4_4, ↓iw_t4_5, ↓iw_t4_6, ↓iw_t4_7, ↓iw_t4_8, ↓iw_t4_9, ↓iw_t4_10, pa, ↓d1, ↓hni]
    refine ite_of (fun h => ite_of (fun h2 => ?_) (fun h2 => ?_)) (fun h => ?_)
    · rw [mem_strs] at h2
      rw [decide_eq_false (fun z => z.1.elim h h2)]
    all_goals
      have hr2 : r = Str.ofString "" ∨ r ∈ f.rs := by
        first
        | (rw [mem_strs, Classical.not_not] at h2; exact .inr h2)
        | exact .inl (Classical.not_not.mp h)
      clear hni
      refine ⟨rfl, ?_⟩
      refine comp_inv (fun j acc ρ => ρ = [some (.sh (planD fs)), some (.sh (.tup [.str "many", .str a, .str r, c.d, .str ">", .int 0])), some (.own (.dic 0 ps)), some (.sh (.tup [.str f.nm, .int 1, .lst (f.rs.map D.str), .lst (f.cs.map celD), .lst (f.os.map D.str), .lst []])), none, none, none, none] ∧ acc = (f.cs.take j).map D.str) ⟨rfl, rfl⟩ ?_ ?_
      · rintro j y acc _ hx ⟨rfl, rfl⟩
        rw [List.getElem?_map] at hx
        obtain ⟨n, hn, rfl⟩ := Option.map_eq_some_iff.mp hx
        have hlc := ok.lc
        unfold celD
        show putN _ _ _ _
        simp! only []
        refine ⟨by rw [List.length_map, List.length_take]; omega, rfl, ?_⟩
        rw [take_snoc hn, List.map_append]
        rfl
      rintro acc _ ⟨rfl, rfl⟩
      rw [List.length_map, List.take_length]
      show eN [some (.sh (planD fs)), some (.sh (.tup [.str "many", .str a, .str r, c.d, .str ">", .int 0])), some (.own (.dic 0 ps)), some (.sh (.tup [.str f.nm, .int 1, .lst (f.rs.map D.str), .lst (f.cs.map celD), .lst (f.os.map D.str), .lst []])), none, none, none, none] 4 (.own (.lst (f.cs.map D.str))) _
      simp! only [↓es]
      refine ⟨rfl, ?_⟩
      refine comp_inv (fun j acc ρ => ρ = [some (.sh (planD fs)), some (.sh (.tup [.str "many", .str a, .str r, c.d, .str ">", .int 0])), some (.own (.dic 0 ps)), some (.sh (.tup [.str f.nm, .int 1, .lst (f.rs.map D.str), .lst (f.cs.map celD), .lst (f.os.map D.str), .lst []])), some (.own (.lst (f.cs.map D.str))), none, none, none] ∧ acc = ((c.ns.take j).filter fun n => decide (n ∉ f.cs)).map D.str) ⟨rfl, rfl⟩ ?_ ?_
      · rintro j y acc _ hx ⟨rfl, rfl⟩
        rw [List.getElem?_map] at hx
        obtain ⟨n, hnn, rfl⟩ := Option.map_eq_some_iff.mp hx
        have hmem := List.mem_of_getElem? hnn
        have g2 := hni2 n (hcn n hmem)
        show putN _ _ _ _
        simp! only [↓g2]
        rw [take_snoc hnn, List.filter_append, List.map_append]
        refine ite_of (fun h3 => ?_) (fun h3 => ?_)
        · rw [mem_strs] at h3
          refine ⟨?_, rfl, ?_⟩
          · rw [List.length_map]
            have := List.length_filter_le (fun n => decide (n ∉ f.cs)) (c.ns.take j)
            have h1 : c.ns.length ≤ 1 := by cases c <;> simp [Cd.ns]
            rw [List.length_take] at this
            omega
          · rw [List.filter_cons, decide_eq_true h3]; rfl
        · rw [mem_strs] at h3
          rw [List.filter_cons, decide_eq_false h3]
          exact ⟨rfl, by simp⟩
      · rintro acc _ ⟨rfl, rfl⟩
        rw [List.length_map, List.take_length]
        have ge := fun k => gEq_nil (x := .own (.lst ((c.ns.filter fun n => decide (n ∉ f.cs)).map D.str))) (k := k) (n := 1) rfl (Fines.of fun d hd => by
          obtain ⟨n, hn, rfl⟩ := List.mem_map.mp hd
          exact .str (hcn n (List.mem_filter.mp hn).1).1) (by decide)
        have he : decide ((c.ns.filter fun n => decide (n ∉ f.cs)).map D.str = []) = decide ((r = Str.ofString "" ∨ r ∈ f.rs) ∧ ∀ n ∈ c.ns, n ∈ f.cs) := by
          rw [decide_eq_decide, List.map_eq_nil_iff, List.filter_eq_nil_iff]
          refine ⟨fun z => ⟨hr2, fun n hn => ?_⟩, fun z n hn => ?_⟩
          · have := z n hn
            simpa using this
          · simpa using z.2 n hn
        simp! only [↓ge]
        rw [he]
        exact ⟨rfl, rfl⟩
open Classical in
theorem gd_sk {m : Nat} {a r : Str} {c : Cd} (ha : OkS a) (hr : OkS r) (hc : c.ok) : m__law_good (m + 2) [.sh (planD fs), .sh (.tup [.str "some knows", .str a, .tup [.str "some", .str a, .str r, c.d]])] = .ok (.sh (.bl (@decide (GoodH fs a r c) (Classical.propDecidable _)))) [.sh (planD fs), .sh (.tup [.str "some knows", .str a, .tup [.str "some", .str a, .str r, c.d]])] := by
  suffices h : (m__law_good (m + 2) [.sh (planD fs), .sh (.tup [.str "some knows", .str a, .tup [.str "some", .str a, .str r, c.d]])]).wp (fun x bs => bs = [.sh (planD fs), .sh (.tup [.str "some knows", .str a, .tup [.str "some", .str a, .str r, c.d]])] ∧ x = .sh (.bl (@decide (GoodH fs a r c) (Classical.propDecidable _)))) fun _ _ => False by
    obtain ⟨x, s, h0, rfl, rfl⟩ := h.ok
    exact h0
  have sb := sizeLine_big
  unfold m__law_good b__law_good
  simp! only []
  refine known_of hn hl fun ps y3 hps => ?_
  have e1 := wp_eq (gd_so hf hn hl (m := m) ha hr hc)
  cases q : famF fs a with
  | none =>
    have pa : (dget ps (.inl (.inr a))).isSome = false := by rw [hps, q]; rfl
    simp! only [sO, String.reduceEq, ↓iw_t1_0, ↓iw_t1_1, ↓iw_t1_2, ↓iw_t1_3, ↓iw_t1_4, ↓iw_t1_5, ↓iw_t1_6, ↓iw_t1_7, ↓iw_t1_8, ↓iw_t1_9, ↓iw_t1_10, ↓iw_t2_0, ↓iw_t2_1, ↓iw_t2_2, ↓iw_t2_3, ↓iw_t2_4, ↓iw_t2_5, ↓iw_t2_6, ↓iw_t2_7, ↓iw_t2_8, ↓iw_t2_9, ↓iw_t2_10, ↓iw_t3_0, ↓iw_t3_1, ↓iw_t3_2, ↓iw_t3_3, ↓iw_t3_4, ↓iw_t3_5, ↓iw_t3_6, ↓iw_t3_7, ↓iw_t3_8, ↓iw_t3_9, ↓iw_t3_10, ↓iw_t4_0, ↓iw_t4_1, ↓iw_t4_2, ↓iw_t4_3, ↓iw_t4_4, ↓iw_t4_5, ↓iw_t4_6, ↓iw_t4_7, ↓iw_t4_8, ↓iw_t4_9, ↓iw_t4_10, pa]
    rw [decide_eq_false]
    rintro ⟨f, h, _⟩
    rw [q] at h; cases h
  | some f =>
    have pa : (dget ps (.inl (.inr a))).isSome = true := by rw [hps, q]; rfl
    simp! only [sO, String.reduceEq, ↓iw_t1_0, ↓iw_t1_1, ↓iw_t1_2, ↓iw_t1_3, ↓iw_t1_4, ↓iw_t1_5, ↓iw_t1_6, ↓iw_t1_7, ↓iw_t1_8, ↓iw_t1_9, ↓iw_t1_10, ↓iw_t2_0, ↓iw_t2_1, ↓iw_t2_2, ↓iw_t2_3, ↓iw_t2_4, ↓iw_t2_5, ↓iw_t2_6, ↓iw_t2_7, ↓iw_t2_8, ↓iw_t2_9, ↓iw_t2_10, ↓iw_t3_0, ↓iw_t3_1, ↓iw_t3_2, ↓iw_t3_3, ↓iw_t3_4, ↓iw_t3_5, ↓iw_t3_6, ↓iw_t3_7, ↓iw_t3_8, ↓iw_t3_9, ↓iw_t3_10, ↓iw_t4_0, ↓iw_t4_1, ↓iw_t4_2, ↓iw_t4_3, ↓iw_t4_4, ↓iw_t4_5, ↓iw_t4_6, ↓iw_t4_7, ↓iw_t4_8, ↓iw_t4_9, ↓iw_t4_10, pa, ↓e1]
open Classical in
theorem gd_ek {m : Nat} {a r : Str} {c : Cd} (ha : OkS a) (hr : OkS r) (hc : c.ok) : m__law_good (m + 2) [.sh (planD fs), .sh (.tup [.str "each knows", .str a, .tup [.str "some", .str a, .str r, c.d]])] = .ok (.sh (.bl (@decide (GoodH fs a r c) (Classical.propDecidable _)))) [.sh (planD fs), .sh (.tup [.str "each knows", .str a, .tup [.str "some", .str a, .str r, c.d]])] := by
  suffices h : (m__law_good (m + 2) [.sh (planD fs), .sh (.tup [.str "each knows", .str a, .tup [.str "some", .str a, .str r, c.d]])]).wp (fun x bs => bs = [.sh (planD fs), .sh (.tup [.str "each knows", .str a, .tup [.str "some", .str a, .str r, c.d]])] ∧ x = .sh (.bl (@decide (GoodH fs a r c) (Classical.propDecidable _)))) fun _ _ => False by
    obtain ⟨x, s, h0, rfl, rfl⟩ := h.ok
    exact h0
  have sb := sizeLine_big
  unfold m__law_good b__law_good
  simp! only []
  refine known_of hn hl fun ps y3 hps => ?_
  have e1 := wp_eq (gd_so hf hn hl (m := m) ha hr hc)
  cases q : famF fs a with
  | none =>
    have pa : (dget ps (.inl (.inr a))).isSome = false := by rw [hps, q]; rfl
    simp! only [sO, String.reduceEq, ↓iw_t1_0, ↓iw_t1_1, ↓iw_t1_2, ↓iw_t1_3, ↓iw_t1_4, ↓iw_t1_5, ↓iw_t1_6, ↓iw_t1_7, ↓iw_t1_8, ↓iw_t1_9, ↓iw_t1_10, ↓iw_t2_0, ↓iw_t2_1, ↓iw_t2_2, ↓iw_t2_3, ↓iw_t2_4, ↓iw_t2_5, ↓iw_t2_6, ↓iw_t2_7, ↓iw_t2_8, ↓iw_t2_9, ↓iw_t2_10, ↓iw_t3_0, ↓iw_t3_1, ↓iw_t3_2, ↓iw_t3_3, ↓iw_t3_4, ↓iw_t3_5, ↓iw_t3_6, ↓iw_t3_7, ↓iw_t3_8, ↓iw_t3_9, ↓iw_t3_10, ↓iw_t4_0, ↓iw_t4_1, ↓iw_t4_2, ↓iw_t4_3, ↓iw_t4_4, ↓iw_t4_5, ↓iw_t4_6, ↓iw_t4_7, ↓iw_t4_8, ↓iw_t4_9, ↓iw_t4_10, pa]
    rw [decide_eq_false]
    rintro ⟨f, h, _⟩
    rw [q] at h; cases h
  | some f =>
    have pa : (dget ps (.inl (.inr a))).isSome = true := by rw [hps, q]; rfl
    simp! only [sO, String.reduceEq, ↓iw_t1_0, ↓iw_t1_1, ↓iw_t1_2, ↓iw_t1_3, ↓iw_t1_4, ↓iw_t1_5, ↓iw_t1_6, ↓iw_t1_7, ↓iw_t1_8, ↓iw_t1_9, ↓iw_t1_10, ↓iw_t2_0, ↓iw_t2_1, ↓iw_t2_2, ↓iw_t2_3, ↓iw_t2_4, ↓iw_t2_5, ↓iw_t2_6, ↓iw_t2_7, ↓iw_t2_8, ↓iw_t2_9, ↓iw_t2_10, ↓iw_t3_0, ↓iw_t3_1, ↓iw_t3_2, ↓iw_t3_3, ↓iw_t3_4, ↓iw_t3_5, ↓iw_t3_6, ↓iw_t3_7, ↓iw_t3_8, ↓iw_t3_9, ↓iw_t3_10, ↓iw_t4_0, ↓iw_t4_1, ↓iw_t4_2, ↓iw_t4_3, ↓iw_t4_4, ↓iw_t4_5, ↓iw_t4_6, ↓iw_t4_7, ↓iw_t4_8, ↓iw_t4_9, ↓iw_t4_10, pa, ↓e1]
open Classical in
theorem gd_pt {m : Nat} {p : Pt} (hp : p.ok) : m__law_good (m + 2) [.sh (planD fs), .sh p.d] = .ok (.sh (.bl (decide (p.good fs)))) [.sh (planD fs), .sh p.d] := by
  cases p with
  | lt a b m2 => exact gd_lt hf hn hl (m := m + 1)
  | tr => exact gd_tr hf hn hl (m := m + 1)
  | dry => exact gd_dry hf hn hl (m := m + 1)
  | so a r c => exact gd_so hf hn hl (m := m + 1) hp.1 hp.2.1 hp.2.2
  | al a r c => exact gd_al hf hn hl (m := m + 1) hp.1 hp.2.1 hp.2.2
  | mn a r c => exact gd_mn hf hn hl (m := m + 1) hp.1 hp.2.1 hp.2.2
  | sk a r c => exact gd_sk hf hn hl hp.1 hp.2.1 hp.2.2
  | ek a r c => exact gd_ek hf hn hl hp.1 hp.2.1 hp.2.2
open Classical in
theorem gd_not {m : Nat} {p : Pt} (hp : p.ok) : m__law_good (m + 3) [.sh (planD fs), .sh (.tup [.str "not", p.d])] = .ok (.sh (.bl (@decide (p.good fs) (Classical.propDecidable _)))) [.sh (planD fs), .sh (.tup [.str "not", p.d])] := by
  suffices h : (m__law_good (m + 3) [.sh (planD fs), .sh (.tup [.str "not", p.d])]).wp (fun x bs => bs = [.sh (planD fs), .sh (.tup [.str "not", p.d])] ∧ x = .sh (.bl (@decide (p.good fs) (Classical.propDecidable _)))) fun _ _ => False by
    obtain ⟨x, s, h0, rfl, rfl⟩ := h.ok
    exact h0
  have sb := sizeLine_big
  unfold m__law_good b__law_good
  simp! only []
  refine known_of hn hl fun ps y3 hps => ?_
  simp! only [sO, String.reduceEq, ↓iw_t1_0, ↓iw_t1_1, ↓iw_t1_2, ↓iw_t1_3, ↓iw_t1_4, ↓iw_t1_5, ↓iw_t1_6, ↓iw_t1_7, ↓iw_t1_8, ↓iw_t1_9, ↓iw_t1_10, ↓iw_t2_0, ↓iw_t2_1, ↓iw_t2_2, ↓iw_t2_3, ↓iw_t2_4, ↓iw_t2_5, ↓iw_t2_6, ↓iw_t2_7, ↓iw_t2_8, ↓iw_t2_9, ↓iw_t2_10, ↓iw_t3_0, ↓iw_t3_1, ↓iw_t3_2, ↓iw_t3_3, ↓iw_t3_4, ↓iw_t3_5, ↓iw_t3_6, ↓iw_t3_7, ↓iw_t3_8, ↓iw_t3_9, ↓iw_t3_10, ↓iw_t4_0, ↓iw_t4_1, ↓iw_t4_2, ↓iw_t4_3, ↓iw_t4_4, ↓iw_t4_5, ↓iw_t4_6, ↓iw_t4_7, ↓iw_t4_8, ↓iw_t4_9, ↓iw_t4_10, cut1]
  refine ⟨by cases y3 <;> rfl, ?_⟩
  refine goods_of (xs := [p]) (dd := Pt.d) (g := fun x => x.good fs) (fun x hx => gd_pt hf hn hl (m := m) (by
    simp only [List.mem_cons, List.not_mem_nil, or_false] at hx
    subst hx; exact hp)) (by simp) ?_
  have gn := fun k => nin_goods (xs := [p]) (g := fun x => x.good fs) (k := k) (o := .own (.lst ([p].map fun x => .bl (decide (x.good fs))))) rfl
  simp only [↓gn]
  have he : decide (∀ x ∈ [p], x.good fs) = @decide (p.good fs) (Classical.propDecidable _) := by
    rw [decide_eq_decide]
    simp
  rw [he]
  exact ⟨rfl, rfl, rfl, rfl⟩
open Classical in
theorem gd_an {m : Nat} {p q : Pt} (hp : p.ok) (hq : q.ok) : m__law_good (m + 3) [.sh (planD fs), .sh (.tup [.str "and", p.d, q.d])] = .ok (.sh (.bl (@decide (p.good fs ∧ q.good fs) (Classical.propDecidable _)))) [.sh (planD fs), .sh (.tup [.str "and", p.d, q.d])] := by
  suffices h : (m__law_good (m + 3) [.sh (planD fs), .sh (.tup [.str "and", p.d, q.d])]).wp (fun x bs => bs = [.sh (planD fs), .sh (.tup [.str "and", p.d, q.d])] ∧ x = .sh (.bl (@decide (p.good fs ∧ q.good fs) (Classical.propDecidable _)))) fun _ _ => False by
    obtain ⟨x, s, h0, rfl, rfl⟩ := h.ok
    exact h0
  have sb := sizeLine_big
  unfold m__law_good b__law_good
  simp! only []
  refine known_of hn hl fun ps y3 hps => ?_
  simp! only [sO, String.reduceEq, ↓iw_t1_0, ↓iw_t1_1, ↓iw_t1_2, ↓iw_t1_3, ↓iw_t1_4, ↓iw_t1_5, ↓iw_t1_6, ↓iw_t1_7, ↓iw_t1_8, ↓iw_t1_9, ↓iw_t1_10, ↓iw_t2_0, ↓iw_t2_1, ↓iw_t2_2, ↓iw_t2_3, ↓iw_t2_4, ↓iw_t2_5, ↓iw_t2_6, ↓iw_t2_7, ↓iw_t2_8, ↓iw_t2_9, ↓iw_t2_10, ↓iw_t3_0, ↓iw_t3_1, ↓iw_t3_2, ↓iw_t3_3, ↓iw_t3_4, ↓iw_t3_5, ↓iw_t3_6, ↓iw_t3_7, ↓iw_t3_8, ↓iw_t3_9, ↓iw_t3_10, ↓iw_t4_0, ↓iw_t4_1, ↓iw_t4_2, ↓iw_t4_3, ↓iw_t4_4, ↓iw_t4_5, ↓iw_t4_6, ↓iw_t4_7, ↓iw_t4_8, ↓iw_t4_9, ↓iw_t4_10, cut1]
  refine ⟨by cases y3 <;> rfl, ?_⟩
  refine goods_of (xs := [p, q]) (dd := Pt.d) (g := fun x => x.good fs) (fun x hx => gd_pt hf hn hl (m := m) (by
    simp only [List.mem_cons, List.not_mem_nil, or_false] at hx
    exact hx.elim (fun e => e ▸ hp) (fun e => e ▸ hq))) (by simp) ?_
  have gn := fun k => nin_goods (xs := [p, q]) (g := fun x => x.good fs) (k := k) (o := .own (.lst ([p, q].map fun x => .bl (decide (x.good fs))))) rfl
  simp only [↓gn]
  have he : decide (∀ x ∈ [p, q], x.good fs) = @decide (p.good fs ∧ q.good fs) (Classical.propDecidable _) := by
    rw [decide_eq_decide]
    simp
  rw [he]
  exact ⟨rfl, rfl, rfl, rfl⟩
open Classical in
theorem gd_or {m : Nat} {p q : Pt} (hp : p.ok) (hq : q.ok) : m__law_good (m + 3) [.sh (planD fs), .sh (.tup [.str "or", p.d, q.d])] = .ok (.sh (.bl (@decide (p.good fs ∧ q.good fs) (Classical.propDecidable _)))) [.sh (planD fs), .sh (.tup [.str "or", p.d, q.d])] := by
  suffices h : (m__law_good (m + 3) [.sh (planD fs), .sh (.tup [.str "or", p.d, q.d])]).wp (fun x bs => bs = [.sh (planD fs), .sh (.tup [.str "or", p.d, q.d])] ∧ x = .sh (.bl (@decide (p.good fs ∧ q.good fs) (Classical.propDecidable _)))) fun _ _ => False by
    obtain ⟨x, s, h0, rfl, rfl⟩ := h.ok
    exact h0
  have sb := sizeLine_big
  unfold m__law_good b__law_good
  simp! only []
  refine known_of hn hl fun ps y3 hps => ?_
  simp! only [sO, String.reduceEq, ↓iw_t1_0, ↓iw_t1_1, ↓iw_t1_2, ↓iw_t1_3, ↓iw_t1_4, ↓iw_t1_5, ↓iw_t1_6, ↓iw_t1_7, ↓iw_t1_8, ↓iw_t1_9, ↓iw_t1_10, ↓iw_t2_0, ↓iw_t2_1, ↓iw_t2_2, ↓iw_t2_3, ↓iw_t2_4, ↓iw_t2_5, ↓iw_t2_6, ↓iw_t2_7, ↓iw_t2_8, ↓iw_t2_9, ↓iw_t2_10, ↓iw_t3_0, ↓iw_t3_1, ↓iw_t3_2, ↓iw_t3_3, ↓iw_t3_4, ↓iw_t3_5, ↓iw_t3_6, ↓iw_t3_7, ↓iw_t3_8, ↓iw_t3_9, ↓iw_t3_10, ↓iw_t4_0, ↓iw_t4_1, ↓iw_t4_2, ↓iw_t4_3, ↓iw_t4_4, ↓iw_t4_5, ↓iw_t4_6, ↓iw_t4_7, ↓iw_t4_8, ↓iw_t4_9, ↓iw_t4_10, cut1]
  refine ⟨by cases y3 <;> rfl, ?_⟩
  refine goods_of (xs := [p, q]) (dd := Pt.d) (g := fun x => x.good fs) (fun x hx => gd_pt hf hn hl (m := m) (by
    simp only [List.mem_cons, List.not_mem_nil, or_false] at hx
    exact hx.elim (fun e => e ▸ hp) (fun e => e ▸ hq))) (by simp) ?_
  have gn := fun k => nin_goods (xs := [p, q]) (g := fun x => x.good fs) (k := k) (o := .own (.lst ([p, q].map fun x => .bl (decide (x.good fs))))) rfl
  simp only [↓gn]
  have he : decide (∀ x ∈ [p, q], x.good fs) = @decide (p.good fs ∧ q.good fs) (Classical.propDecidable _) := by
    rw [decide_eq_decide]
    simp
  rw [he]
  exact ⟨rfl, rfl, rfl, rfl⟩
open Classical in
theorem gd_fa {m : Nat} {p : Fa} (hp : p.ok) : m__law_good (m + 3) [.sh (planD fs), .sh p.d] = .ok (.sh (.bl (decide (p.good fs)))) [.sh (planD fs), .sh p.d] := by
  cases p with
  | pt p => exact gd_pt hf hn hl (m := m + 1) hp
  | not p => exact gd_not hf hn hl hp
  | an p q => exact gd_an hf hn hl hp.1 hp.2
  | or p q => exact gd_or hf hn hl hp.1 hp.2
end
end K93

namespace K93
open PySem R
def sayD (w : Str) (fas : List Fa) : D := .tup (.str w :: fas.map Fa.d)
theorem pb6 {a b c d e f : Option SV} : putBack [a, b, c, d, e, f] [a, b, c, d, e, f] (Tg.nm 5).slots = [a, b, c, d, e, f] := rfl
theorem tup8 {a b c d e f g h : D} {k : SV → Prop} : gP (gTupX [.sh a, .sh b, .sh c, .sh d, .sh e, .sh f, .sh g, .sh h]) k = k (.sh (.tup [a, b, c, d, e, f, g, h])) := rfl
theorem isx8 {k : SV → Prop} : gP (gIsx xT [.sh (.exn "NoFact" []), .sh (.tup [.cls "NoDeed", .cls "NoLine", .cls "NoPlan", .cls "NoRow", .cls "NoText", .cls "NotPossible", .cls "NoThing", .cls "TooMany"])]) k = k (.sh (.bl false)) := rfl
section
variable {fs : List Fam} (hf : ∀ f ∈ fs, FamOk f) (hn : (fs.map Fam.nm).Nodup) (hl : fs.length ≤ 2) {w : Str} {fas : List Fa} (ho : ∀ f ∈ fas, f.ok) (hfl : fas.length ≤ 10)
include hf ho
theorem saying_chk : Chk (m_check_saying [.sh (planD fs), .sh (sayD w fas)]) [.sh (planD fs), .sh (sayD w fas)] (∀ f ∈ fas, f.good fs) := by
  unfold Chk m_check_saying b_check_saying sayD
  simp! only []
  refine forK_of ?_
  simp! only [cut1]
  refine for_inv (fun i ρ => ∃ y2 : Option D, ρ = [some (.sh (planD fs)), some (.sh (.tup (.str w :: fas.map Fa.d))), (y2.map SV.sh)] ∧ ∀ f ∈ fas.take i, f.good fs) ⟨none, rfl, (fun f h => by simp at h)⟩ ?_ ?_
  · rintro i x _ hx ⟨y2, rfl, hg⟩
    rw [List.getElem?_map] at hx
    obtain ⟨f, hx2, rfl⟩ := Option.map_eq_some_iff.mp hx
    have hm := List.mem_of_getElem? hx2
    have e := (ck_fa hf (m := 57) (ho f hm)).eq
    show putN _ _ _ _
    by_cases g : f.good fs
    · rw [if_pos g] at e
      have e := wp_eq e
      simp! only [↓e]
      refine ⟨some _, rfl, fun h hh => ?_⟩
      rw [take_snoc hx2] at hh
      rcases List.mem_append.mp hh with hh | hh
      · exact hg h hh
      · rw [List.mem_singleton] at hh; rw [hh]; exact g
    · rw [if_neg g] at e
      have e := wp_eqx e
      simp! only [↓e]
      exact fun z => g (z f hm)
  · rintro _ ⟨y2, rfl, hg⟩
    rw [List.length_map, List.take_length] at hg
    simp! only []
    exact hg
include hn hl hfl
open Classical in
theorem right_spec : m__law_right [.sh (planD fs), .sh (sayD w fas)] = .ok (.sh (.bl true)) [.sh (planD fs), .sh (sayD w fas)] := by
  suffices h : (m__law_right [.sh (planD fs), .sh (sayD w fas)]).wp (fun x bs => bs = [.sh (planD fs), .sh (sayD w fas)] ∧ x = .sh (.bl true)) fun _ _ => False by
    obtain ⟨x, s, h0, rfl, rfl⟩ := h.ok
    exact h0
  have e := (saying_chk hf (w := w) ho).eq
  have gn := fun k => nin_goods (xs := fas) (g := fun f => f.good fs) (k := k) (o := .own (.lst (fas.map fun f => .bl (decide (f.good fs))))) rfl
  unfold m__law_right b__law_right
  by_cases g : ∀ f ∈ fas, f.good fs
  · rw [if_pos g] at e
    have e := wp_eq e
    rw [decide_eq_true g] at gn
    unfold sayD at e ⊢
    simp! only [↓e, cut1]
    refine ⟨rfl, ?_⟩
    refine goods_of (xs := fas) (dd := Fa.d) (g := fun f => f.good fs) (fun f hf' => gd_fa hf hn hl (m := 57) (ho f hf')) hfl ?_
    simp only [pb6]
    simp! only [↓gn, pb6]
  · rw [if_neg g] at e
    have e := wp_eqx e
    rw [decide_eq_false g] at gn
    unfold sayD at e ⊢
    have x5 := fun k => axP_of (T := xT) (C := "NoFact") (d := .cls "NoFact") (b := true) (k := k) rfl
    have x6 := fun k => axP_of (T := xT) (C := "NoFact") (d := .ty "ValueError") (b := true) (k := k) rfl
    simp! only [↓e, cut1]
    refine ⟨rfl, ?_⟩
    refine goods_of (xs := fas) (dd := Fa.d) (g := fun f => f.good fs) (fun f hf' => gd_fa hf hn hl (m := 57) (ho f hf')) hfl ?_
    simp only [pb6]
    simp! only [↓gn, pb6, ↓tup8, ↓isx8, ↓x5, ↓x6]
end
end K93

namespace K93
open PySem R
def itS : Str := Str.ofString "it"
section
variable {fs : List Fam} (hf : ∀ f ∈ fs, FamOk f) (h1 : 1 ≤ fs.length) (hl : fs.length ≤ 2) {names : List Str} (hnl : names.length = 12) (hno : ∀ s ∈ names, OkS s)
include hf h1 hl hnl hno
theorem name_of_spec (c j : Int) (hj : 0 ≤ j) (hj2 : j < 900) {kind fam : Str} (hk : kind = Str.ofString "family" ∨ kind = Str.ofString "room" ∨ kind = Str.ofString "cell") :
    ∃ s, OkS s ∧ m__law_name_of [.sh (planD fs), .bo (.lst (names.map D.str)), .sh (.int c), .sh (.int j), .sh (.str kind), .sh (.str fam)] = .ok (.sh (.str s)) [.sh (planD fs), .bo (.lst (names.map D.str)), .sh (.int c), .sh (.int j), .sh (.str kind), .sh (.str fam)] := by
  suffices h : (m__law_name_of [.sh (planD fs), .bo (.lst (names.map D.str)), .sh (.int c), .sh (.int j), .sh (.str kind), .sh (.str fam)]).wp (fun x bs => bs = [.sh (planD fs), .bo (.lst (names.map D.str)), .sh (.int c), .sh (.int j), .sh (.str kind), .sh (.str fam)] ∧ ∃ s, OkS s ∧ x = .sh (.str s)) fun _ _ => False by
    obtain ⟨x, s, h0, rfl, s, hs, rfl⟩ := h.ok
    exact ⟨s, hs, h0⟩
  have sb := sizeLine_big
  obtain ⟨m1, h10, e1⟩ := mix_spec c j hj (by omega)
  obtain ⟨m2, h20, e2⟩ := mix_spec c (j + 1) (by omega) (by omega)
  have e1 := wp_eq e1
  have e2 := wp_eq e2
  unfold m__law_name_of b__law_name_of
  simp! only []
  refine forK_of ?_
  unfold planD
  simp! only []
  refine for_inv (fun i ρ => ∃ (ps : List (DKey × D)) (y7 : Option D), ρ = [some (.sh (planD fs)), some (.bo (.lst (names.map D.str))), some (.sh (.int c)), some (.sh (.int j)), some (.sh (.str kind)), some (.sh (.str fam)), some (.own (.dic 0 ps)), (y7.map SV.sh), none, none] ∧ (ps = [] ∨ ∃ f ∈ fs, ps = dputs [] [(.inl (.inr "room"), .lst (f.rs.map D.str)), (.inl (.inr "cell"), .lst (f.cs.map D.str))])) ⟨[], none, rfl, .inl rfl⟩ ?_ ?_
  · rintro i x _ hx ⟨ps, y7, rfl, hps⟩
    rw [List.getElem?_map] at hx
    obtain ⟨f, hx2, rfl⟩ := Option.map_eq_some_iff.mp hx
    have hfm := List.mem_of_getElem? hx2
    have ok := hf f hfm
    show putN _ _ _ _
    unfold famD
    simp! only []
    refine ite_of (fun h => ?_) (fun h => ⟨ps, some _, rfl, hps⟩)
    refine ⟨rfl, ?_⟩
    refine comp_inv (fun j' acc ρ => ρ = [some (.sh (planD fs)), some (.bo (.lst (names.map D.str))), some (.sh (.int c)), some (.sh (.int j)), some (.sh (.str kind)), some (.sh (.str fam)), some (.own (.dic 0 ps)), some (.sh (.tup [.str f.nm, .int 1, .lst (f.rs.map D.str), .lst (f.cs.map celD), .lst (f.os.map D.str), .lst []])), none, none] ∧ acc = (f.cs.take j').map D.str) ⟨rfl, rfl⟩ ?_ ?_
    · rintro j' y acc _ hx ⟨rfl, rfl⟩
      rw [List.getElem?_map] at hx
      obtain ⟨n, hn, rfl⟩ := Option.map_eq_some_iff.mp hx
      have hlc := ok.lc
      unfold celD
      show putN _ _ _ _
      simp! only []
      refine ⟨by rw [List.length_map, List.length_take]; omega, rfl, ?_⟩
      rw [take_snoc hn, List.map_append]
      rfl
    · rintro acc _ ⟨rfl, rfl⟩
      rw [List.length_map, List.take_length]
      refine ⟨by show 2 ≤ 15; decide, ?_⟩
      show eN [some (.sh (planD fs)), some (.bo (.lst (names.map D.str))), some (.sh (.int c)), some (.sh (.int j)), some (.sh (.str kind)), some (.sh (.str fam)), some (.own (.dic 0 ps)), some (.sh (.tup [.str f.nm, .int 1, .lst (f.rs.map D.str), .lst (f.cs.map celD), .lst (f.os.map D.str), .lst []])), none, none] 6 (.own (.dic 0 (dputs [] [(.inl (.inr "room"), .lst (f.rs.map D.str)), (.inl (.inr "cell"), .lst (f.cs.map D.str))]))) _
      simp! only []
      exact ⟨_, some _, rfl, .inr ⟨f, hfm, rfl⟩⟩
  · rintro _ ⟨ps, y7, rfl, hps⟩
    refine compK_of (fun ds ρ => ds = fs.map famD ∧ ρ = [some (.sh (planD fs)), some (.bo (.lst (names.map D.str))), some (.sh (.int c)), some (.sh (.int j)), some (.sh (.str kind)), some (.sh (.str fam)), some (.own (.dic 0 ps)), (y7.map SV.sh), none, none]) (fun acc ρ => acc = (fs.map Fam.nm).map D.str ∧ ρ = [some (.sh (planD fs)), some (.bo (.lst (names.map D.str))), some (.sh (.int c)), some (.sh (.int j)), some (.sh (.str kind)), some (.sh (.str fam)), some (.own (.dic 0 ps)), (y7.map SV.sh), none, none]) ?_ ?_ ?_
    · unfold planD
      simp! only []
    · rintro ds _ ⟨rfl, rfl⟩
      refine ⟨by cases y7 <;> rfl, ?_⟩
      refine comp_inv (fun j' acc ρ => ρ = [some (.sh (planD fs)), some (.bo (.lst (names.map D.str))), some (.sh (.int c)), some (.sh (.int j)), some (.sh (.str kind)), some (.sh (.str fam)), some (.own (.dic 0 ps)), none, none, none] ∧ acc = ((fs.take j').map Fam.nm).map D.str) ⟨by cases y7 <;> rfl, rfl⟩ ?_ ?_
      · rintro j' y acc _ hx ⟨rfl, rfl⟩
        rw [List.getElem?_map] at hx
        obtain ⟨f, hx2, rfl⟩ := Option.map_eq_some_iff.mp hx
        show putN _ _ _ _
        unfold famD
        simp! only []
        refine ⟨by rw [List.length_map, List.length_map, List.length_take]; omega, rfl, ?_⟩
        rw [take_snoc hx2, List.map_append, List.map_append]
        rfl
      · rintro acc _ ⟨rfl, rfl⟩
        rw [List.length_map, List.take_length]
        exact ⟨rfl, by cases y7 <;> rfl⟩
    rintro _ _ ⟨rfl, rfl⟩
    simp! only []
    refine cutK_of (fun ρ => ∃ (ss : List Str) (x8 : SV), ρ = [some (.sh (planD fs)), some (.bo (.lst (names.map D.str))), some (.sh (.int c)), some (.sh (.int j)), some (.sh (.str kind)), some (.sh (.str fam)), some (.own (.dic 0 ps)), (y7.map SV.sh), some x8, none] ∧ (x8 = .own (.lst (ss.map D.str)) ∨ x8 = .sh (.lst (ss.map D.str))) ∧ (∀ s ∈ ss, OkS s)) ?_ ?_
    · simp! only []
      refine ite_of (fun h => ?_) (fun h => ⟨_, _, rfl, .inl rfl, fun s hs => ?_⟩)
      · have hd : ∃ o, dget ps (.inl (.inr kind)) = o ∧ (o = none ∨ ∃ ss : List Str, o = some (.lst (ss.map D.str)) ∧ ∀ s ∈ ss, OkS s) := by
          refine ⟨_, rfl, ?_⟩
          rcases hps with rfl | ⟨f, hfm, rfl⟩
          · exact .inl rfl
          · have ok := hf f hfm
            rcases hk with rfl | rfl | rfl
            · exact absurd rfl h
            · exact .inr ⟨f.rs, rfl, ok.rs⟩
            · exact .inr ⟨f.cs, rfl, ok.cs⟩
        obtain ⟨o, ho, hd⟩ := hd
        rw [ho]
        rcases hd with rfl | ⟨ss, rfl, hss⟩
        · simp! only [dgP_none]
          exact ⟨[], _, rfl, .inr rfl, fun s hs => by cases hs⟩
        · simp! only [dgP_some]
          exact ⟨ss, _, rfl, .inr rfl, hss⟩
      · obtain ⟨f, hfm, rfl⟩ := List.mem_map.mp hs
        exact (hf f hfm).nm
    · rintro _ ⟨ss, x8, rfl, hx8, hss⟩
      have hsf : Fines 1 (ss.map D.str) := Fines.of fun d hd => by
        obtain ⟨s, hs, rfl⟩ := List.mem_map.mp hd
        exact .str (hss s hs).1
      simp! only []
      refine cutK_of (fun ρ => ∃ (ss : List Str) (x8 : SV), ρ = [some (.sh (planD fs)), some (.bo (.lst (names.map D.str))), some (.sh (.int c)), some (.sh (.int j)), some (.sh (.str kind)), some (.sh (.str fam)), some (.own (.dic 0 ps)), (y7.map SV.sh), some x8, none] ∧ (x8 = .own (.lst (ss.map D.str)) ∨ x8 = .sh (.lst (ss.map D.str))) ∧ (∀ s ∈ ss, OkS s) ∧ ss ≠ []) ?_ ?_
      · have ge1 := fun k => gEq_nil (x := .tr (.lst (ss.map D.str))) (k := k) (n := 1) rfl hsf (by decide)
        have ge2 := fun k => gEq_nil (x := .sh (.lst (ss.map D.str))) (k := k) (n := 1) rfl hsf (by decide)
        have hit : ∀ s ∈ names ++ [itS], OkS s := fun s hs => by
          rcases List.mem_append.mp hs with hs | hs
          · exact hno s hs
          · rw [List.mem_singleton] at hs; subst hs; exact ⟨by decide +kernel, by decide +kernel⟩
        have hne : names ++ [itS] ≠ [] := by simp
        have hex : ∀ x8 : SV, x8 = .own (.lst (names.map D.str ++ [.str "it"])) → ∃ (ss : List Str) (x : SV), [some (.sh (planD fs)), some (.bo (.lst (names.map D.str))), some (.sh (.int c)), some (.sh (.int j)), some (.sh (.str kind)), some (.sh (.str fam)), some (.own (.dic 0 ps)), (y7.map SV.sh), some x8, none] = [some (.sh (planD fs)), some (.bo (.lst (names.map D.str))), some (.sh (.int c)), some (.sh (.int j)), some (.sh (.str kind)), some (.sh (.str fam)), some (.own (.dic 0 ps)), (y7.map SV.sh), some x, none] ∧ (x = .own (.lst (ss.map D.str)) ∨ x = .sh (.lst (ss.map D.str))) ∧ (∀ s ∈ ss, OkS s) ∧ ss ≠ [] := fun x8 e => ⟨names ++ [itS], x8, rfl, .inl (by rw [e, List.map_append]; rfl), hit, hne⟩
        rcases hx8 with rfl | rfl
        all_goals
          simp! only [↓e1, ↓ge1, ↓ge2]
          refine ⟨cMod_of (by decide), ?_⟩
          refine ite_of (fun h => ⟨by rw [List.length_map]; simp; omega, hex _ rfl⟩) (fun h => ite_of (fun h2 => ⟨by rw [List.length_map]; simp; omega, hex _ rfl⟩) (fun h2 => ⟨ss, _, rfl, by first | exact .inl rfl | exact .inr rfl, hss, fun e => h2 (by rw [e]; rfl)⟩))
      · rintro _ ⟨ss, x8, rfl, hx8, hss, hne⟩
        have hpos : 0 < ss.length := List.length_pos_iff.mpr hne
        rcases hx8 with rfl | rfl
        all_goals
          simp! only [↓e2]
          rw [List.length_map]
          refine ⟨cMod_of (by omega), ix_mid (Int.emod_nonneg _ (by omega)) (by rw [List.length_map]; exact Int.emod_lt_of_pos _ (by omega)) fun d hd => ?_⟩
          rw [List.getElem?_map] at hd
          obtain ⟨s, hs, rfl⟩ := Option.map_eq_some_iff.mp hd
          simp! only []
          exact ⟨s, hss s (List.mem_of_getElem? hs), rfl⟩
end
end K93

namespace K93
open PySem R
theorem ok_nil : OkS (Str.ofString "") := ⟨by decide +kernel, by decide +kernel⟩
section
variable {fs : List Fam} (hf : ∀ f ∈ fs, FamOk f) (h1 : 1 ≤ fs.length) (hl : fs.length ≤ 2) {names : List Str} (hnl : names.length = 12) (hno : ∀ s ∈ names, OkS s)
include hf h1 hl hnl hno
theorem part_spec (c j : Int) (hj : 0 ≤ j) (hj2 : j < 800) : ∃ p : Pt, p.ok ∧ m__law_part [.sh (planD fs), .bo (.lst (names.map D.str)), .sh (.int c), .sh (.int j)] = .ok (.sh p.d) [.sh (planD fs), .bo (.lst (names.map D.str)), .sh (.int c), .sh (.int j)] := by
  suffices h : (m__law_part [.sh (planD fs), .bo (.lst (names.map D.str)), .sh (.int c), .sh (.int j)]).wp (fun x bs => bs = [.sh (planD fs), .bo (.lst (names.map D.str)), .sh (.int c), .sh (.int j)] ∧ ∃ p : Pt, p.ok ∧ x = .sh p.d) fun _ _ => False by
    obtain ⟨x, s, h0, rfl, s, hs, rfl⟩ := h.ok
    exact ⟨s, hs, h0⟩
  have sb := sizeLine_big
  have nm := fun (j : Int) (h : 0 ≤ j) (h2 : j < 900) (fam : Str) => name_of_spec hf h1 hl hnl hno c j h h2 (kind := "family") (fam := fam) (.inl rfl)
  have nmr := fun (j : Int) (h : 0 ≤ j) (h2 : j < 900) (fam : Str) => name_of_spec hf h1 hl hnl hno c j h h2 (kind := "room") (fam := fam) (.inr (.inl rfl))
  have nmc := fun (j : Int) (h : 0 ≤ j) (h2 : j < 900) (fam : Str) => name_of_spec hf h1 hl hnl hno c j h h2 (kind := "cell") (fam := fam) (.inr (.inr rfl))
  obtain ⟨m0, h00, e0⟩ := mix_spec c j hj (by omega)
  obtain ⟨m5, h50, e5⟩ := mix_spec c (j + 5) (by omega) (by omega)
  obtain ⟨m6, h60, e6⟩ := mix_spec c (j + 6) (by omega) (by omega)
  obtain ⟨m9, h90, e9⟩ := mix_spec c (j + 9) (by omega) (by omega)
  obtain ⟨m12, h120, e12⟩ := mix_spec c (j + 12) (by omega) (by omega)
  obtain ⟨fam, hfam, ef⟩ := nm (j + 1) (by omega) (by omega) (Str.ofString "")
  obtain ⟨oth, hoth, eo⟩ := nm (j + 3) (by omega) (by omega) (Str.ofString "")
  obtain ⟨room, hroom, er⟩ := nmr (j + 7) (by omega) (by omega) fam
  obtain ⟨cel, hcel, ec⟩ := nmc (j + 10) (by omega) (by omega) fam
  have e0 := wp_eq e0
  have e5 := wp_eq e5
  have e6 := wp_eq e6
  have e9 := wp_eq e9
  have e12 := wp_eq e12
  have ef := wp_eq ef
  have eo := wp_eq eo
  have er := wp_eq er
  have ec := wp_eq ec
  clear nm nmr nmc
  unfold m__law_part b__law_part
  simp! only [↓e0, ↓ef, ↓eo, ↓e5]
  refine ⟨cMod_of (by decide), ?_⟩
  refine ite_of (fun h => ?_) (fun h => ?_)
  · refine ix_mid (by decide) (by rw [List.length_map, hnl]; decide) fun d hd => ?_
    rw [List.getElem?_map] at hd
    obtain ⟨mk, hmk, rfl⟩ := Option.map_eq_some_iff.mp hd
    have hmk := hno mk (List.mem_of_getElem? hmk)
    simp! only [↓e5]
    refine ⟨cMod_of (by decide), ix_mid (Int.emod_nonneg _ (by decide)) (Int.emod_lt_of_pos _ (by decide)) fun d hd => ?_⟩
    obtain ⟨m', rfl, hm'⟩ : ∃ m' : Str, d = .str m' ∧ OkS m' := by
      have := List.mem_of_getElem? hd
      simp only [List.mem_cons, List.not_mem_nil, or_false] at this
      rcases this with rfl | rfl
      · exact ⟨_, rfl, ok_nil⟩
      · exact ⟨_, rfl, hmk⟩
    simp! only []
    exact ⟨.lt fam oth m', ⟨hfam, hoth, hm'⟩, rfl⟩
  refine ite_of (fun h2 => ?_) (fun h2 => ?_)
  · refine ⟨cMod_of (by decide), ix_mid (Int.emod_nonneg _ (by decide)) (Int.emod_lt_of_pos _ (by decide)) fun d hd => ?_⟩
    have := List.mem_of_getElem? hd
    simp only [List.mem_cons, List.not_mem_nil, or_false] at this
    rcases this with rfl | rfl
    · simp! only []
      exact ⟨.tr, trivial, rfl⟩
    · simp! only []
      exact ⟨.dry, trivial, rfl⟩
  refine cutK_of (fun ρ => ∃ r : Str, OkS r ∧ ρ = [some (.sh (planD fs)), some (.bo (.lst (names.map D.str))), some (.sh (.int c)), some (.sh (.int j)), some (.sh (.int (m0 % 7))), some (.sh (.str fam)), none, some (.sh (.str r)), none, none, none]) ?_ ?_
  · simp! only [↓e6, ↓er]
    refine ⟨cMod_of (by decide), ite_of (fun h => ⟨room, hroom, rfl⟩) (fun h => ⟨_, ok_nil, rfl⟩)⟩
  rintro _ ⟨r, hr, rfl⟩
  simp! only []
  refine cutK_of (fun ρ => ∃ (cd : Cd) (z9 z10 : Option SV), cd.ok ∧ ρ = [some (.sh (planD fs)), some (.bo (.lst (names.map D.str))), some (.sh (.int c)), some (.sh (.int j)), some (.sh (.int (m0 % 7))), some (.sh (.str fam)), none, some (.sh (.str r)), some (.sh cd.d), z9, z10]) ?_ ?_
  · simp! only [↓e9, ↓ec, ↓e12]
    refine ⟨cMod_of (by decide), ite_of (fun h => ?_) (fun h => ⟨.tr, none, none, trivial, rfl⟩)⟩
    refine ⟨cMod_of (by decide), ix_mid (Int.emod_nonneg _ (by decide)) (Int.emod_lt_of_pos _ (by decide)) fun d hd => ?_⟩
    have := List.mem_of_getElem? hd
    simp only [List.mem_cons, List.not_mem_nil, or_false] at this
    rcases this with rfl | rfl | rfl
    · simp! only []
      exact ⟨.one cel, _, _, hcel, rfl⟩
    · simp! only []
      exact ⟨.nt cel, _, _, hcel, rfl⟩
    · simp! only []
      exact ⟨.or cel, _, _, hcel, rfl⟩
  rintro _ ⟨cd, z9, z10, hcd, rfl⟩
  simp! only []
  have hw : 0 ≤ m0 % 7 ∧ m0 % 7 < 7 := ⟨Int.emod_nonneg _ (by decide), Int.emod_lt_of_pos _ (by decide)⟩
  refine ite_of (fun h3 => ?_) (fun h3 => ite_of (fun h4 => ?_) (fun h4 => ?_))
  · refine ix_mid (by omega) (by show m0 % 7 - 2 < 2; omega) fun d hd => ?_
    have := List.mem_of_getElem? hd
    simp only [List.mem_cons, List.not_mem_nil, or_false] at this
    rcases this with rfl | rfl
    · simp! only []
      exact ⟨.so fam r cd, ⟨hfam, hr, hcd⟩, rfl⟩
    · simp! only []
      exact ⟨.al fam r cd, ⟨hfam, hr, hcd⟩, rfl⟩
  · exact ⟨.mn fam r cd, ⟨hfam, hr, hcd⟩, rfl⟩
  · refine ix_mid (by omega) (by show m0 % 7 - 5 < 2; omega) fun d hd => ?_
    have := List.mem_of_getElem? hd
    simp only [List.mem_cons, List.not_mem_nil, or_false] at this
    rcases this with rfl | rfl
    · simp! only []
      exact ⟨.sk fam r cd, ⟨hfam, hr, hcd⟩, rfl⟩
    · simp! only []
      exact ⟨.ek fam r cd, ⟨hfam, hr, hcd⟩, rfl⟩
theorem fact_spec (c j : Int) (hj : 0 ≤ j) (hj2 : j < 700) : ∃ p : Fa, p.ok ∧ m__law_fact [.sh (planD fs), .bo (.lst (names.map D.str)), .sh (.int c), .sh (.int j)] = .ok (.sh p.d) [.sh (planD fs), .bo (.lst (names.map D.str)), .sh (.int c), .sh (.int j)] := by
  suffices h : (m__law_fact [.sh (planD fs), .bo (.lst (names.map D.str)), .sh (.int c), .sh (.int j)]).wp (fun x bs => bs = [.sh (planD fs), .bo (.lst (names.map D.str)), .sh (.int c), .sh (.int j)] ∧ ∃ p : Fa, p.ok ∧ x = .sh p.d) fun _ _ => False by
    obtain ⟨x, s, h0, rfl, s, hs, rfl⟩ := h.ok
    exact ⟨s, hs, h0⟩
  obtain ⟨m0, h00, e0⟩ := mix_spec c j hj (by omega)
  obtain ⟨p, hp, ep⟩ := part_spec hf h1 hl hnl hno c (j + 1) (by omega) (by omega)
  obtain ⟨q, hq, eq⟩ := part_spec hf h1 hl hnl hno c (j + 20) (by omega) (by omega)
  have e0 := wp_eq e0
  have ep := wp_eq ep
  have eq := wp_eq eq
  have hw : 0 ≤ m0 % 5 ∧ m0 % 5 < 5 := ⟨Int.emod_nonneg _ (by decide), Int.emod_lt_of_pos _ (by decide)⟩
  unfold m__law_fact b__law_fact
  simp! only [↓e0, ↓ep, ↓eq]
  refine ⟨cMod_of (by decide), ite_of (fun h => ?_) (fun h => ite_of (fun h2 => ?_) (fun h2 => ?_))⟩
  · refine ix_mid (by omega) (by show m0 % 5 < 2; omega) fun d hd => ?_
    have := List.mem_of_getElem? hd
    simp only [List.mem_cons, List.not_mem_nil, or_false] at this
    rcases this with rfl | rfl
    · simp! only [↓eq]
      exact ⟨.an p q, ⟨hp, hq⟩, rfl⟩
    · simp! only [↓eq]
      exact ⟨.or p q, ⟨hp, hq⟩, rfl⟩
  · exact ⟨.not p, hp, rfl⟩
  · exact ⟨.pt p, hp, rfl⟩
theorem saying_spec (c : Int) : ∃ (w : Str) (fas : List Fa), OkS w ∧ fas.length ≤ 10 ∧ (∀ f ∈ fas, f.ok) ∧ m__law_saying [.sh (planD fs), .bo (.lst (names.map D.str)), .sh (.int c)] = .ok (.sh (sayD w fas)) [.sh (planD fs), .bo (.lst (names.map D.str)), .sh (.int c)] := by
  suffices h : (m__law_saying [.sh (planD fs), .bo (.lst (names.map D.str)), .sh (.int c)]).wp (fun x bs => bs = [.sh (planD fs), .bo (.lst (names.map D.str)), .sh (.int c)] ∧ ∃ (w : Str) (fas : List Fa), OkS w ∧ fas.length ≤ 10 ∧ (∀ f ∈ fas, f.ok) ∧ x = .sh (sayD w fas)) fun _ _ => False by
    obtain ⟨x, s, h0, rfl, w, fas, h1, h2, h3, rfl⟩ := h.ok
    exact ⟨w, fas, h1, h2, h3, h0⟩
  obtain ⟨m0, h00, e0⟩ := mix_spec c 1 (by decide) (by omega)
  obtain ⟨p, hp, ep⟩ := fact_spec hf h1 hl hnl hno c 10 (by omega) (by omega)
  obtain ⟨q, hq, eq⟩ := fact_spec hf h1 hl hnl hno c 60 (by omega) (by omega)
  have e0 := wp_eq e0
  have ep := wp_eq ep
  have eq := wp_eq eq
  unfold m__law_saying b__law_saying
  simp! only [↓e0, ↓ep, ↓eq]
  refine ⟨cMod_of (by decide), ix_mid (Int.emod_nonneg _ (by decide)) (Int.emod_lt_of_pos _ (by decide)) fun d hd => ?_⟩
  obtain ⟨w, rfl, hw⟩ : ∃ w : Str, d = .str w ∧ OkS w := by
    have := List.mem_of_getElem? hd
    simp only [List.mem_cons, List.not_mem_nil, or_false] at this
    rcases this with rfl | rfl | rfl | rfl | rfl | rfl <;> exact ⟨_, rfl, by decide +kernel, by decide +kernel⟩
  have hT : ∀ d ∈ [D.str "ahead", D.str "whenever"], Nb 1 d := fun d hd => by
    simp only [List.mem_cons, List.not_mem_nil, or_false] at hd
    rcases hd with rfl | rfl <;> exact .str (by decide +kernel)
  have gi := fun k => gIn_nb (n := 1) (m := 1) (x := .sh (.str w)) (y := .sh (.tup [.str "ahead", .str "whenever"])) (k := k) (.str hw.1) hT (by decide) (by decide) (.inl rfl)
  simp! only [↓ep, ↓eq, ↓gi]
  refine ite_of (fun h => ?_) (fun h => ?_)
  · exact ⟨w, [p, q], hw, by simp, fun f hf => by
      simp only [List.mem_cons, List.not_mem_nil, or_false] at hf
      rcases hf with rfl | rfl <;> assumption, rfl⟩
  · exact ⟨w, [p], hw, by simp, fun f hf => by
      simp only [List.mem_cons, List.not_mem_nil, or_false] at hf
      rcases hf with rfl; assumption, rfl⟩
end
end K93

namespace K93
open PySem R
theorem strs_fine {xs : List Str} (h : ∀ s ∈ xs, OkS s) : Fines 1 (xs.map D.str) := Fines.of fun d hd => (strs_nb h d hd).f
theorem Cd.fine {c : Cd} (h : c.ok) : Fine 5 c.d := by
  have one : ∀ n, OkS n → Fine 3 (oneD n) := fun n hn => .tup (.cons (.str (by decide +kernel)) (.cons (.str (by decide +kernel)) (.cons (.tup (.cons (.str (by decide +kernel)) (.cons (.tup (.cons (.str (by decide +kernel)) (.cons (.int _) .nil))) (.cons (.tup (.cons (.str (by decide +kernel)) (.cons (.str hn.1) .nil))) .nil)))) (.cons (.tup (.cons (.str (by decide +kernel)) (.cons (.int _) .nil))) .nil))))
  have tr : Fine 4 (.tup [.str "true"]) := .tup (.cons (.str (by decide +kernel)) .nil)
  cases c with
  | tr => exact tr.mono (by decide)
  | one n => exact (one n h).mono (by decide)
  | nt n => exact .tup (.cons (.str (by decide +kernel)) (.cons ((one n h).mono (by decide)) .nil))
  | or n => exact .tup (.cons (.str (by decide +kernel)) (.cons tr (.cons ((one n h).mono (by decide)) .nil)))
theorem Pt.fine {p : Pt} (h : p.ok) : Fine 8 p.d := by
  cases p with
  | lt a b m => exact .tup (.cons (.str (by decide +kernel)) (.cons (.str h.1.1) (.cons (.str h.2.1.1) (.cons (.str h.2.2.1) (.cons (.str (by decide +kernel)) (.cons (.int _) .nil))))))
  | tr => exact .tup (.cons (.str (by decide +kernel)) .nil)
  | dry => exact .tup (.cons (.str (by decide +kernel)) .nil)
  | so a r c => exact .tup (.cons (.str (by decide +kernel)) (.cons (.str h.1.1) (.cons (.str h.2.1.1) (.cons ((Cd.fine h.2.2).mono (by decide)) .nil))))
  | al a r c => exact .tup (.cons (.str (by decide +kernel)) (.cons (.str h.1.1) (.cons (.str h.2.1.1) (.cons ((Cd.fine h.2.2).mono (by decide)) .nil))))
  | mn a r c => exact .tup (.cons (.str (by decide +kernel)) (.cons (.str h.1.1) (.cons (.str h.2.1.1) (.cons ((Cd.fine h.2.2).mono (by decide)) (.cons (.str (by decide +kernel)) (.cons (.int _) .nil))))))
  | sk a r c => exact .tup (.cons (.str (by decide +kernel)) (.cons (.str h.1.1) (.cons (.tup (.cons (.str (by decide +kernel)) (.cons (.str h.1.1) (.cons (.str h.2.1.1) (.cons ((Cd.fine h.2.2).mono (by decide)) .nil))))) .nil)))
  | ek a r c => exact .tup (.cons (.str (by decide +kernel)) (.cons (.str h.1.1) (.cons (.tup (.cons (.str (by decide +kernel)) (.cons (.str h.1.1) (.cons (.str h.2.1.1) (.cons ((Cd.fine h.2.2).mono (by decide)) .nil))))) .nil)))
theorem Fa.fine {p : Fa} (h : p.ok) : Fine 9 p.d := by
  cases p with
  | pt p => exact (Pt.fine h).mono (by decide)
  | not p => exact .tup (.cons (.str (by decide +kernel)) (.cons (Pt.fine h) .nil))
  | an p q => exact .tup (.cons (.str (by decide +kernel)) (.cons (Pt.fine h.1) (.cons (Pt.fine h.2) .nil)))
  | or p q => exact .tup (.cons (.str (by decide +kernel)) (.cons (Pt.fine h.1) (.cons (Pt.fine h.2) .nil)))
theorem say_fine {w : Str} {fas : List Fa} (hw : OkS w) (h : ∀ f ∈ fas, f.ok) : Fine 10 (sayD w fas) := .tup (.cons (.str hw.1) (Fines.of fun d hd => by
  obtain ⟨f, hf, rfl⟩ := List.mem_map.mp hd
  exact Fa.fine (h f hf)))
theorem fam_fine {f : Fam} (h : FamOk f) : Fine 4 (famD f) := .tup (.cons (.str h.nm.1) (.cons (.int _) (.cons ((Fine.lst (strs_fine h.rs)).mono (by decide)) (.cons (.lst (Fines.of fun d hd => by
  obtain ⟨c, hc, rfl⟩ := List.mem_map.mp hd
  exact .tup (.cons (.str (h.cs c hc).1) (.cons (.int _) (.cons (.int _) (.cons (.int _) .nil))))))
  (.cons ((Fine.lst (strs_fine h.os)).mono (by decide)) (.cons (.lst .nil) .nil))))))
theorem plan_fine {fs : List Fam} (h : ∀ f ∈ fs, FamOk f) : Fine 6 (planD fs) := .tup (.cons (.lst (Fines.of fun d hd => by
  obtain ⟨f, hf, rfl⟩ := List.mem_map.mp hd
  exact fam_fine (h f hf))) (.cons (.lst .nil) (.cons (.lst .nil) .nil)))
theorem says : Says m_law := by
  intro ns hns
  have sb := sizeLine_big
  obtain ⟨cs, ecs, _, hcl⟩ := cutD_map D.int (xs := ns) (lo := none) (hi := some 40)
  obtain ⟨fs, h1, hl, hf, hn, ep⟩ := plan_spec (cs ++ [0]).sum
  obtain ⟨names, hnl, hno, _, en⟩ := names_spec (cs ++ [0]).sum
  have ep := wp_eq ep
  have en := wp_eq en
  have es := fun k => gsum_of (ns := cs ++ [0]) (k := k)
  rw [List.map_append] at es
  have es : ∀ k : SV → Prop, gP (gSum [.tr (.lst (cs.map D.int ++ [.int 0]))]) k = k (.sh (.int (cs ++ [0]).sum)) := es
  have gp : ∀ k : SV → Prop, gP (gNe (.sh (planD fs)) (.sh (planD fs))) k = k (.sh (.bl false)) := fun k => gNe_self (x := .sh (planD fs)) (plan_fine hf) rfl (by decide)
  suffices h : (m_law [.sh (.scr ns)]).wp (fun x bs => x = .sh (.bl true)) fun _ _ => False by
    obtain ⟨x, s, h0, rfl⟩ := h.ok
    exact ⟨s, h0⟩
  unfold m_law b_law
  simp! only []
  rw [ecs]
  simp! only [↓ep, ↓en, ↓es]
  refine ⟨by rw [List.length_map]; simp; omega, ?_⟩
  refine forK_of ?_
  simp! only []
  refine for_inv (fun i ρ => ∃ z5 z6 : Option SV, ρ = [some (.sh (.scr ns)), some (.sh (.lst (cs.map D.int ++ [.int 0]))), some (.sh (.int (cs ++ [0]).sum)), some (.sh (planD fs)), some (.own (.lst (names.map D.str))), z5, z6]) ⟨none, none, rfl⟩ ?_ ?_
  · rintro i x _ hx ⟨z5, z6, rfl⟩
    obtain ⟨c, rfl⟩ : ∃ c : Int, x = .int c := by
      have hm := List.mem_of_getElem? hx
      rcases List.mem_append.mp hm with h | h
      · obtain ⟨c, _, rfl⟩ := List.mem_map.mp h
        exact ⟨c, rfl⟩
      · rw [List.mem_singleton] at h; exact ⟨0, h⟩
    obtain ⟨w, fas, hw, hfl, hfo, ey⟩ := saying_spec hf h1 hl hnl hno c
    have ey := wp_eq ey
    have er := wp_eq (right_spec hf hn hl (w := w) hfo hfl)
    have gs : ∀ k : SV → Prop, gP (gNe (.sh (sayD w fas)) (.sh (sayD w fas))) k = k (.sh (.bl false)) := fun k => gNe_self (x := .sh (sayD w fas)) (say_fine hw hfo) rfl (by decide)
    show putN _ _ _ _
    simp! only [↓ey, ↓er, ↓ep, ↓gp, ↓gs]
    exact ⟨_, _, rfl⟩
  · rintro _ ⟨z5, z6, rfl⟩
    simp! only []
end K93

namespace K93
open PySem PySem.Spec PyProof.Rows L2 R
def topS (i : Nat) : Stmt := PySem.Challenge.pw_roadsall_k93_what_a_plan_has.main.body.getD i (.Pass ⟨0, 0, 0, 0⟩)
abbrev s__law_mix : Stmt := topS 19
abbrev N__law_mix : List Str := ["_law_cell", "_law_j", "_law_mixed"]
theorem sc__law_mix : FnScope N__law_mix ["_law_cell", "_law_j"] (defScope s__law_mix) := ⟨rfl, rfl, rfl, by decide +kernel, rfl, by decide +kernel, by decide +kernel⟩
abbrev s__law_names : Stmt := topS 20
abbrev N__law_names : List Str := ["_law_total", "_law_letters", "_law_start", "_law_tail", "_law_k"]
theorem sc__law_names : FnScope N__law_names ["_law_total"] (defScope s__law_names) := ⟨rfl, rfl, rfl, by decide +kernel, rfl, by decide +kernel, by decide +kernel⟩
abbrev s__law_plan : Stmt := topS 21
abbrev N__law_plan : List Str := ["_law_total", "_law_names_here", "_law_families", "_law_k", "_law_rooms", "_law_cells", "_law_whos", "_law_name"]
theorem sc__law_plan : FnScope N__law_plan ["_law_total"] (defScope s__law_plan) := ⟨rfl, rfl, rfl, by decide +kernel, rfl, by decide +kernel, by decide +kernel⟩
abbrev s__law_name_of : Stmt := topS 22
abbrev N__law_name_of : List Str := ["_law_plan_here", "_law_names_here", "_law_cell", "_law_j", "_law_kind", "_law_family", "_law_good_here", "_law_one", "_law_some", "_law_each"]
theorem sc__law_name_of : FnScope N__law_name_of ["_law_plan_here", "_law_names_here", "_law_cell", "_law_j", "_law_kind", "_law_family"] (defScope s__law_name_of) := ⟨rfl, rfl, rfl, by decide +kernel, rfl, by decide +kernel, by decide +kernel⟩
abbrev s__law_part : Stmt := topS 23
abbrev N__law_part : List Str := ["_law_plan_here", "_law_names_here", "_law_cell", "_law_j", "_law_way", "_law_family", "_law_other", "_law_room", "_law_condition", "_law_name", "_law_one"]
theorem sc__law_part : FnScope N__law_part ["_law_plan_here", "_law_names_here", "_law_cell", "_law_j"] (defScope s__law_part) := ⟨rfl, rfl, rfl, by decide +kernel, rfl, by decide +kernel, by decide +kernel⟩
abbrev s__law_fact : Stmt := topS 24
abbrev N__law_fact : List Str := ["_law_plan_here", "_law_names_here", "_law_cell", "_law_j", "_law_one", "_law_way"]
theorem sc__law_fact : FnScope N__law_fact ["_law_plan_here", "_law_names_here", "_law_cell", "_law_j"] (defScope s__law_fact) := ⟨rfl, rfl, rfl, by decide +kernel, rfl, by decide +kernel, by decide +kernel⟩
abbrev s__law_saying : Stmt := topS 25
abbrev N__law_saying : List Str := ["_law_plan_here", "_law_names_here", "_law_cell", "_law_word", "_law_first"]
theorem sc__law_saying : FnScope N__law_saying ["_law_plan_here", "_law_names_here", "_law_cell"] (defScope s__law_saying) := ⟨rfl, rfl, rfl, by decide +kernel, rfl, by decide +kernel, by decide +kernel⟩
abbrev s_family_of : Stmt := topS 14
abbrev N_family_of : List Str := ["plan", "name", "family"]
theorem sc_family_of : FnScope N_family_of ["plan", "name"] (defScope s_family_of) := ⟨rfl, rfl, rfl, by decide +kernel, rfl, by decide +kernel, by decide +kernel⟩
abbrev s_names_in : Stmt := topS 12
abbrev N_names_in : List Str := ["tree", "found", "part"]
theorem sc_names_in : FnScope N_names_in ["tree"] (defScope s_names_in) := ⟨rfl, rfl, rfl, by decide +kernel, rfl, by decide +kernel, by decide +kernel⟩
abbrev s_check_hands : Stmt := topS 15
abbrev N_check_hands : List Str := ["plan", "fact", "family", "cells", "name", "cell"]
theorem sc_check_hands : FnScope N_check_hands ["plan", "fact"] (defScope s_check_hands) := ⟨rfl, rfl, rfl, by decide +kernel, rfl, by decide +kernel, by decide +kernel⟩
abbrev s_check_fact : Stmt := topS 16
abbrev N_check_fact : List Str := ["plan", "fact", "part"]
theorem sc_check_fact : FnScope N_check_fact ["plan", "fact"] (defScope s_check_fact) := ⟨rfl, rfl, rfl, by decide +kernel, rfl, by decide +kernel, by decide +kernel⟩
abbrev s_check_saying : Stmt := topS 17
abbrev N_check_saying : List Str := ["plan", "saying", "fact"]
theorem sc_check_saying : FnScope N_check_saying ["plan", "saying"] (defScope s_check_saying) := ⟨rfl, rfl, rfl, by decide +kernel, rfl, by decide +kernel, by decide +kernel⟩
abbrev s__law_spoken : Stmt := topS 26
abbrev N__law_spoken : List Str := ["_law_tree", "_law_found", "_law_part_here"]
theorem sc__law_spoken : FnScope N__law_spoken ["_law_tree"] (defScope s__law_spoken) := ⟨rfl, rfl, rfl, by decide +kernel, rfl, by decide +kernel, by decide +kernel⟩
abbrev s__law_good : Stmt := topS 27
abbrev N__law_good : List Str := ["_law_plan_here", "_law_tree", "_law_known", "_law_family", "_law_cells", "_law_part_here", "_law_cell", "_law_name"]
theorem sc__law_good : FnScope N__law_good ["_law_plan_here", "_law_tree"] (defScope s__law_good) := ⟨rfl, rfl, rfl, by decide +kernel, rfl, by decide +kernel, by decide +kernel⟩
abbrev s__law_right : Stmt := topS 28
abbrev N__law_right : List Str := ["_law_plan_here", "_law_saying_here", "_law_error", "_law_found", "e", "_law_fact_here"]
theorem sc__law_right : FnScope N__law_right ["_law_plan_here", "_law_saying_here"] (defScope s__law_right) := ⟨rfl, rfl, rfl, by decide +kernel, rfl, by decide +kernel, by decide +kernel⟩
abbrev s_law : Stmt := topS 29
abbrev N_law : List Str := ["_law_script", "_law_cells", "_law_total", "_law_plan_here", "_law_names_here", "_law_cell", "_law_saying_here"]
theorem sc_law : FnScope N_law ["_law_script"] (defScope s_law) := ⟨rfl, rfl, rfl, by decide +kernel, rfl, by decide +kernel, by decide +kernel⟩
section
variable {P : Program} {w : World} {K : PySem.W.Frag} {mg : Str → Option Value} {base : Heap}
theorem ok__law_mix {f : Addr} {fd : FuncData} (T : DefAt K mg "_law_mix" s__law_mix ["_law_cell", "_law_j"] f fd) : FnM P w K mg base "_law_mix" (1) 2 m__law_mix := by
  refine fnM (k := 0) T sc__law_mix rfl rfl fun cdv A outer s H E hr => ?_
  exact (sts_cons (st_if (pwb_pt (pwb_or (pb_cmp og_lt (px_var (pv 0)) px_int) (pwb_or1 (pb_cmp og_ge (px_var (pv 0)) (px_op og_pow px_int px_int))))) (sts_one (st_ret (px_op og_mod (px_op og_shr (px_var (pv 0)) (px_op og_mul px_int (px_var (pv 1)))) px_int))) sts_nil) (sts_cons (st_set (i := 2) sc__law_mix.nd rfl (.inl rfl) (px_op og_mod (px_op og_add (px_op og_mul (px_var (pv 0)) (px_op og_add (px_op og_mul px_int (px_var (pv 1))) px_int)) (px_var (pv 1))) px_int)) (sts_cons (st_set (i := 2) sc__law_mix.nd rfl (.inl rfl) (px_op og_mod (px_op og_mul (px_op og_add (px_op og_mul (px_var (pv 2)) (px_var (pv 2))) px_int) px_int) px_int)) (sts_one (st_ret (px_op og_mod (px_op og_mul (px_var (pv 2)) (px_var (pv 2))) px_int))))))
theorem ok__law_names {f : Addr} {fd : FuncData} (T : DefAt K mg "_law_names" s__law_names ["_law_total"] f fd) (G__law_mix : FnM P w K mg base "_law_mix" 1 2 m__law_mix) (n_range : mg "range" = none) : FnM P w K mg base "_law_names" (2) 1 m__law_names := by
  refine fnM (k := 1) T sc__law_names rfl rfl fun cdv A outer s H E hr => ?_
  exact (sts_cons (st_set (i := 1) sc__law_names.nd rfl (.inr rfl) px_str) (sts_cons (st_set (i := 2) sc__law_names.nd rfl (.inr rfl) (px_callM G__law_mix (hr.mono (by decide)) (by rfl) (L2N.takes_of rfl rfl rfl rfl) (pas_cons (px_var (pv 0)) (pas_cons px_int pas_nil)))) (sts_cons (st_set (i := 3) sc__law_names.nd rfl (.inr rfl) (px_ix (og_ix (hu65 hr)) (px_lst (pas_cons px_str (pas_cons px_str (pas_cons px_str (pas_cons px_str pas_nil))))) (px_op og_mod (px_callM G__law_mix (hr.mono (by decide)) (by rfl) (L2N.takes_of rfl rfl rfl rfl) (pas_cons (px_var (pv 0)) (pas_cons px_int pas_nil))) px_int) (fun _ _ => rfl))) (sts_one (st_ret (px_lc rfl sc__law_names.nd (it_range1 (by rfl) n_range (pas_cons px_int pas_nil)) (blkOk_by (own := [("_law_k", 4)]) (N := N__law_names) (sc := defScope s__law_names) (by decide +kernel)) rfl (fun _ _ _ _ _ => (tg_name sc__law_names.nd rfl (.inl rfl))) (fun _ _ _ _ _ => ptt_nil) (fun _ _ _ _ _ => (px_frz (px_op og_add (px_op og_add (px_ix (og_ix (hu65 hr)) (px_var (pv 1)) (px_op og_mod (px_op og_add (px_var (pv 2)) (px_op og_mul px_int (px_var (pv 4)))) px_int) (fun _ _ => rfl)) px_str) (px_var (pv 3)))))))))))
theorem ok__law_plan {f : Addr} {fd : FuncData} (T : DefAt K mg "_law_plan" s__law_plan ["_law_total"] f fd) (G__law_mix : FnM P w K mg base "_law_mix" 1 2 m__law_mix) (G__law_names : FnM P w K mg base "_law_names" 2 1 m__law_names) (n_range : mg "range" = none) : FnM P w K mg base "_law_plan" (3) 1 m__law_plan := by
  refine fnM (k := 2) T sc__law_plan rfl rfl fun cdv A outer s H E hr => ?_
  exact (sts_cons (st_set (i := 1) sc__law_plan.nd rfl (.inl rfl) (px_callM G__law_names (hr.mono (by decide)) (by rfl) (L2N.takes_of rfl rfl rfl rfl) (pas_cons (px_var (pv 0)) pas_nil))) (sts_cons (st_set (i := 2) sc__law_plan.nd rfl (.inl rfl) (px_lst pas_nil)) (sts_cons (st_for (passes_of rfl) rfl (it_range1 (by rfl) n_range (pas_cons (px_frz (px_op og_add px_int (px_op og_mod (px_callM G__law_mix (hr.mono (by decide)) (by rfl) (L2N.takes_of rfl rfl rfl rfl) (pas_cons (px_var (pv 0)) (pas_cons px_int pas_nil))) px_int))) pas_nil)) (tg_name sc__law_plan.nd rfl (.inl rfl)) (sts_cons (st_set (i := 4) sc__law_plan.nd rfl (.inl rfl) (px_sl (px_var (pv 1)) (pos_some (px_op og_add px_int (px_op og_mul px_int (px_var (pv 3))))) (pos_some (px_op og_add (px_op og_add px_int (px_op og_mul px_int (px_var (pv 3)))) (px_op og_mod (px_callM G__law_mix (hr.mono (by decide)) (by rfl) (L2N.takes_of rfl rfl rfl rfl) (pas_cons (px_var (pv 0)) (pas_cons (px_frz (px_op og_add px_int (px_var (pv 3)))) pas_nil))) px_int))))) (sts_cons (st_setLc (i := 5) rfl sc__law_plan.nd rfl rfl (sw_true rfl rfl rfl (by decide +kernel)) (it_seqT (px_sl (px_var (pv 1)) (pos_some (px_op og_sub px_int (px_op og_mul px_int (px_var (pv 3))))) (pos_some (px_op og_add (px_op og_sub px_int (px_op og_mul px_int (px_var (pv 3)))) (px_op og_mod (px_callM G__law_mix (hr.mono (by decide)) (by rfl) (L2N.takes_of rfl rfl rfl rfl) (pas_cons (px_var (pv 0)) (pas_cons (px_frz (px_op og_add px_int (px_var (pv 3)))) pas_nil))) px_int))))) (blkOk_by (own := [("_law_name", 7)]) (N := N__law_plan) (sc := defScope s__law_plan) (by decide +kernel)) rfl (fun _ _ _ _ _ => (tg_name sc__law_plan.nd rfl (.inl rfl))) (fun _ _ _ _ _ => ptt_nil) (fun _ _ _ _ _ => (px_tup (pas_cons (px_varF (pv 7)) (pas_cons px_int (pas_cons px_int (pas_cons px_int pas_nil))))))) (sts_cons (st_set (i := 6) sc__law_plan.nd rfl (.inl rfl) (px_sl (px_var (pv 1)) (pos_some (px_op og_add px_int (px_var (pv 3)))) (pos_some (px_op og_add (px_op og_add px_int (px_var (pv 3))) (px_op og_mod (px_callM G__law_mix (hr.mono (by decide)) (by rfl) (L2N.takes_of rfl rfl rfl rfl) (pas_cons (px_var (pv 0)) (pas_cons (px_frz (px_op og_add px_int (px_var (pv 3)))) pas_nil))) px_int))))) (sts_one (st_expr (px_mut (by decide) PySem.F.plainAttrs_list PySem.F.slot_list_append PySem.F.type_list_append mg_append (pv 2) plr_v (.inl ⟨_, rfl⟩) (pas_cons (px_tup (pas_cons (px_ix (og_ix (hu65 hr)) (px_var (pv 1)) (px_var (pv 3)) (fun _ _ => rfl)) (pas_cons px_int (pas_cons (px_varF (pv 4)) (pas_cons (px_varF (pv 5)) (pas_cons (px_varF (pv 6)) (pas_cons (px_frz (px_lst pas_nil)) pas_nil))))))) pas_nil)))))))) (sts_one (st_ret (px_tup (pas_cons (px_varF (pv 2)) (pas_cons (px_frz (px_lst pas_nil)) (pas_cons (px_frz (px_lst pas_nil)) pas_nil)))))))))
theorem ok__law_name_of {f : Addr} {fd : FuncData} (T : DefAt K mg "_law_name_of" s__law_name_of ["_law_plan_here", "_law_names_here", "_law_cell", "_law_j", "_law_kind", "_law_family"] f fd) (G__law_mix : FnM P w K mg base "_law_mix" 1 2 m__law_mix) (n_len : mg "len" = none) : FnM P w K mg base "_law_name_of" (2) 6 m__law_name_of := by
  refine fnM (k := 1) T sc__law_name_of rfl rfl fun cdv A outer s H E hr => ?_
  exact (sts_cons (st_set (i := 6) sc__law_name_of.nd rfl (.inl rfl) px_dict0) (sts_cons (st_for (passes_of rfl) rfl (it_seq (px_ix (og_ix (hu65 hr)) (px_var (pv 0)) px_int (fun _ _ => rfl))) (tg_name sc__law_name_of.nd rfl (.inl rfl)) (sts_one (st_if (pb_cmp (og_eq hr.units) (px_ix (og_ix (hu65 hr)) (px_var (pv 7)) px_int (fun _ _ => rfl)) (px_var (pv 5))) (sts_one (st_set (i := 6) sc__law_name_of.nd rfl (.inl rfl) (px_disp (pps_cons0 (px_ix (og_ix (hu65 hr)) (px_var (pv 7)) px_int (fun _ _ => rfl)) (pps_cons0 (px_frz (px_lc rfl sc__law_name_of.nd (it_seqT (px_ix (og_ix (hu65 hr)) (px_var (pv 7)) px_int (fun _ _ => rfl))) (blkOk_by (own := [("_law_each", 9)]) (N := N__law_name_of) (sc := defScope s__law_name_of) (by decide +kernel)) rfl (fun _ _ _ _ _ => (tg_name sc__law_name_of.nd rfl (.inl rfl))) (fun _ _ _ _ _ => ptt_nil) (fun _ _ _ _ _ => (px_ix (og_ix (hu65 hr)) (px_var (pv 9)) px_int (fun _ _ => rfl))))) pps_nil0)) (by rfl) (by rfl) (fun z => by cases z) (by decide)))) sts_nil))) (sts_cons (st_setLc (i := 8) rfl sc__law_name_of.nd rfl rfl (sw_true rfl rfl rfl (by decide +kernel)) (it_seqT (px_ix (og_ix (hu65 hr)) (px_var (pv 0)) px_int (fun _ _ => rfl))) (blkOk_by (own := [("_law_one", 7)]) (N := N__law_name_of) (sc := defScope s__law_name_of) (by decide +kernel)) rfl (fun _ _ _ _ _ => (tg_name sc__law_name_of.nd rfl (.inl rfl))) (fun _ _ _ _ _ => ptt_nil) (fun _ _ _ _ _ => (px_ix (og_ix (hu65 hr)) (px_var (pv 7)) px_int (fun _ _ => rfl)))) (sts_cons (st_if (pb_cmp (og_ne hr.units) (px_var (pv 4)) px_str) (sts_one (st_set (i := 8) sc__law_name_of.nd rfl (.inl rfl) (px_dget (hu65 hr) (px_var (pv 6)) (px_var (pv 4)) (px_frz (px_lst pas_nil)) ⟨by rfl, by rfl, by rfl, by rfl⟩))) sts_nil) (sts_cons (st_if (pwb_pt (pwb_or (pb_cmp (og_eq hr.units) (px_op og_mod (px_callM G__law_mix (hr.mono (by decide)) (by rfl) (L2N.takes_of rfl rfl rfl rfl) (pas_cons (px_var (pv 2)) (pas_cons (px_var (pv 3)) pas_nil))) px_int) px_int) (pwb_or1 (pb_cmp (og_eq hr.units) (px_var (pv 8)) (px_lst pas_nil))))) (sts_one (st_set (i := 8) sc__law_name_of.nd rfl (.inl rfl) (px_op og_add (px_var (pv 1)) (px_lst (pas_cons px_str pas_nil))))) sts_nil) (sts_one (st_ret (px_ix (og_ix (hu65 hr)) (px_var (pv 8)) (px_op og_mod (px_callM G__law_mix (hr.mono (by decide)) (by rfl) (L2N.takes_of rfl rfl rfl rfl) (pas_cons (px_var (pv 2)) (pas_cons (px_frz (px_op og_add (px_var (pv 3)) px_int)) pas_nil))) (px_callB cg_len (by rfl) n_len (by decide +kernel) (pas_cons (px_var (pv 8)) pas_nil))) (fun _ _ => rfl)))))))))
theorem ok__law_part {f : Addr} {fd : FuncData} (T : DefAt K mg "_law_part" s__law_part ["_law_plan_here", "_law_names_here", "_law_cell", "_law_j"] f fd) (G__law_mix : FnM P w K mg base "_law_mix" 1 2 m__law_mix) (G__law_name_of : FnM P w K mg base "_law_name_of" 2 6 m__law_name_of) : FnM P w K mg base "_law_part" (3) 4 m__law_part := by
  refine fnM (k := 2) T sc__law_part rfl rfl fun cdv A outer s H E hr => ?_
  exact (sts_cons (st_set (i := 4) sc__law_part.nd rfl (.inl rfl) (px_op og_mod (px_callM G__law_mix (hr.mono (by decide)) (by rfl) (L2N.takes_of rfl rfl rfl rfl) (pas_cons (px_var (pv 2)) (pas_cons (px_var (pv 3)) pas_nil))) px_int)) (sts_cons (st_set (i := 5) sc__law_part.nd rfl (.inl rfl) (px_callM G__law_name_of (hr.mono (by decide)) (by rfl) (L2N.takes_of rfl rfl rfl rfl) (pas_cons (px_var (pv 0)) (pas_cons (px_var (pv 1)) (pas_cons (px_var (pv 2)) (pas_cons (px_frz (px_op og_add (px_var (pv 3)) px_int)) (pas_cons px_str (pas_cons px_str pas_nil)))))))) (sts_cons (st_if (pb_cmp (og_eq hr.units) (px_var (pv 4)) px_int) (sts_cons (st_set (i := 6) sc__law_part.nd rfl (.inl rfl) (px_callM G__law_name_of (hr.mono (by decide)) (by rfl) (L2N.takes_of rfl rfl rfl rfl) (pas_cons (px_var (pv 0)) (pas_cons (px_var (pv 1)) (pas_cons (px_var (pv 2)) (pas_cons (px_frz (px_op og_add (px_var (pv 3)) px_int)) (pas_cons px_str (pas_cons px_str pas_nil)))))))) (sts_one (st_ret (px_tup (pas_cons px_str (pas_cons (px_varF (pv 5)) (pas_cons (px_varF (pv 6)) (pas_cons (px_ix (og_ix (hu65 hr)) (px_lst (pas_cons px_str (pas_cons (px_ix (og_ix (hu65 hr)) (px_var (pv 1)) px_int (fun _ _ => rfl)) pas_nil))) (px_op og_mod (px_callM G__law_mix (hr.mono (by decide)) (by rfl) (L2N.takes_of rfl rfl rfl rfl) (pas_cons (px_var (pv 2)) (pas_cons (px_frz (px_op og_add (px_var (pv 3)) px_int)) pas_nil))) px_int) (fun _ _ => rfl)) (pas_cons px_str (pas_cons px_int pas_nil)))))))))) sts_nil) (sts_cons (st_if (pb_cmp (og_eq hr.units) (px_var (pv 4)) px_int) (sts_one (st_ret (px_ix (og_ix (hu65 hr)) (px_lst (pas_cons (px_tup (pas_cons px_str pas_nil)) (pas_cons (px_tup (pas_cons px_str pas_nil)) pas_nil))) (px_op og_mod (px_callM G__law_mix (hr.mono (by decide)) (by rfl) (L2N.takes_of rfl rfl rfl rfl) (pas_cons (px_var (pv 2)) (pas_cons (px_frz (px_op og_add (px_var (pv 3)) px_int)) pas_nil))) px_int) (fun _ _ => rfl)))) sts_nil) (sts_cons (st_set (i := 7) sc__law_part.nd rfl (.inl rfl) px_str) (sts_cons (st_if (pb_cmp (og_eq hr.units) (px_op og_mod (px_callM G__law_mix (hr.mono (by decide)) (by rfl) (L2N.takes_of rfl rfl rfl rfl) (pas_cons (px_var (pv 2)) (pas_cons (px_frz (px_op og_add (px_var (pv 3)) px_int)) pas_nil))) px_int) px_int) (sts_one (st_set (i := 7) sc__law_part.nd rfl (.inl rfl) (px_callM G__law_name_of (hr.mono (by decide)) (by rfl) (L2N.takes_of rfl rfl rfl rfl) (pas_cons (px_var (pv 0)) (pas_cons (px_var (pv 1)) (pas_cons (px_var (pv 2)) (pas_cons (px_frz (px_op og_add (px_var (pv 3)) px_int)) (pas_cons px_str (pas_cons (px_var (pv 5)) pas_nil))))))))) sts_nil) (sts_cons (st_set (i := 8) sc__law_part.nd rfl (.inl rfl) (px_tup (pas_cons px_str pas_nil))) (sts_cons (st_if (pb_cmp (og_eq hr.units) (px_op og_mod (px_callM G__law_mix (hr.mono (by decide)) (by rfl) (L2N.takes_of rfl rfl rfl rfl) (pas_cons (px_var (pv 2)) (pas_cons (px_frz (px_op og_add (px_var (pv 3)) px_int)) pas_nil))) px_int) px_int) (sts_cons (st_set (i := 9) sc__law_part.nd rfl (.inl rfl) (px_callM G__law_name_of (hr.mono (by decide)) (by rfl) (L2N.takes_of rfl rfl rfl rfl) (pas_cons (px_var (pv 0)) (pas_cons (px_var (pv 1)) (pas_cons (px_var (pv 2)) (pas_cons (px_frz (px_op og_add (px_var (pv 3)) px_int)) (pas_cons px_str (pas_cons (px_var (pv 5)) pas_nil)))))))) (sts_cons (st_set (i := 10) sc__law_part.nd rfl (.inl rfl) (px_tup (pas_cons px_str (pas_cons px_str (pas_cons (px_tup (pas_cons px_str (pas_cons (px_tup (pas_cons px_str (pas_cons px_int pas_nil))) (pas_cons (px_tup (pas_cons px_str (pas_cons (px_varF (pv 9)) pas_nil))) pas_nil)))) (pas_cons (px_tup (pas_cons px_str (pas_cons px_int pas_nil))) pas_nil)))))) (sts_one (st_set (i := 8) sc__law_part.nd rfl (.inl rfl) (px_ix (og_ix (hu65 hr)) (px_lst (pas_cons (px_varF (pv 10)) (pas_cons (px_tup (pas_cons px_str (pas_cons (px_varF (pv 10)) pas_nil))) (pas_cons (px_tup (pas_cons px_str (pas_cons (px_tup (pas_cons px_str pas_nil)) (pas_cons (px_varF (pv 10)) pas_nil)))) pas_nil)))) (px_op og_mod (px_callM G__law_mix (hr.mono (by decide)) (by rfl) (L2N.takes_of rfl rfl rfl rfl) (pas_cons (px_var (pv 2)) (pas_cons (px_frz (px_op og_add (px_var (pv 3)) px_int)) pas_nil))) px_int) (fun _ _ => rfl)))))) sts_nil) (sts_cons (st_if (pb_cmp og_lt (px_var (pv 4)) px_int) (sts_one (st_ret (px_tup (pas_cons (px_ix (og_ix (hu65 hr)) (px_lst (pas_cons px_str (pas_cons px_str pas_nil))) (px_op og_sub (px_var (pv 4)) px_int) (fun _ _ => rfl)) (pas_cons (px_varF (pv 5)) (pas_cons (px_varF (pv 7)) (pas_cons (px_varF (pv 8)) pas_nil))))))) sts_nil) (sts_cons (st_if (pb_cmp (og_eq hr.units) (px_var (pv 4)) px_int) (sts_one (st_ret (px_tup (pas_cons px_str (pas_cons (px_varF (pv 5)) (pas_cons (px_varF (pv 7)) (pas_cons (px_varF (pv 8)) (pas_cons px_str (pas_cons px_int pas_nil))))))))) sts_nil) (sts_one (st_ret (px_tup (pas_cons (px_ix (og_ix (hu65 hr)) (px_lst (pas_cons px_str (pas_cons px_str pas_nil))) (px_op og_sub (px_var (pv 4)) px_int) (fun _ _ => rfl)) (pas_cons (px_varF (pv 5)) (pas_cons (px_tup (pas_cons px_str (pas_cons (px_varF (pv 5)) (pas_cons (px_varF (pv 7)) (pas_cons (px_varF (pv 8)) pas_nil))))) pas_nil))))))))))))))))
theorem ok__law_fact {f : Addr} {fd : FuncData} (T : DefAt K mg "_law_fact" s__law_fact ["_law_plan_here", "_law_names_here", "_law_cell", "_law_j"] f fd) (G__law_mix : FnM P w K mg base "_law_mix" 1 2 m__law_mix) (G__law_part : FnM P w K mg base "_law_part" 3 4 m__law_part) : FnM P w K mg base "_law_fact" (4) 4 m__law_fact := by
  refine fnM (k := 3) T sc__law_fact rfl rfl fun cdv A outer s H E hr => ?_
  exact (sts_cons (st_set (i := 4) sc__law_fact.nd rfl (.inl rfl) (px_callM G__law_part (hr.mono (by decide)) (by rfl) (L2N.takes_of rfl rfl rfl rfl) (pas_cons (px_var (pv 0)) (pas_cons (px_var (pv 1)) (pas_cons (px_var (pv 2)) (pas_cons (px_frz (px_op og_add (px_var (pv 3)) px_int)) pas_nil)))))) (sts_cons (st_set (i := 5) sc__law_fact.nd rfl (.inl rfl) (px_op og_mod (px_callM G__law_mix (hr.mono (by decide)) (by rfl) (L2N.takes_of rfl rfl rfl rfl) (pas_cons (px_var (pv 2)) (pas_cons (px_var (pv 3)) pas_nil))) px_int)) (sts_cons (st_if (pb_cmp og_lt (px_var (pv 5)) px_int) (sts_one (st_ret (px_tup (pas_cons (px_ix (og_ix (hu65 hr)) (px_lst (pas_cons px_str (pas_cons px_str pas_nil))) (px_var (pv 5)) (fun _ _ => rfl)) (pas_cons (px_varF (pv 4)) (pas_cons (px_frz (px_callM G__law_part (hr.mono (by decide)) (by rfl) (L2N.takes_of rfl rfl rfl rfl) (pas_cons (px_var (pv 0)) (pas_cons (px_var (pv 1)) (pas_cons (px_var (pv 2)) (pas_cons (px_frz (px_op og_add (px_var (pv 3)) px_int)) pas_nil)))))) pas_nil)))))) sts_nil) (sts_cons (st_if (pb_cmp (og_eq hr.units) (px_var (pv 5)) px_int) (sts_one (st_ret (px_tup (pas_cons px_str (pas_cons (px_varF (pv 4)) pas_nil))))) sts_nil) (sts_one (st_ret (px_varO (pv 4))))))))
theorem ok__law_saying {f : Addr} {fd : FuncData} (T : DefAt K mg "_law_saying" s__law_saying ["_law_plan_here", "_law_names_here", "_law_cell"] f fd) (G__law_mix : FnM P w K mg base "_law_mix" 1 2 m__law_mix) (G__law_fact : FnM P w K mg base "_law_fact" 4 4 m__law_fact) : FnM P w K mg base "_law_saying" (5) 3 m__law_saying := by
  refine fnM (k := 4) T sc__law_saying rfl rfl fun cdv A outer s H E hr => ?_
  exact (sts_cons (st_set (i := 3) sc__law_saying.nd rfl (.inl rfl) (px_ix (og_ix (hu65 hr)) (px_lst (pas_cons px_str (pas_cons px_str (pas_cons px_str (pas_cons px_str (pas_cons px_str (pas_cons px_str pas_nil))))))) (px_op og_mod (px_callM G__law_mix (hr.mono (by decide)) (by rfl) (L2N.takes_of rfl rfl rfl rfl) (pas_cons (px_var (pv 2)) (pas_cons px_int pas_nil))) px_int) (fun _ _ => rfl))) (sts_cons (st_set (i := 4) sc__law_saying.nd rfl (.inl rfl) (px_callM G__law_fact (hr.mono (by decide)) (by rfl) (L2N.takes_of rfl rfl rfl rfl) (pas_cons (px_var (pv 0)) (pas_cons (px_var (pv 1)) (pas_cons (px_var (pv 2)) (pas_cons px_int pas_nil)))))) (sts_cons (st_if (pb_cmp (og_in (hu65 hr)) (px_var (pv 3)) (px_tup (pas_cons px_str (pas_cons px_str pas_nil)))) (sts_one (st_ret (px_tup (pas_cons (px_varF (pv 3)) (pas_cons (px_varF (pv 4)) (pas_cons (px_frz (px_callM G__law_fact (hr.mono (by decide)) (by rfl) (L2N.takes_of rfl rfl rfl rfl) (pas_cons (px_var (pv 0)) (pas_cons (px_var (pv 1)) (pas_cons (px_var (pv 2)) (pas_cons px_int pas_nil)))))) pas_nil)))))) sts_nil) (sts_one (st_ret (px_tup (pas_cons (px_varF (pv 3)) (pas_cons (px_varF (pv 4)) pas_nil))))))))
theorem ok_family_of {f : Addr} {fd : FuncData} (T : DefAt K mg "family_of" s_family_of ["plan", "name"] f fd) (X_NoFact : Ec0 K mg "NoFact") : FnM P w K mg base "family_of" (1) 2 m_family_of := by
  refine fnM (k := 0) T sc_family_of rfl rfl fun cdv A outer s H E hr => ?_
  exact (sts_cons (st_for (passes_of rfl) rfl (it_seq (px_ix (og_ix (hu65 hr)) (px_var (pv 0)) px_int (fun _ _ => rfl))) (tg_name sc_family_of.nd rfl (.inl rfl)) (sts_one (st_if (pb_cmp (og_eq hr.units) (px_ix (og_ix (hu65 hr)) (px_var (pv 2)) px_int (fun _ _ => rfl)) (px_var (pv 1))) (sts_one (st_ret (px_varO (pv 2)))) sts_nil))) (sts_one (st_raise0 rfl (L2N.takes_of rfl rfl rfl rfl) (by rfl) X_NoFact)))
theorem ok_names_in {f : Addr} {fd : FuncData} (T : DefAt K mg "names_in" s_names_in ["tree"] f fd) {n : Nat} {c_names_in : MF} (G_names_in : FnM P w K mg base "names_in" (0 + n) 1 c_names_in) (n_isinstance : mg "isinstance" = none) (n_tuple : mg "tuple" = none) : FnM P w K mg base "names_in" (0 + n + 1) 1 (runF 1 2 (b_names_in c_names_in)) := by
  refine fnM (k := 0 + n) T sc_names_in rfl rfl fun cdv A outer s H E hr => ?_
  exact (sts_cons (st_if (pb_cmp (og_eq hr.units) (px_ix (og_ix (hu65 hr)) (px_var (pv 0)) px_int (fun _ _ => rfl)) px_str) (sts_one (st_ret (px_lst (pas_cons (px_ix (og_ix (hu65 hr)) (px_var (pv 0)) px_int (fun _ _ => rfl)) pas_nil)))) sts_nil) (sts_cons (st_set (i := 1) sc_names_in.nd rfl (.inl rfl) (px_lst pas_nil)) (sts_cons (st_for (passes_of rfl) rfl (it_seq (px_frz (px_sl (px_var (pv 0)) (pos_some px_int) pos_none))) (tg_name sc_names_in.nd rfl (.inl rfl)) (sts_one (st_if (pb_val (px_callB cg_isi (by rfl) n_isinstance (by decide +kernel) (pas_cons (px_var (pv 2)) (pas_cons (px_ty (by rfl) n_tuple (by decide +kernel)) pas_nil)))) (sts_one (st_set (i := 1) sc_names_in.nd rfl (.inl rfl) (px_op og_add (px_var (pv 1)) (px_callM G_names_in (hr.mono (by omega)) (by rfl) (L2N.takes_of rfl rfl rfl rfl) (pas_cons (px_var (pv 2)) pas_nil))))) sts_nil))) (sts_one (st_ret (px_varO (pv 1)))))))
theorem all_names_in {f_names_in : Addr} {fd_names_in : FuncData} (T_names_in : DefAt K mg "names_in" s_names_in ["tree"] f_names_in fd_names_in) (n_isinstance : mg "isinstance" = none) (n_tuple : mg "tuple" = none) : ∀ n : Nat, FnM P w K mg base "names_in" (0 + n) 1 (m_names_in n)
  | 0 => fnM_bad T_names_in
  | n + 1 => by
    have ih := all_names_in T_names_in n_isinstance n_tuple n
    exact ok_names_in T_names_in ih n_isinstance n_tuple
theorem ok_check_hands {f : Addr} {fd : FuncData} (T : DefAt K mg "check_hands" s_check_hands ["plan", "fact"] f fd) (G_family_of : FnM P w K mg base "family_of" 1 2 m_family_of) (G_names_in : FnM P w K mg base "names_in" 60 1 (m_names_in 60)) (X_NoFact : Ec0 K mg "NoFact") : FnM P w K mg base "check_hands" (61) 2 m_check_hands := by
  refine fnM (k := 60) T sc_check_hands rfl rfl fun cdv A outer s H E hr => ?_
  exact (sts_cons (st_set (i := 2) sc_check_hands.nd rfl (.inl rfl) (px_callM G_family_of (hr.mono (by decide)) (by rfl) (L2N.takes_of rfl rfl rfl rfl) (pas_cons (px_var (pv 0)) (pas_cons (px_ix (og_ix (hu65 hr)) (px_var (pv 1)) px_int (fun _ _ => rfl)) pas_nil)))) (sts_cons (st_if (pwb_pt (pwb_and (pb_cmp (og_ne hr.units) (px_ix (og_ix (hu65 hr)) (px_var (pv 1)) px_int (fun _ _ => rfl)) px_str) (pwb_and1 (pb_cmp (og_notIn (hu65 hr)) (px_ix (og_ix (hu65 hr)) (px_var (pv 1)) px_int (fun _ _ => rfl)) (px_ix (og_ix (hu65 hr)) (px_var (pv 2)) px_int (fun _ _ => rfl)))))) (sts_one (st_raise0 rfl (L2N.takes_of rfl rfl rfl rfl) (by rfl) X_NoFact)) sts_nil) (sts_cons (st_setLc (i := 3) rfl sc_check_hands.nd rfl rfl (sw_true rfl rfl rfl (by decide +kernel)) (it_seqT (px_ix (og_ix (hu65 hr)) (px_var (pv 2)) px_int (fun _ _ => rfl))) (blkOk_by (own := [("cell", 5)]) (N := N_check_hands) (sc := defScope s_check_hands) (by decide +kernel)) rfl (fun _ _ _ _ _ => (tg_name sc_check_hands.nd rfl (.inl rfl))) (fun _ _ _ _ _ => ptt_nil) (fun _ _ _ _ _ => (px_ix (og_ix (hu65 hr)) (px_var (pv 5)) px_int (fun _ _ => rfl)))) (sts_one (st_for (passes_of rfl) rfl (it_seq (px_frz (px_callM G_names_in (hr.mono (by decide)) (by rfl) (L2N.takes_of rfl rfl rfl rfl) (pas_cons (px_ix (og_ix (hu65 hr)) (px_var (pv 1)) px_int (fun _ _ => rfl)) pas_nil)))) (tg_name sc_check_hands.nd rfl (.inl rfl)) (sts_one (st_if (pb_cmp (og_notIn (hu65 hr)) (px_var (pv 4)) (px_var (pv 3))) (sts_one (st_raise0 rfl (L2N.takes_of rfl rfl rfl rfl) (by rfl) X_NoFact)) sts_nil)))))))
theorem ok_check_fact {f : Addr} {fd : FuncData} (T : DefAt K mg "check_fact" s_check_fact ["plan", "fact"] f fd) {n : Nat} (G_family_of : FnM P w K mg base "family_of" 1 2 m_family_of) (G_check_hands : FnM P w K mg base "check_hands" 61 2 m_check_hands) {c_check_fact : MF} (G_check_fact : FnM P w K mg base "check_fact" (61 + n) 2 c_check_fact) : FnM P w K mg base "check_fact" (61 + n + 1) 2 (runF 2 1 (b_check_fact c_check_fact)) := by
  refine fnM (k := 61 + n) T sc_check_fact rfl rfl fun cdv A outer s H E hr => ?_
  exact (sts_one (st_if (pb_cmp (og_in (hu65 hr)) (px_ix (og_ix (hu65 hr)) (px_var (pv 1)) px_int (fun _ _ => rfl)) (px_tup (pas_cons px_str (pas_cons px_str (pas_cons px_str pas_nil))))) (sts_one (st_expr (px_callM G_check_hands (hr.mono (by omega)) (by rfl) (L2N.takes_of rfl rfl rfl rfl) (pas_cons (px_var (pv 0)) (pas_cons (px_var (pv 1)) pas_nil))))) (sts_one (st_if (pb_cmp (og_eq hr.units) (px_ix (og_ix (hu65 hr)) (px_var (pv 1)) px_int (fun _ _ => rfl)) px_str) (sts_cons (st_expr (px_callM G_family_of (hr.mono (by omega)) (by rfl) (L2N.takes_of rfl rfl rfl rfl) (pas_cons (px_var (pv 0)) (pas_cons (px_ix (og_ix (hu65 hr)) (px_var (pv 1)) px_int (fun _ _ => rfl)) pas_nil)))) (sts_one (st_expr (px_callM G_family_of (hr.mono (by omega)) (by rfl) (L2N.takes_of rfl rfl rfl rfl) (pas_cons (px_var (pv 0)) (pas_cons (px_ix (og_ix (hu65 hr)) (px_var (pv 1)) px_int (fun _ _ => rfl)) pas_nil)))))) (sts_one (st_if (pb_cmp (og_in (hu65 hr)) (px_ix (og_ix (hu65 hr)) (px_var (pv 1)) px_int (fun _ _ => rfl)) (px_tup (pas_cons px_str (pas_cons px_str pas_nil)))) (sts_cons (st_expr (px_callM G_family_of (hr.mono (by omega)) (by rfl) (L2N.takes_of rfl rfl rfl rfl) (pas_cons (px_var (pv 0)) (pas_cons (px_ix (og_ix (hu65 hr)) (px_var (pv 1)) px_int (fun _ _ => rfl)) pas_nil)))) (sts_one (st_expr (px_callM G_check_fact (hr.mono (by omega)) (by rfl) (L2N.takes_of rfl rfl rfl rfl) (pas_cons (px_var (pv 0)) (pas_cons (px_ix (og_ix (hu65 hr)) (px_var (pv 1)) px_int (fun _ _ => rfl)) pas_nil)))))) (sts_one (st_for (passes_of rfl) rfl (it_seq (px_frz (px_sl (px_var (pv 1)) (pos_some px_int) pos_none))) (tg_name sc_check_fact.nd rfl (.inl rfl)) (sts_one (st_expr (px_callM G_check_fact (hr.mono (by omega)) (by rfl) (L2N.takes_of rfl rfl rfl rfl) (pas_cons (px_var (pv 0)) (pas_cons (px_var (pv 2)) pas_nil)))))))))))))
theorem all_check_fact {f_check_fact : Addr} {fd_check_fact : FuncData} (T_check_fact : DefAt K mg "check_fact" s_check_fact ["plan", "fact"] f_check_fact fd_check_fact) (G_family_of : FnM P w K mg base "family_of" 1 2 m_family_of) (G_check_hands : FnM P w K mg base "check_hands" 61 2 m_check_hands) : ∀ n : Nat, FnM P w K mg base "check_fact" (61 + n) 2 (m_check_fact n)
  | 0 => fnM_bad T_check_fact
  | n + 1 => by
    have ih := all_check_fact T_check_fact G_family_of G_check_hands n
    exact ok_check_fact T_check_fact G_family_of G_check_hands ih
theorem ok_check_saying {f : Addr} {fd : FuncData} (T : DefAt K mg "check_saying" s_check_saying ["plan", "saying"] f fd) (G_check_fact : FnM P w K mg base "check_fact" 121 2 (m_check_fact 60)) : FnM P w K mg base "check_saying" (122) 2 m_check_saying := by
  refine fnM (k := 121) T sc_check_saying rfl rfl fun cdv A outer s H E hr => ?_
  exact (sts_one (st_for (passes_of rfl) rfl (it_seq (px_frz (px_sl (px_var (pv 1)) (pos_some px_int) pos_none))) (tg_name sc_check_saying.nd rfl (.inl rfl)) (sts_one (st_expr (px_callM G_check_fact (hr.mono (by decide)) (by rfl) (L2N.takes_of rfl rfl rfl rfl) (pas_cons (px_var (pv 0)) (pas_cons (px_var (pv 2)) pas_nil)))))))
theorem ok__law_spoken {f : Addr} {fd : FuncData} (T : DefAt K mg "_law_spoken" s__law_spoken ["_law_tree"] f fd) {n : Nat} {c__law_spoken : MF} (G__law_spoken : FnM P w K mg base "_law_spoken" (0 + n) 1 c__law_spoken) (n_isinstance : mg "isinstance" = none) (n_tuple : mg "tuple" = none) : FnM P w K mg base "_law_spoken" (0 + n + 1) 1 (runF 1 2 (b__law_spoken c__law_spoken)) := by
  refine fnM (k := 0 + n) T sc__law_spoken rfl rfl fun cdv A outer s H E hr => ?_
  exact (sts_cons (st_if (pb_cmp (og_eq hr.units) (px_ix (og_ix (hu65 hr)) (px_var (pv 0)) px_int (fun _ _ => rfl)) px_str) (sts_one (st_ret (px_lst (pas_cons (px_ix (og_ix (hu65 hr)) (px_var (pv 0)) px_int (fun _ _ => rfl)) pas_nil)))) sts_nil) (sts_cons (st_set (i := 1) sc__law_spoken.nd rfl (.inl rfl) (px_lst pas_nil)) (sts_cons (st_for (passes_of rfl) rfl (it_seq (px_frz (px_sl (px_var (pv 0)) (pos_some px_int) pos_none))) (tg_name sc__law_spoken.nd rfl (.inl rfl)) (sts_one (st_if (pb_val (px_callB cg_isi (by rfl) n_isinstance (by decide +kernel) (pas_cons (px_var (pv 2)) (pas_cons (px_ty (by rfl) n_tuple (by decide +kernel)) pas_nil)))) (sts_one (st_expr (px_mut (by decide) PySem.F.plainAttrs_list PySem.F.slot_list_extend PySem.F.type_list_extend mg_extend (pv 1) plr_v (.inl ⟨_, rfl⟩) (pas_cons (px_frz (px_callM G__law_spoken (hr.mono (by omega)) (by rfl) (L2N.takes_of rfl rfl rfl rfl) (pas_cons (px_var (pv 2)) pas_nil))) pas_nil)))) sts_nil))) (sts_one (st_ret (px_varO (pv 1)))))))
theorem all__law_spoken {f__law_spoken : Addr} {fd__law_spoken : FuncData} (T__law_spoken : DefAt K mg "_law_spoken" s__law_spoken ["_law_tree"] f__law_spoken fd__law_spoken) (n_isinstance : mg "isinstance" = none) (n_tuple : mg "tuple" = none) : ∀ n : Nat, FnM P w K mg base "_law_spoken" (0 + n) 1 (m__law_spoken n)
  | 0 => fnM_bad T__law_spoken
  | n + 1 => by
    have ih := all__law_spoken T__law_spoken n_isinstance n_tuple n
    exact ok__law_spoken T__law_spoken ih n_isinstance n_tuple
theorem ok__law_good {f : Addr} {fd : FuncData} (T : DefAt K mg "_law_good" s__law_good ["_law_plan_here", "_law_tree"] f fd) {n : Nat} (G__law_spoken : FnM P w K mg base "_law_spoken" 60 1 (m__law_spoken 60)) {c__law_good : MF} (G__law_good : FnM P w K mg base "_law_good" (60 + n) 2 c__law_good) : FnM P w K mg base "_law_good" (60 + n + 1) 2 (runF 2 6 (b__law_good c__law_good)) := by
  refine fnM (k := 60 + n) T sc__law_good rfl rfl fun cdv A outer s H E hr => ?_
  exact (sts_cons (st_set (i := 2) sc__law_good.nd rfl (.inl rfl) px_dict0) (sts_cons (st_for (passes_of rfl) rfl (it_seq (px_ix (og_ix (hu65 hr)) (px_var (pv 0)) px_int (fun _ _ => rfl))) (tg_name sc__law_good.nd rfl (.inl rfl)) (sts_one (st_setIx (hu65 hr) (px_varF (pv 3)) (pv 2) plr_v (px_ix (og_ix (hu65 hr)) (px_var (pv 3)) px_int (fun _ _ => rfl))))) (sts_cons (st_if (pb_cmp (og_in (hu65 hr)) (px_ix (og_ix (hu65 hr)) (px_var (pv 1)) px_int (fun _ _ => rfl)) (px_tup (pas_cons px_str (pas_cons px_str pas_nil)))) (sts_one (st_ret px_bl)) sts_nil) (sts_cons (st_if (pb_cmp (og_eq hr.units) (px_ix (og_ix (hu65 hr)) (px_var (pv 1)) px_int (fun _ _ => rfl)) px_str) (sts_one (st_ret (px_and (px_cmp (og_in (hu65 hr)) (px_ix (og_ix (hu65 hr)) (px_var (pv 1)) px_int (fun _ _ => rfl)) (px_var (pv 2))) (px_one (px_cmp (og_in (hu65 hr)) (px_ix (og_ix (hu65 hr)) (px_var (pv 1)) px_int (fun _ _ => rfl)) (px_var (pv 2))))))) sts_nil) (sts_cons (st_if (pb_cmp (og_in (hu65 hr)) (px_ix (og_ix (hu65 hr)) (px_var (pv 1)) px_int (fun _ _ => rfl)) (px_tup (pas_cons px_str (pas_cons px_str (pas_cons px_str pas_nil))))) (sts_one (st_ret (px_cmp (og_notIn (hu65 hr)) px_bl (px_lc rfl sc__law_good.nd (it_seqT (px_sl (px_var (pv 1)) (pos_some px_int) pos_none)) (blkOk_by (own := [("_law_part_here", 5)]) (N := N__law_good) (sc := defScope s__law_good) (by decide +kernel)) rfl (fun _ _ _ _ _ => (tg_name sc__law_good.nd rfl (.inl rfl))) (fun _ _ _ _ _ => ptt_nil) (fun _ _ _ _ _ => (px_frz (px_callM G__law_good (hr.mono (by omega)) (by rfl) takesN0 (pas_cons (px_var (pv 0)) (pas_cons (px_var (pv 5)) pas_nil))))))))) sts_nil) (sts_cons (st_if (pb_cmp (og_notIn (hu65 hr)) (px_ix (og_ix (hu65 hr)) (px_var (pv 1)) px_int (fun _ _ => rfl)) (px_var (pv 2))) (sts_one (st_ret px_bl)) sts_nil) (sts_cons (st_if (pb_cmp (og_in (hu65 hr)) (px_ix (og_ix (hu65 hr)) (px_var (pv 1)) px_int (fun _ _ => rfl)) (px_tup (pas_cons px_str (pas_cons px_str pas_nil)))) (sts_one (st_ret (px_callM G__law_good (hr.mono (by omega)) (by rfl) (L2N.takes_of rfl rfl rfl rfl) (pas_cons (px_var (pv 0)) (pas_cons (px_ix (og_ix (hu65 hr)) (px_var (pv 1)) px_int (fun _ _ => rfl)) pas_nil))))) sts_nil) (sts_cons (st_set (i := 3) sc__law_good.nd rfl (.inl rfl) (px_ix (og_ix (hu65 hr)) (px_var (pv 2)) (px_ix (og_ix (hu65 hr)) (px_var (pv 1)) px_int (fun _ _ => rfl)) (fun _ _ => rfl))) (sts_cons (st_if (pwb_pt (pwb_and (pb_cmp (og_ne hr.units) (px_ix (og_ix (hu65 hr)) (px_var (pv 1)) px_int (fun _ _ => rfl)) px_str) (pwb_and1 (pb_cmp (og_notIn (hu65 hr)) (px_ix (og_ix (hu65 hr)) (px_var (pv 1)) px_int (fun _ _ => rfl)) (px_ix (og_ix (hu65 hr)) (px_var (pv 3)) px_int (fun _ _ => rfl)))))) (sts_one (st_ret px_bl)) sts_nil) (sts_cons (st_set (i := 4) sc__law_good.nd rfl (.inr rfl) (px_lc rfl sc__law_good.nd (it_seqT (px_ix (og_ix (hu65 hr)) (px_var (pv 3)) px_int (fun _ _ => rfl))) (blkOk_by (own := [("_law_cell", 6)]) (N := N__law_good) (sc := defScope s__law_good) (by decide +kernel)) rfl (fun _ _ _ _ _ => (tg_name sc__law_good.nd rfl (.inl rfl))) (fun _ _ _ _ _ => ptt_nil) (fun _ _ _ _ _ => (px_ix (og_ix (hu65 hr)) (px_var (pv 6)) px_int (fun _ _ => rfl))))) (sts_one (st_ret (px_cmp (og_eq hr.units) (px_lc rfl sc__law_good.nd (it_seqT (px_callM G__law_spoken (hr.mono (by omega)) (by rfl) (L2N.takes_of rfl rfl rfl rfl) (pas_cons (px_ix (og_ix (hu65 hr)) (px_var (pv 1)) px_int (fun _ _ => rfl)) pas_nil))) (blkOk_by (own := [("_law_name", 7)]) (N := N__law_good) (sc := defScope s__law_good) (by decide +kernel)) rfl (fun _ _ _ _ _ => (tg_name sc__law_good.nd rfl (.inl rfl))) (fun _ _ _ _ _ => (ptt_one (pb_cmp (og_notIn (hu65 hr)) (px_var (pv 7)) (px_var (pv 4))))) (fun _ _ _ _ _ => (px_varF (pv 7)))) (px_lst pas_nil))))))))))))))
theorem all__law_good {f__law_good : Addr} {fd__law_good : FuncData} (T__law_good : DefAt K mg "_law_good" s__law_good ["_law_plan_here", "_law_tree"] f__law_good fd__law_good) (G__law_spoken : FnM P w K mg base "_law_spoken" 60 1 (m__law_spoken 60)) : ∀ n : Nat, FnM P w K mg base "_law_good" (60 + n) 2 (m__law_good n)
  | 0 => fnM_bad T__law_good
  | n + 1 => by
    have ih := all__law_good T__law_good G__law_spoken n
    exact ok__law_good T__law_good G__law_spoken ih
theorem ok__law_right {f : Addr} {fd : FuncData} (T : DefAt K mg "_law_right" s__law_right ["_law_plan_here", "_law_saying_here"] f fd) (G_check_saying : FnM P w K mg base "check_saying" 122 2 m_check_saying) (G__law_good : FnM P w K mg base "_law_good" 120 2 (m__law_good 60)) (n_ValueError : mg "ValueError" = none) (n_isinstance : mg "isinstance" = none) (HD_RoadError : HdlAt K mg "RoadError" ["NoFact"]) (K_NoDeed : ∃ c, EcAt K mg "NoDeed" c) (K_NoFact : ∃ c, EcAt K mg "NoFact" c) (K_NoLine : ∃ c, EcAt K mg "NoLine" c) (K_NoPlan : ∃ c, EcAt K mg "NoPlan" c) (K_NoRow : ∃ c, EcAt K mg "NoRow" c) (K_NoText : ∃ c, EcAt K mg "NoText" c) (K_NoThing : ∃ c, EcAt K mg "NoThing" c) (K_NotPossible : ∃ c, EcAt K mg "NotPossible" c) (K_TooMany : ∃ c, EcAt K mg "TooMany" c) (ST : SubT K mg xT) : FnM P w K mg base "_law_right" (123) 2 m__law_right := by
  refine fnM (k := 122) T sc__law_right rfl rfl fun cdv A outer s H E hr => ?_
  exact (sts_cons (st_set (i := 2) sc__law_right.nd rfl (.inl rfl) px_non) (sts_cons (st_set (i := 3) sc__law_right.nd rfl (.inl rfl) px_non) (sts_cons (st_try (i := 4) rfl rfl sc__law_right.nd rfl rfl (by rfl) HD_RoadError (fun W pn xe tk po => (sts_one (st_set (i := 3) sc__law_right.nd rfl (.inl rfl) (px_callM G_check_saying (hr.mono (by decide)) (by rfl) tk (pas_cons (px_var (pv 0)) (pas_cons (px_var (pv 1)) pas_nil)))))) (fun a pn => (sts_one (st_set (i := 2) sc__law_right.nd rfl (.inl rfl) (px_varO (pv 4)))))) (sts_cons (st_if (pb_cmp (og_notIn (hu65 hr)) px_bl (px_lc rfl sc__law_right.nd (it_seqT (px_sl (px_var (pv 1)) (pos_some px_int) pos_none)) (blkOk_by (own := [("_law_fact_here", 5)]) (N := N__law_right) (sc := defScope s__law_right) (by decide +kernel)) rfl (fun _ _ _ _ _ => (tg_name sc__law_right.nd rfl (.inl rfl))) (fun _ _ _ _ _ => ptt_nil) (fun _ _ _ _ _ => (px_frz (px_callM G__law_good (hr.mono (by decide)) (by rfl) takesN0 (pas_cons (px_var (pv 0)) (pas_cons (px_var (pv 5)) pas_nil))))))) (sts_one (st_ret (px_and (px_cmp og_isN (px_var (pv 2)) px_non) (px_one (px_cmp og_isN (px_var (pv 3)) px_non))))) sts_nil) (sts_cons (st_if (pb_val (px_callB (cg_isx ST) (by rfl) n_isinstance (by decide +kernel) (pas_cons (px_var (pv 2)) (pas_cons (px_tup (pas_cons (px_cls (by rfl) K_NoDeed) (pas_cons (px_cls (by rfl) K_NoLine) (pas_cons (px_cls (by rfl) K_NoPlan) (pas_cons (px_cls (by rfl) K_NoRow) (pas_cons (px_cls (by rfl) K_NoText) (pas_cons (px_cls (by rfl) K_NotPossible) (pas_cons (px_cls (by rfl) K_NoThing) (pas_cons (px_cls (by rfl) K_TooMany) pas_nil))))))))) pas_nil)))) (sts_one (st_ret px_bl)) sts_nil) (sts_one (st_ret (px_and (px_callB (cg_isx ST) (by rfl) n_isinstance (by decide +kernel) (pas_cons (px_var (pv 2)) (pas_cons (px_cls (by rfl) K_NoFact) pas_nil))) (px_one (px_callB (cg_isx ST) (by rfl) n_isinstance (by decide +kernel) (pas_cons (px_var (pv 2)) (pas_cons (px_ty (by rfl) n_ValueError (by decide +kernel)) pas_nil))))))))))))
theorem ok_law {f : Addr} {fd : FuncData} (T : DefAt K mg "law" s_law ["_law_script"] f fd) (G__law_names : FnM P w K mg base "_law_names" 2 1 m__law_names) (G__law_plan : FnM P w K mg base "_law_plan" 3 1 m__law_plan) (G__law_saying : FnM P w K mg base "_law_saying" 5 3 m__law_saying) (G__law_right : FnM P w K mg base "_law_right" 123 2 m__law_right) (n_sum : mg "sum" = none) : FnOk P w K mg base (L2N.CX P w) (124) f fd ["_law_script"] (spM K ⟨mg, w⟩ 1 m_law) := by
  refine fnX (k := 123) T sc_law rfl rfl fun cdv A outer s H E hr => ?_
  exact (sts_cons (st_set (i := 1) sc_law.nd rfl (.inl rfl) (px_op og_add (px_sl (px_var (pv 0)) pos_none (pos_some px_int)) (px_lst (pas_cons px_int pas_nil)))) (sts_cons (st_set (i := 2) sc_law.nd rfl (.inl rfl) (px_callB (cg_sum rfl) (by rfl) n_sum (by decide +kernel) (pas_cons (px_var (pv 1)) pas_nil))) (sts_cons (st_set (i := 3) sc_law.nd rfl (.inl rfl) (px_callM G__law_plan (hr.mono (by decide)) (by rfl) (L2N.takes_of rfl rfl rfl rfl) (pas_cons (px_var (pv 2)) pas_nil))) (sts_cons (st_set (i := 4) sc_law.nd rfl (.inl rfl) (px_callM G__law_names (hr.mono (by decide)) (by rfl) (L2N.takes_of rfl rfl rfl rfl) (pas_cons (px_var (pv 2)) pas_nil))) (sts_cons (st_for (passes_of rfl) rfl (it_seq (px_varF (pv 1))) (tg_name sc_law.nd rfl (.inl rfl)) (sts_cons (st_set (i := 6) sc_law.nd rfl (.inl rfl) (px_callM G__law_saying (hr.mono (by decide)) (by rfl) (L2N.takes_of rfl rfl rfl rfl) (pas_cons (px_var (pv 3)) (pas_cons (px_var (pv 4)) (pas_cons (px_var (pv 5)) pas_nil))))) (sts_cons (st_if (pb_not (pb_val (px_callM G__law_right (hr.mono (by decide)) (by rfl) (L2N.takes_of rfl rfl rfl rfl) (pas_cons (px_var (pv 3)) (pas_cons (px_var (pv 6)) pas_nil))))) (sts_one (st_ret px_bl)) sts_nil) (sts_one (st_if (pwb_pt (pwb_or (pb_cmp (og_ne hr.units) (px_var (pv 3)) (px_callM G__law_plan (hr.mono (by decide)) (by rfl) (L2N.takes_of rfl rfl rfl rfl) (pas_cons (px_var (pv 2)) pas_nil))) (pwb_or1 (pb_cmp (og_ne hr.units) (px_var (pv 6)) (px_callM G__law_saying (hr.mono (by decide)) (by rfl) (L2N.takes_of rfl rfl rfl rfl) (pas_cons (px_var (pv 3)) (pas_cons (px_var (pv 4)) (pas_cons (px_var (pv 5)) pas_nil)))))))) (sts_one (st_ret px_bl)) sts_nil))))) (sts_one (st_ret px_bl)))))))
theorem all_mk {h : Heap} (X : K.In h) (G : h.Ns mainGlobals mg)
    {f0 : Addr} {od0 an0 : Option Addr} {sl0 : Array (Option Value)} {oc0 kV0 dc0 pm0 cd0 ct0 : Value} (a0 : PySem.W.nsIn K mainGlobals "_law_mix" = some (some (.ref f0))) (l0 : K.lookup f0 = some ⟨oc0, od0, .func (PySem.W.fnOf "_law_mix" "_law_mix" (defArgs s__law_mix) (defBody s__law_mix) (defScope s__law_mix) .none kV0 dc0 pm0 an0 cd0 ct0), sl0⟩) (c0 : PySem.W.codeIn K cd0 "_law_mix" = true) (k0 : PySem.W.keepIn K (.ref f0) = true)
    {f1 : Addr} {od1 an1 : Option Addr} {sl1 : Array (Option Value)} {oc1 kV1 dc1 pm1 cd1 ct1 : Value} (a1 : PySem.W.nsIn K mainGlobals "_law_names" = some (some (.ref f1))) (l1 : K.lookup f1 = some ⟨oc1, od1, .func (PySem.W.fnOf "_law_names" "_law_names" (defArgs s__law_names) (defBody s__law_names) (defScope s__law_names) .none kV1 dc1 pm1 an1 cd1 ct1), sl1⟩) (c1 : PySem.W.codeIn K cd1 "_law_names" = true) (k1 : PySem.W.keepIn K (.ref f1) = true)
    {f2 : Addr} {od2 an2 : Option Addr} {sl2 : Array (Option Value)} {oc2 kV2 dc2 pm2 cd2 ct2 : Value} (a2 : PySem.W.nsIn K mainGlobals "_law_plan" = some (some (.ref f2))) (l2 : K.lookup f2 = some ⟨oc2, od2, .func (PySem.W.fnOf "_law_plan" "_law_plan" (defArgs s__law_plan) (defBody s__law_plan) (defScope s__law_plan) .none kV2 dc2 pm2 an2 cd2 ct2), sl2⟩) (c2 : PySem.W.codeIn K cd2 "_law_plan" = true) (k2 : PySem.W.keepIn K (.ref f2) = true)
    {f3 : Addr} {od3 an3 : Option Addr} {sl3 : Array (Option Value)} {oc3 kV3 dc3 pm3 cd3 ct3 : Value} (a3 : PySem.W.nsIn K mainGlobals "_law_name_of" = some (some (.ref f3))) (l3 : K.lookup f3 = some ⟨oc3, od3, .func (PySem.W.fnOf "_law_name_of" "_law_name_of" (defArgs s__law_name_of) (defBody s__law_name_of) (defScope s__law_name_of) .none kV3 dc3 pm3 an3 cd3 ct3), sl3⟩) (c3 : PySem.W.codeIn K cd3 "_law_name_of" = true) (k3 : PySem.W.keepIn K (.ref f3) = true)
    {f4 : Addr} {od4 an4 : Option Addr} {sl4 : Array (Option Value)} {oc4 kV4 dc4 pm4 cd4 ct4 : Value} (a4 : PySem.W.nsIn K mainGlobals "_law_part" = some (some (.ref f4))) (l4 : K.lookup f4 = some ⟨oc4, od4, .func (PySem.W.fnOf "_law_part" "_law_part" (defArgs s__law_part) (defBody s__law_part) (defScope s__law_part) .none kV4 dc4 pm4 an4 cd4 ct4), sl4⟩) (c4 : PySem.W.codeIn K cd4 "_law_part" = true) (k4 : PySem.W.keepIn K (.ref f4) = true)
    {f5 : Addr} {od5 an5 : Option Addr} {sl5 : Array (Option Value)} {oc5 kV5 dc5 pm5 cd5 ct5 : Value} (a5 : PySem.W.nsIn K mainGlobals "_law_fact" = some (some (.ref f5))) (l5 : K.lookup f5 = some ⟨oc5, od5, .func (PySem.W.fnOf "_law_fact" "_law_fact" (defArgs s__law_fact) (defBody s__law_fact) (defScope s__law_fact) .none kV5 dc5 pm5 an5 cd5 ct5), sl5⟩) (c5 : PySem.W.codeIn K cd5 "_law_fact" = true) (k5 : PySem.W.keepIn K (.ref f5) = true)
    {f6 : Addr} {od6 an6 : Option Addr} {sl6 : Array (Option Value)} {oc6 kV6 dc6 pm6 cd6 ct6 : Value} (a6 : PySem.W.nsIn K mainGlobals "_law_saying" = some (some (.ref f6))) (l6 : K.lookup f6 = some ⟨oc6, od6, .func (PySem.W.fnOf "_law_saying" "_law_saying" (defArgs s__law_saying) (defBody s__law_saying) (defScope s__law_saying) .none kV6 dc6 pm6 an6 cd6 ct6), sl6⟩) (c6 : PySem.W.codeIn K cd6 "_law_saying" = true) (k6 : PySem.W.keepIn K (.ref f6) = true)
    {f7 : Addr} {od7 an7 : Option Addr} {sl7 : Array (Option Value)} {oc7 kV7 dc7 pm7 cd7 ct7 : Value} (a7 : PySem.W.nsIn K mainGlobals "family_of" = some (some (.ref f7))) (l7 : K.lookup f7 = some ⟨oc7, od7, .func (PySem.W.fnOf "family_of" "family_of" (defArgs s_family_of) (defBody s_family_of) (defScope s_family_of) .none kV7 dc7 pm7 an7 cd7 ct7), sl7⟩) (c7 : PySem.W.codeIn K cd7 "family_of" = true) (k7 : PySem.W.keepIn K (.ref f7) = true)
    {f8 : Addr} {od8 an8 : Option Addr} {sl8 : Array (Option Value)} {oc8 kV8 dc8 pm8 cd8 ct8 : Value} (a8 : PySem.W.nsIn K mainGlobals "names_in" = some (some (.ref f8))) (l8 : K.lookup f8 = some ⟨oc8, od8, .func (PySem.W.fnOf "names_in" "names_in" (defArgs s_names_in) (defBody s_names_in) (defScope s_names_in) .none kV8 dc8 pm8 an8 cd8 ct8), sl8⟩) (c8 : PySem.W.codeIn K cd8 "names_in" = true) (k8 : PySem.W.keepIn K (.ref f8) = true)
    {f9 : Addr} {od9 an9 : Option Addr} {sl9 : Array (Option Value)} {oc9 kV9 dc9 pm9 cd9 ct9 : Value} (a9 : PySem.W.nsIn K mainGlobals "check_hands" = some (some (.ref f9))) (l9 : K.lookup f9 = some ⟨oc9, od9, .func (PySem.W.fnOf "check_hands" "check_hands" (defArgs s_check_hands) (defBody s_check_hands) (defScope s_check_hands) .none kV9 dc9 pm9 an9 cd9 ct9), sl9⟩) (c9 : PySem.W.codeIn K cd9 "check_hands" = true) (k9 : PySem.W.keepIn K (.ref f9) = true)
    {f10 : Addr} {od10 an10 : Option Addr} {sl10 : Array (Option Value)} {oc10 kV10 dc10 pm10 cd10 ct10 : Value} (a10 : PySem.W.nsIn K mainGlobals "check_fact" = some (some (.ref f10))) (l10 : K.lookup f10 = some ⟨oc10, od10, .func (PySem.W.fnOf "check_fact" "check_fact" (defArgs s_check_fact) (defBody s_check_fact) (defScope s_check_fact) .none kV10 dc10 pm10 an10 cd10 ct10), sl10⟩) (c10 : PySem.W.codeIn K cd10 "check_fact" = true) (k10 : PySem.W.keepIn K (.ref f10) = true)
    {f11 : Addr} {od11 an11 : Option Addr} {sl11 : Array (Option Value)} {oc11 kV11 dc11 pm11 cd11 ct11 : Value} (a11 : PySem.W.nsIn K mainGlobals "check_saying" = some (some (.ref f11))) (l11 : K.lookup f11 = some ⟨oc11, od11, .func (PySem.W.fnOf "check_saying" "check_saying" (defArgs s_check_saying) (defBody s_check_saying) (defScope s_check_saying) .none kV11 dc11 pm11 an11 cd11 ct11), sl11⟩) (c11 : PySem.W.codeIn K cd11 "check_saying" = true) (k11 : PySem.W.keepIn K (.ref f11) = true)
    {f12 : Addr} {od12 an12 : Option Addr} {sl12 : Array (Option Value)} {oc12 kV12 dc12 pm12 cd12 ct12 : Value} (a12 : PySem.W.nsIn K mainGlobals "_law_spoken" = some (some (.ref f12))) (l12 : K.lookup f12 = some ⟨oc12, od12, .func (PySem.W.fnOf "_law_spoken" "_law_spoken" (defArgs s__law_spoken) (defBody s__law_spoken) (defScope s__law_spoken) .none kV12 dc12 pm12 an12 cd12 ct12), sl12⟩) (c12 : PySem.W.codeIn K cd12 "_law_spoken" = true) (k12 : PySem.W.keepIn K (.ref f12) = true)
    {f13 : Addr} {od13 an13 : Option Addr} {sl13 : Array (Option Value)} {oc13 kV13 dc13 pm13 cd13 ct13 : Value} (a13 : PySem.W.nsIn K mainGlobals "_law_good" = some (some (.ref f13))) (l13 : K.lookup f13 = some ⟨oc13, od13, .func (PySem.W.fnOf "_law_good" "_law_good" (defArgs s__law_good) (defBody s__law_good) (defScope s__law_good) .none kV13 dc13 pm13 an13 cd13 ct13), sl13⟩) (c13 : PySem.W.codeIn K cd13 "_law_good" = true) (k13 : PySem.W.keepIn K (.ref f13) = true)
    {f14 : Addr} {od14 an14 : Option Addr} {sl14 : Array (Option Value)} {oc14 kV14 dc14 pm14 cd14 ct14 : Value} (a14 : PySem.W.nsIn K mainGlobals "_law_right" = some (some (.ref f14))) (l14 : K.lookup f14 = some ⟨oc14, od14, .func (PySem.W.fnOf "_law_right" "_law_right" (defArgs s__law_right) (defBody s__law_right) (defScope s__law_right) .none kV14 dc14 pm14 an14 cd14 ct14), sl14⟩) (c14 : PySem.W.codeIn K cd14 "_law_right" = true) (k14 : PySem.W.keepIn K (.ref f14) = true)
    {f15 : Addr} {od15 an15 : Option Addr} {sl15 : Array (Option Value)} {oc15 kV15 dc15 pm15 cd15 ct15 : Value} (a15 : PySem.W.nsIn K mainGlobals "law" = some (some (.ref f15))) (l15 : K.lookup f15 = some ⟨oc15, od15, .func (PySem.W.fnOf "law" "law" (defArgs s_law) (defBody s_law) (defScope s_law) .none kV15 dc15 pm15 an15 cd15 ct15), sl15⟩) (c15 : PySem.W.codeIn K cd15 "law" = true) (k15 : PySem.W.keepIn K (.ref f15) = true)
    (z_ValueError : PySem.W.nsIn K mainGlobals "ValueError" = some none)
    (z_isinstance : PySem.W.nsIn K mainGlobals "isinstance" = some none)
    (z_len : PySem.W.nsIn K mainGlobals "len" = some none)
    (z_range : PySem.W.nsIn K mainGlobals "range" = some none)
    (z_sum : PySem.W.nsIn K mainGlobals "sum" = some none)
    (z_tuple : PySem.W.nsIn K mainGlobals "tuple" = some none)
    (xhn : PySem.W.specialIn K (.builtin "object.__class__") "__get__" = some (some (.builtin "getset_descriptor.__get__")))
    (xht : PySem.W.takesIn K (.builtin "object.__class__") = some true)
    {E_NoFact : Addr}
    (xa_NoFact : PySem.W.nsIn K mainGlobals "NoFact" = some (some (.ref E_NoFact)))
    (xga_NoFact : PySem.W.findIn K (.ref E_NoFact) "__getattribute__" = some (some (.builtin "BaseException.__getattribute__")))
    (xgg_NoFact : PySem.W.findIn K (.ref E_NoFact) "__getattr__" = some none)
    (xsb_NoFact : PySem.W.subIn K (.ref E_NoFact) (.type "BaseException") = some true)
    (xhd_NoFact : PySem.W.hasDictIn K E_NoFact = true)
    (xha_NoFact : PySem.W.findIn K (.ref E_NoFact) "__class__" = some (some (.builtin "object.__class__")))
    (xhm_NoFact : PySem.W.mroIn K E_NoFact (.type "object") = some true)
    (xty_NoFact : PySem.W.typeIn K (.ref E_NoFact) = some (.type "type"))
    (xkp_NoFact : PySem.W.keepIn K (.ref E_NoFact) = true)
    {E_RoadError : Addr}
    (xa_RoadError : PySem.W.nsIn K mainGlobals "RoadError" = some (some (.ref E_RoadError)))
    (xga_RoadError : PySem.W.findIn K (.ref E_RoadError) "__getattribute__" = some (some (.builtin "BaseException.__getattribute__")))
    (xgg_RoadError : PySem.W.findIn K (.ref E_RoadError) "__getattr__" = some none)
    (xsb_RoadError : PySem.W.subIn K (.ref E_RoadError) (.type "BaseException") = some true)
    (xhd_RoadError : PySem.W.hasDictIn K E_RoadError = true)
    (xha_RoadError : PySem.W.findIn K (.ref E_RoadError) "__class__" = some (some (.builtin "object.__class__")))
    (xhm_RoadError : PySem.W.mroIn K E_RoadError (.type "object") = some true)
    (xty_RoadError : PySem.W.typeIn K (.ref E_RoadError) = some (.type "type"))
    (xkp_RoadError : PySem.W.keepIn K (.ref E_RoadError) = true)
    {E_NoDeed : Addr}
    (xa_NoDeed : PySem.W.nsIn K mainGlobals "NoDeed" = some (some (.ref E_NoDeed)))
    (xga_NoDeed : PySem.W.findIn K (.ref E_NoDeed) "__getattribute__" = some (some (.builtin "BaseException.__getattribute__")))
    (xgg_NoDeed : PySem.W.findIn K (.ref E_NoDeed) "__getattr__" = some none)
    (xsb_NoDeed : PySem.W.subIn K (.ref E_NoDeed) (.type "BaseException") = some true)
    (xhd_NoDeed : PySem.W.hasDictIn K E_NoDeed = true)
    (xha_NoDeed : PySem.W.findIn K (.ref E_NoDeed) "__class__" = some (some (.builtin "object.__class__")))
    (xhm_NoDeed : PySem.W.mroIn K E_NoDeed (.type "object") = some true)
    (xty_NoDeed : PySem.W.typeIn K (.ref E_NoDeed) = some (.type "type"))
    (xkp_NoDeed : PySem.W.keepIn K (.ref E_NoDeed) = true)
    {E_NoLine : Addr}
    (xa_NoLine : PySem.W.nsIn K mainGlobals "NoLine" = some (some (.ref E_NoLine)))
    (xga_NoLine : PySem.W.findIn K (.ref E_NoLine) "__getattribute__" = some (some (.builtin "BaseException.__getattribute__")))
    (xgg_NoLine : PySem.W.findIn K (.ref E_NoLine) "__getattr__" = some none)
    (xsb_NoLine : PySem.W.subIn K (.ref E_NoLine) (.type "BaseException") = some true)
    (xhd_NoLine : PySem.W.hasDictIn K E_NoLine = true)
    (xha_NoLine : PySem.W.findIn K (.ref E_NoLine) "__class__" = some (some (.builtin "object.__class__")))
    (xhm_NoLine : PySem.W.mroIn K E_NoLine (.type "object") = some true)
    (xty_NoLine : PySem.W.typeIn K (.ref E_NoLine) = some (.type "type"))
    (xkp_NoLine : PySem.W.keepIn K (.ref E_NoLine) = true)
    {E_NoPlan : Addr}
    (xa_NoPlan : PySem.W.nsIn K mainGlobals "NoPlan" = some (some (.ref E_NoPlan)))
    (xga_NoPlan : PySem.W.findIn K (.ref E_NoPlan) "__getattribute__" = some (some (.builtin "BaseException.__getattribute__")))
    (xgg_NoPlan : PySem.W.findIn K (.ref E_NoPlan) "__getattr__" = some none)
    (xsb_NoPlan : PySem.W.subIn K (.ref E_NoPlan) (.type "BaseException") = some true)
    (xhd_NoPlan : PySem.W.hasDictIn K E_NoPlan = true)
    (xha_NoPlan : PySem.W.findIn K (.ref E_NoPlan) "__class__" = some (some (.builtin "object.__class__")))
    (xhm_NoPlan : PySem.W.mroIn K E_NoPlan (.type "object") = some true)
    (xty_NoPlan : PySem.W.typeIn K (.ref E_NoPlan) = some (.type "type"))
    (xkp_NoPlan : PySem.W.keepIn K (.ref E_NoPlan) = true)
    {E_NoRow : Addr}
    (xa_NoRow : PySem.W.nsIn K mainGlobals "NoRow" = some (some (.ref E_NoRow)))
    (xga_NoRow : PySem.W.findIn K (.ref E_NoRow) "__getattribute__" = some (some (.builtin "BaseException.__getattribute__")))
    (xgg_NoRow : PySem.W.findIn K (.ref E_NoRow) "__getattr__" = some none)
    (xsb_NoRow : PySem.W.subIn K (.ref E_NoRow) (.type "BaseException") = some true)
    (xhd_NoRow : PySem.W.hasDictIn K E_NoRow = true)
    (xha_NoRow : PySem.W.findIn K (.ref E_NoRow) "__class__" = some (some (.builtin "object.__class__")))
    (xhm_NoRow : PySem.W.mroIn K E_NoRow (.type "object") = some true)
    (xty_NoRow : PySem.W.typeIn K (.ref E_NoRow) = some (.type "type"))
    (xkp_NoRow : PySem.W.keepIn K (.ref E_NoRow) = true)
    {E_NoText : Addr}
    (xa_NoText : PySem.W.nsIn K mainGlobals "NoText" = some (some (.ref E_NoText)))
    (xga_NoText : PySem.W.findIn K (.ref E_NoText) "__getattribute__" = some (some (.builtin "BaseException.__getattribute__")))
    (xgg_NoText : PySem.W.findIn K (.ref E_NoText) "__getattr__" = some none)
    (xsb_NoText : PySem.W.subIn K (.ref E_NoText) (.type "BaseException") = some true)
    (xhd_NoText : PySem.W.hasDictIn K E_NoText = true)
    (xha_NoText : PySem.W.findIn K (.ref E_NoText) "__class__" = some (some (.builtin "object.__class__")))
    (xhm_NoText : PySem.W.mroIn K E_NoText (.type "object") = some true)
    (xty_NoText : PySem.W.typeIn K (.ref E_NoText) = some (.type "type"))
    (xkp_NoText : PySem.W.keepIn K (.ref E_NoText) = true)
    {E_NoThing : Addr}
    (xa_NoThing : PySem.W.nsIn K mainGlobals "NoThing" = some (some (.ref E_NoThing)))
    (xga_NoThing : PySem.W.findIn K (.ref E_NoThing) "__getattribute__" = some (some (.builtin "BaseException.__getattribute__")))
    (xgg_NoThing : PySem.W.findIn K (.ref E_NoThing) "__getattr__" = some none)
    (xsb_NoThing : PySem.W.subIn K (.ref E_NoThing) (.type "BaseException") = some true)
    (xhd_NoThing : PySem.W.hasDictIn K E_NoThing = true)
    (xha_NoThing : PySem.W.findIn K (.ref E_NoThing) "__class__" = some (some (.builtin "object.__class__")))
    (xhm_NoThing : PySem.W.mroIn K E_NoThing (.type "object") = some true)
    (xty_NoThing : PySem.W.typeIn K (.ref E_NoThing) = some (.type "type"))
    (xkp_NoThing : PySem.W.keepIn K (.ref E_NoThing) = true)
    {E_NotPossible : Addr}
    (xa_NotPossible : PySem.W.nsIn K mainGlobals "NotPossible" = some (some (.ref E_NotPossible)))
    (xga_NotPossible : PySem.W.findIn K (.ref E_NotPossible) "__getattribute__" = some (some (.builtin "BaseException.__getattribute__")))
    (xgg_NotPossible : PySem.W.findIn K (.ref E_NotPossible) "__getattr__" = some none)
    (xsb_NotPossible : PySem.W.subIn K (.ref E_NotPossible) (.type "BaseException") = some true)
    (xhd_NotPossible : PySem.W.hasDictIn K E_NotPossible = true)
    (xha_NotPossible : PySem.W.findIn K (.ref E_NotPossible) "__class__" = some (some (.builtin "object.__class__")))
    (xhm_NotPossible : PySem.W.mroIn K E_NotPossible (.type "object") = some true)
    (xty_NotPossible : PySem.W.typeIn K (.ref E_NotPossible) = some (.type "type"))
    (xkp_NotPossible : PySem.W.keepIn K (.ref E_NotPossible) = true)
    {E_TooMany : Addr}
    (xa_TooMany : PySem.W.nsIn K mainGlobals "TooMany" = some (some (.ref E_TooMany)))
    (xga_TooMany : PySem.W.findIn K (.ref E_TooMany) "__getattribute__" = some (some (.builtin "BaseException.__getattribute__")))
    (xgg_TooMany : PySem.W.findIn K (.ref E_TooMany) "__getattr__" = some none)
    (xsb_TooMany : PySem.W.subIn K (.ref E_TooMany) (.type "BaseException") = some true)
    (xhd_TooMany : PySem.W.hasDictIn K E_TooMany = true)
    (xha_TooMany : PySem.W.findIn K (.ref E_TooMany) "__class__" = some (some (.builtin "object.__class__")))
    (xhm_TooMany : PySem.W.mroIn K E_TooMany (.type "object") = some true)
    (xty_TooMany : PySem.W.typeIn K (.ref E_TooMany) = some (.type "type"))
    (xkp_TooMany : PySem.W.keepIn K (.ref E_TooMany) = true)
    (xq_NoFact : PySem.W.excIn K E_NoFact [.type "ValueError", .type "Exception", .type "BaseException", .type "object"] "ValueError.__new__" = true)
    (xs_NoDeed_NoDeed : PySem.W.subIn K (.ref E_NoDeed) (.ref E_NoDeed) = some true)
    (xs_NoFact_NoDeed : PySem.W.subIn K (.ref E_NoFact) (.ref E_NoDeed) = some false)
    (xs_NoFact_NoFact : PySem.W.subIn K (.ref E_NoFact) (.ref E_NoFact) = some true)
    (xs_NoFact_NoLine : PySem.W.subIn K (.ref E_NoFact) (.ref E_NoLine) = some false)
    (xs_NoLine_NoLine : PySem.W.subIn K (.ref E_NoLine) (.ref E_NoLine) = some true)
    (xs_NoFact_NoPlan : PySem.W.subIn K (.ref E_NoFact) (.ref E_NoPlan) = some false)
    (xs_NoPlan_NoPlan : PySem.W.subIn K (.ref E_NoPlan) (.ref E_NoPlan) = some true)
    (xs_NoFact_NoRow : PySem.W.subIn K (.ref E_NoFact) (.ref E_NoRow) = some false)
    (xs_NoRow_NoRow : PySem.W.subIn K (.ref E_NoRow) (.ref E_NoRow) = some true)
    (xs_NoFact_NoText : PySem.W.subIn K (.ref E_NoFact) (.ref E_NoText) = some false)
    (xs_NoText_NoText : PySem.W.subIn K (.ref E_NoText) (.ref E_NoText) = some true)
    (xs_NoFact_NoThing : PySem.W.subIn K (.ref E_NoFact) (.ref E_NoThing) = some false)
    (xs_NoThing_NoThing : PySem.W.subIn K (.ref E_NoThing) (.ref E_NoThing) = some true)
    (xs_NoFact_NotPossible : PySem.W.subIn K (.ref E_NoFact) (.ref E_NotPossible) = some false)
    (xs_NotPossible_NotPossible : PySem.W.subIn K (.ref E_NotPossible) (.ref E_NotPossible) = some true)
    (xs_NoFact_RoadError : PySem.W.subIn K (.ref E_NoFact) (.ref E_RoadError) = some true)
    (xs_RoadError_RoadError : PySem.W.subIn K (.ref E_RoadError) (.ref E_RoadError) = some true)
    (xs_NoFact_TooMany : PySem.W.subIn K (.ref E_NoFact) (.ref E_TooMany) = some false)
    (xs_TooMany_TooMany : PySem.W.subIn K (.ref E_TooMany) (.ref E_TooMany) = some true)
    (xs_NoFact_ValueError : PySem.W.subIn K (.ref E_NoFact) (.type "ValueError") = some true) :
    FnOk P w K mg base (L2N.CX P w) 124 f15 (PySem.W.fnOf "law" "law" (defArgs s_law) (defBody s_law) (defScope s_law) .none kV15 dc15 pm15 an15 cd15 ct15) ["_law_script"] (spM K ⟨mg, w⟩ 1 m_law) := by
  have F0 := fun_mk (st := s__law_mix) l0 c0 k0
  have T__law_mix : DefAt K mg "_law_mix" s__law_mix ["_law_cell", "_law_j"] _ _ := ⟨F0, F0.binds fun _ _ _ _ _ _ us hl => match us, hl with | [_, _], _ => rfl, PySem.W.mg_of X G a0⟩
  have F1 := fun_mk (st := s__law_names) l1 c1 k1
  have T__law_names : DefAt K mg "_law_names" s__law_names ["_law_total"] _ _ := ⟨F1, F1.binds fun _ _ _ _ _ _ us hl => match us, hl with | [_], _ => rfl, PySem.W.mg_of X G a1⟩
  have F2 := fun_mk (st := s__law_plan) l2 c2 k2
  have T__law_plan : DefAt K mg "_law_plan" s__law_plan ["_law_total"] _ _ := ⟨F2, F2.binds fun _ _ _ _ _ _ us hl => match us, hl with | [_], _ => rfl, PySem.W.mg_of X G a2⟩
  have F3 := fun_mk (st := s__law_name_of) l3 c3 k3
  have T__law_name_of : DefAt K mg "_law_name_of" s__law_name_of ["_law_plan_here", "_law_names_here", "_law_cell", "_law_j", "_law_kind", "_law_family"] _ _ := ⟨F3, F3.binds fun _ _ _ _ _ _ us hl => match us, hl with | [_, _, _, _, _, _], _ => rfl, PySem.W.mg_of X G a3⟩
  have F4 := fun_mk (st := s__law_part) l4 c4 k4
  have T__law_part : DefAt K mg "_law_part" s__law_part ["_law_plan_here", "_law_names_here", "_law_cell", "_law_j"] _ _ := ⟨F4, F4.binds fun _ _ _ _ _ _ us hl => match us, hl with | [_, _, _, _], _ => rfl, PySem.W.mg_of X G a4⟩
  have F5 := fun_mk (st := s__law_fact) l5 c5 k5
  have T__law_fact : DefAt K mg "_law_fact" s__law_fact ["_law_plan_here", "_law_names_here", "_law_cell", "_law_j"] _ _ := ⟨F5, F5.binds fun _ _ _ _ _ _ us hl => match us, hl with | [_, _, _, _], _ => rfl, PySem.W.mg_of X G a5⟩
  have F6 := fun_mk (st := s__law_saying) l6 c6 k6
  have T__law_saying : DefAt K mg "_law_saying" s__law_saying ["_law_plan_here", "_law_names_here", "_law_cell"] _ _ := ⟨F6, F6.binds fun _ _ _ _ _ _ us hl => match us, hl with | [_, _, _], _ => rfl, PySem.W.mg_of X G a6⟩
  have F7 := fun_mk (st := s_family_of) l7 c7 k7
  have T_family_of : DefAt K mg "family_of" s_family_of ["plan", "name"] _ _ := ⟨F7, F7.binds fun _ _ _ _ _ _ us hl => match us, hl with | [_, _], _ => rfl, PySem.W.mg_of X G a7⟩
  have F8 := fun_mk (st := s_names_in) l8 c8 k8
  have T_names_in : DefAt K mg "names_in" s_names_in ["tree"] _ _ := ⟨F8, F8.binds fun _ _ _ _ _ _ us hl => match us, hl with | [_], _ => rfl, PySem.W.mg_of X G a8⟩
  have F9 := fun_mk (st := s_check_hands) l9 c9 k9
  have T_check_hands : DefAt K mg "check_hands" s_check_hands ["plan", "fact"] _ _ := ⟨F9, F9.binds fun _ _ _ _ _ _ us hl => match us, hl with | [_, _], _ => rfl, PySem.W.mg_of X G a9⟩
  have F10 := fun_mk (st := s_check_fact) l10 c10 k10
  have T_check_fact : DefAt K mg "check_fact" s_check_fact ["plan", "fact"] _ _ := ⟨F10, F10.binds fun _ _ _ _ _ _ us hl => match us, hl with | [_, _], _ => rfl, PySem.W.mg_of X G a10⟩
  have F11 := fun_mk (st := s_check_saying) l11 c11 k11
  have T_check_saying : DefAt K mg "check_saying" s_check_saying ["plan", "saying"] _ _ := ⟨F11, F11.binds fun _ _ _ _ _ _ us hl => match us, hl with | [_, _], _ => rfl, PySem.W.mg_of X G a11⟩
  have F12 := fun_mk (st := s__law_spoken) l12 c12 k12
  have T__law_spoken : DefAt K mg "_law_spoken" s__law_spoken ["_law_tree"] _ _ := ⟨F12, F12.binds fun _ _ _ _ _ _ us hl => match us, hl with | [_], _ => rfl, PySem.W.mg_of X G a12⟩
  have F13 := fun_mk (st := s__law_good) l13 c13 k13
  have T__law_good : DefAt K mg "_law_good" s__law_good ["_law_plan_here", "_law_tree"] _ _ := ⟨F13, F13.binds fun _ _ _ _ _ _ us hl => match us, hl with | [_, _], _ => rfl, PySem.W.mg_of X G a13⟩
  have F14 := fun_mk (st := s__law_right) l14 c14 k14
  have T__law_right : DefAt K mg "_law_right" s__law_right ["_law_plan_here", "_law_saying_here"] _ _ := ⟨F14, F14.binds fun _ _ _ _ _ _ us hl => match us, hl with | [_, _], _ => rfl, PySem.W.mg_of X G a14⟩
  have F15 := fun_mk (st := s_law) l15 c15 k15
  have T_law : DefAt K mg "law" s_law ["_law_script"] _ _ := ⟨F15, F15.binds fun _ _ _ _ _ _ us hl => match us, hl with | [_], _ => rfl, PySem.W.mg_of X G a15⟩
  have n_ValueError := PySem.W.mg_none_of X G z_ValueError
  have n_isinstance := PySem.W.mg_none_of X G z_isinstance
  have n_len := PySem.W.mg_none_of X G z_len
  have n_range := PySem.W.mg_none_of X G z_range
  have n_sum := PySem.W.mg_none_of X G z_sum
  have n_tuple := PySem.W.mg_none_of X G z_tuple
  have e_NoFact : EcAt K mg "NoFact" E_NoFact := ⟨PySem.W.mg_of X G xa_NoFact, xga_NoFact, xgg_NoFact, xsb_NoFact, xhd_NoFact, xha_NoFact, xhn, xht, xhm_NoFact, xty_NoFact, xkp_NoFact⟩
  have e_RoadError : EcAt K mg "RoadError" E_RoadError := ⟨PySem.W.mg_of X G xa_RoadError, xga_RoadError, xgg_RoadError, xsb_RoadError, xhd_RoadError, xha_RoadError, xhn, xht, xhm_RoadError, xty_RoadError, xkp_RoadError⟩
  have e_NoDeed : EcAt K mg "NoDeed" E_NoDeed := ⟨PySem.W.mg_of X G xa_NoDeed, xga_NoDeed, xgg_NoDeed, xsb_NoDeed, xhd_NoDeed, xha_NoDeed, xhn, xht, xhm_NoDeed, xty_NoDeed, xkp_NoDeed⟩
  have e_NoLine : EcAt K mg "NoLine" E_NoLine := ⟨PySem.W.mg_of X G xa_NoLine, xga_NoLine, xgg_NoLine, xsb_NoLine, xhd_NoLine, xha_NoLine, xhn, xht, xhm_NoLine, xty_NoLine, xkp_NoLine⟩
  have e_NoPlan : EcAt K mg "NoPlan" E_NoPlan := ⟨PySem.W.mg_of X G xa_NoPlan, xga_NoPlan, xgg_NoPlan, xsb_NoPlan, xhd_NoPlan, xha_NoPlan, xhn, xht, xhm_NoPlan, xty_NoPlan, xkp_NoPlan⟩
  have e_NoRow : EcAt K mg "NoRow" E_NoRow := ⟨PySem.W.mg_of X G xa_NoRow, xga_NoRow, xgg_NoRow, xsb_NoRow, xhd_NoRow, xha_NoRow, xhn, xht, xhm_NoRow, xty_NoRow, xkp_NoRow⟩
  have e_NoText : EcAt K mg "NoText" E_NoText := ⟨PySem.W.mg_of X G xa_NoText, xga_NoText, xgg_NoText, xsb_NoText, xhd_NoText, xha_NoText, xhn, xht, xhm_NoText, xty_NoText, xkp_NoText⟩
  have e_NoThing : EcAt K mg "NoThing" E_NoThing := ⟨PySem.W.mg_of X G xa_NoThing, xga_NoThing, xgg_NoThing, xsb_NoThing, xhd_NoThing, xha_NoThing, xhn, xht, xhm_NoThing, xty_NoThing, xkp_NoThing⟩
  have e_NotPossible : EcAt K mg "NotPossible" E_NotPossible := ⟨PySem.W.mg_of X G xa_NotPossible, xga_NotPossible, xgg_NotPossible, xsb_NotPossible, xhd_NotPossible, xha_NotPossible, xhn, xht, xhm_NotPossible, xty_NotPossible, xkp_NotPossible⟩
  have e_TooMany : EcAt K mg "TooMany" E_TooMany := ⟨PySem.W.mg_of X G xa_TooMany, xga_TooMany, xgg_TooMany, xsb_TooMany, xhd_TooMany, xha_TooMany, xhn, xht, xhm_TooMany, xty_TooMany, xkp_TooMany⟩
  have HD_RoadError : HdlAt K mg "RoadError" ["NoFact"] := ⟨_, e_RoadError.g, List.forall_mem_cons.2 ⟨⟨_, e_NoFact.g, EcAt.exm e_RoadError xs_NoFact_RoadError⟩, List.forall_mem_nil _⟩⟩
  have K_NoDeed : ∃ c, EcAt K mg "NoDeed" c := ⟨_, e_NoDeed⟩
  have K_NoFact : ∃ c, EcAt K mg "NoFact" c := ⟨_, e_NoFact⟩
  have K_NoLine : ∃ c, EcAt K mg "NoLine" c := ⟨_, e_NoLine⟩
  have K_NoPlan : ∃ c, EcAt K mg "NoPlan" c := ⟨_, e_NoPlan⟩
  have K_NoRow : ∃ c, EcAt K mg "NoRow" c := ⟨_, e_NoRow⟩
  have K_NoText : ∃ c, EcAt K mg "NoText" c := ⟨_, e_NoText⟩
  have K_NoThing : ∃ c, EcAt K mg "NoThing" c := ⟨_, e_NoThing⟩
  have K_NotPossible : ∃ c, EcAt K mg "NotPossible" c := ⟨_, e_NotPossible⟩
  have K_TooMany : ∃ c, EcAt K mg "TooMany" c := ⟨_, e_TooMany⟩
  have ST : SubT K mg xT := ⟨List.forall_mem_cons.2 ⟨⟨_, _, e_NoFact, e_NoDeed.g, EcAt.kit e_NoDeed xs_NoFact_NoDeed (fun z => by rw [z] at xs_NoFact_NoDeed; rw [xs_NoDeed_NoDeed] at xs_NoFact_NoDeed; cases xs_NoFact_NoDeed)⟩, List.forall_mem_cons.2 ⟨⟨_, _, e_NoFact, e_NoLine.g, EcAt.kit e_NoLine xs_NoFact_NoLine (fun z => by rw [z] at xs_NoFact_NoLine; rw [xs_NoLine_NoLine] at xs_NoFact_NoLine; cases xs_NoFact_NoLine)⟩, List.forall_mem_cons.2 ⟨⟨_, _, e_NoFact, e_NoPlan.g, EcAt.kit e_NoPlan xs_NoFact_NoPlan (fun z => by rw [z] at xs_NoFact_NoPlan; rw [xs_NoPlan_NoPlan] at xs_NoFact_NoPlan; cases xs_NoFact_NoPlan)⟩, List.forall_mem_cons.2 ⟨⟨_, _, e_NoFact, e_NoRow.g, EcAt.kit e_NoRow xs_NoFact_NoRow (fun z => by rw [z] at xs_NoFact_NoRow; rw [xs_NoRow_NoRow] at xs_NoFact_NoRow; cases xs_NoFact_NoRow)⟩, List.forall_mem_cons.2 ⟨⟨_, _, e_NoFact, e_NoText.g, EcAt.kit e_NoText xs_NoFact_NoText (fun z => by rw [z] at xs_NoFact_NoText; rw [xs_NoText_NoText] at xs_NoFact_NoText; cases xs_NoFact_NoText)⟩, List.forall_mem_cons.2 ⟨⟨_, _, e_NoFact, e_NotPossible.g, EcAt.kit e_NotPossible xs_NoFact_NotPossible (fun z => by rw [z] at xs_NoFact_NotPossible; rw [xs_NotPossible_NotPossible] at xs_NoFact_NotPossible; cases xs_NoFact_NotPossible)⟩, List.forall_mem_cons.2 ⟨⟨_, _, e_NoFact, e_NoThing.g, EcAt.kit e_NoThing xs_NoFact_NoThing (fun z => by rw [z] at xs_NoFact_NoThing; rw [xs_NoThing_NoThing] at xs_NoFact_NoThing; cases xs_NoFact_NoThing)⟩, List.forall_mem_cons.2 ⟨⟨_, _, e_NoFact, e_TooMany.g, EcAt.kit e_TooMany xs_NoFact_TooMany (fun z => by rw [z] at xs_NoFact_TooMany; rw [xs_TooMany_TooMany] at xs_NoFact_TooMany; cases xs_NoFact_TooMany)⟩, List.forall_mem_cons.2 ⟨⟨_, _, e_NoFact, e_NoFact.g, EcAt.kit e_NoFact xs_NoFact_NoFact (fun z => by rfl)⟩, List.forall_mem_nil _⟩⟩⟩⟩⟩⟩⟩⟩⟩, List.forall_mem_cons.2 ⟨⟨_, e_NoFact, EcAt.kitB xs_NoFact_ValueError (by decide +kernel) rfl⟩, List.forall_mem_nil _⟩⟩
  have X_NoFact : Ec0 K mg "NoFact" := ⟨_, e_NoFact, xq_NoFact⟩
  have G__law_mix : FnM P w K mg base "_law_mix" 1 2 m__law_mix := ok__law_mix T__law_mix
  have G__law_names : FnM P w K mg base "_law_names" 2 1 m__law_names := ok__law_names T__law_names G__law_mix n_range
  have G__law_plan : FnM P w K mg base "_law_plan" 3 1 m__law_plan := ok__law_plan T__law_plan G__law_mix G__law_names n_range
  have G__law_name_of : FnM P w K mg base "_law_name_of" 2 6 m__law_name_of := ok__law_name_of T__law_name_of G__law_mix n_len
  have G__law_part : FnM P w K mg base "_law_part" 3 4 m__law_part := ok__law_part T__law_part G__law_mix G__law_name_of
  have G__law_fact : FnM P w K mg base "_law_fact" 4 4 m__law_fact := ok__law_fact T__law_fact G__law_mix G__law_part
  have G__law_saying : FnM P w K mg base "_law_saying" 5 3 m__law_saying := ok__law_saying T__law_saying G__law_mix G__law_fact
  have G_family_of : FnM P w K mg base "family_of" 1 2 m_family_of := ok_family_of T_family_of X_NoFact
  have G_names_in : FnM P w K mg base "names_in" 60 1 (m_names_in 60) := (all_names_in T_names_in n_isinstance n_tuple 60)
  have G_check_hands : FnM P w K mg base "check_hands" 61 2 m_check_hands := ok_check_hands T_check_hands G_family_of G_names_in X_NoFact
  have G_check_fact : FnM P w K mg base "check_fact" 121 2 (m_check_fact 60) := (all_check_fact T_check_fact G_family_of G_check_hands 60)
  have G_check_saying : FnM P w K mg base "check_saying" 122 2 m_check_saying := ok_check_saying T_check_saying G_check_fact
  have G__law_spoken : FnM P w K mg base "_law_spoken" 60 1 (m__law_spoken 60) := (all__law_spoken T__law_spoken n_isinstance n_tuple 60)
  have G__law_good : FnM P w K mg base "_law_good" 120 2 (m__law_good 60) := (all__law_good T__law_good G__law_spoken 60)
  have G__law_right : FnM P w K mg base "_law_right" 123 2 m__law_right := ok__law_right T__law_right G_check_saying G__law_good n_ValueError n_isinstance HD_RoadError K_NoDeed K_NoFact K_NoLine K_NoPlan K_NoRow K_NoText K_NoThing K_NotPossible K_TooMany ST
  exact ok_law T_law G__law_names G__law_plan G__law_saying G__law_right n_sum
end
theorem walk {l : PySem.W.OpenLaw} {q : Program} {loose : List Str} {XP : (Str → Option Value) → Heap → Prop} {YP : World → Heap → Prop} {d : DefRec} {K : Params → PySem.W.Frag} (hn : l.most = some 63) (hdf : d.params.defaults = [])
    (hY : ∀ (w : World) (h : Heap), YP w h → (K w.params).In h)
    (F : ∀ (w : World) (mg : Str → Option Value) (fa : Addr) (h : Heap), (K w.params).In h → h.Ns mainGlobals mg → mg d.name = some (.ref fa) →
      ∃ fd : FuncData, (∀ (s : Shared) (u : Value), BindsTo s fd ⟨[u], []⟩ [("_law_script", u)]) ∧ ∀ base : Heap, (K w.params).In base → base.Ns mainGlobals mg → FnOk l.prog w (K w.params) mg base (L2N.CX l.prog w) 124 fa fd ["_law_script"] (spLaw (K w.params))) :
    PySem.W.WalkO q loose XP YP l.row.toRowW d [] (fun f vs => PySem.call f vs) :=
  L2.walk_of (n := 63) (k := 124) (x := "_law_script") (CX := fun w => L2N.CX l.prog w) (sp := fun w => spLaw (K w.params)) hn (by decide) hdf ⟨rfl, by decide, by decide⟩ hY F (fun _ _ a ns hl _ hS => ⟨a, ns, rfl, hS, hl, fun _ => rfl⟩) fun _ => cx_none
theorem fin {l : PySem.W.OpenLaw} {w : World} {K : PySem.W.Frag} {h : Heap} {mg : Str → Option Value} {fa : Addr} (X : K.In h) (G : h.Ns mainGlobals mg) (hfa : mg "law" = some (.ref fa)) (hs : Says m_law)
    {f0 : Addr} {od0 an0 : Option Addr} {sl0 : Array (Option Value)} {oc0 kV0 dc0 pm0 cd0 ct0 : Value} (a0 : PySem.W.nsIn K mainGlobals "_law_mix" = some (some (.ref f0))) (l0 : K.lookup f0 = some ⟨oc0, od0, .func (PySem.W.fnOf "_law_mix" "_law_mix" (defArgs s__law_mix) (defBody s__law_mix) (defScope s__law_mix) .none kV0 dc0 pm0 an0 cd0 ct0), sl0⟩) (c0 : PySem.W.codeIn K cd0 "_law_mix" = true) (k0 : PySem.W.keepIn K (.ref f0) = true)
    {f1 : Addr} {od1 an1 : Option Addr} {sl1 : Array (Option Value)} {oc1 kV1 dc1 pm1 cd1 ct1 : Value} (a1 : PySem.W.nsIn K mainGlobals "_law_names" = some (some (.ref f1))) (l1 : K.lookup f1 = some ⟨oc1, od1, .func (PySem.W.fnOf "_law_names" "_law_names" (defArgs s__law_names) (defBody s__law_names) (defScope s__law_names) .none kV1 dc1 pm1 an1 cd1 ct1), sl1⟩) (c1 : PySem.W.codeIn K cd1 "_law_names" = true) (k1 : PySem.W.keepIn K (.ref f1) = true)
    {f2 : Addr} {od2 an2 : Option Addr} {sl2 : Array (Option Value)} {oc2 kV2 dc2 pm2 cd2 ct2 : Value} (a2 : PySem.W.nsIn K mainGlobals "_law_plan" = some (some (.ref f2))) (l2 : K.lookup f2 = some ⟨oc2, od2, .func (PySem.W.fnOf "_law_plan" "_law_plan" (defArgs s__law_plan) (defBody s__law_plan) (defScope s__law_plan) .none kV2 dc2 pm2 an2 cd2 ct2), sl2⟩) (c2 : PySem.W.codeIn K cd2 "_law_plan" = true) (k2 : PySem.W.keepIn K (.ref f2) = true)
    {f3 : Addr} {od3 an3 : Option Addr} {sl3 : Array (Option Value)} {oc3 kV3 dc3 pm3 cd3 ct3 : Value} (a3 : PySem.W.nsIn K mainGlobals "_law_name_of" = some (some (.ref f3))) (l3 : K.lookup f3 = some ⟨oc3, od3, .func (PySem.W.fnOf "_law_name_of" "_law_name_of" (defArgs s__law_name_of) (defBody s__law_name_of) (defScope s__law_name_of) .none kV3 dc3 pm3 an3 cd3 ct3), sl3⟩) (c3 : PySem.W.codeIn K cd3 "_law_name_of" = true) (k3 : PySem.W.keepIn K (.ref f3) = true)
    {f4 : Addr} {od4 an4 : Option Addr} {sl4 : Array (Option Value)} {oc4 kV4 dc4 pm4 cd4 ct4 : Value} (a4 : PySem.W.nsIn K mainGlobals "_law_part" = some (some (.ref f4))) (l4 : K.lookup f4 = some ⟨oc4, od4, .func (PySem.W.fnOf "_law_part" "_law_part" (defArgs s__law_part) (defBody s__law_part) (defScope s__law_part) .none kV4 dc4 pm4 an4 cd4 ct4), sl4⟩) (c4 : PySem.W.codeIn K cd4 "_law_part" = true) (k4 : PySem.W.keepIn K (.ref f4) = true)
    {f5 : Addr} {od5 an5 : Option Addr} {sl5 : Array (Option Value)} {oc5 kV5 dc5 pm5 cd5 ct5 : Value} (a5 : PySem.W.nsIn K mainGlobals "_law_fact" = some (some (.ref f5))) (l5 : K.lookup f5 = some ⟨oc5, od5, .func (PySem.W.fnOf "_law_fact" "_law_fact" (defArgs s__law_fact) (defBody s__law_fact) (defScope s__law_fact) .none kV5 dc5 pm5 an5 cd5 ct5), sl5⟩) (c5 : PySem.W.codeIn K cd5 "_law_fact" = true) (k5 : PySem.W.keepIn K (.ref f5) = true)
    {f6 : Addr} {od6 an6 : Option Addr} {sl6 : Array (Option Value)} {oc6 kV6 dc6 pm6 cd6 ct6 : Value} (a6 : PySem.W.nsIn K mainGlobals "_law_saying" = some (some (.ref f6))) (l6 : K.lookup f6 = some ⟨oc6, od6, .func (PySem.W.fnOf "_law_saying" "_law_saying" (defArgs s__law_saying) (defBody s__law_saying) (defScope s__law_saying) .none kV6 dc6 pm6 an6 cd6 ct6), sl6⟩) (c6 : PySem.W.codeIn K cd6 "_law_saying" = true) (k6 : PySem.W.keepIn K (.ref f6) = true)
    {f7 : Addr} {od7 an7 : Option Addr} {sl7 : Array (Option Value)} {oc7 kV7 dc7 pm7 cd7 ct7 : Value} (a7 : PySem.W.nsIn K mainGlobals "family_of" = some (some (.ref f7))) (l7 : K.lookup f7 = some ⟨oc7, od7, .func (PySem.W.fnOf "family_of" "family_of" (defArgs s_family_of) (defBody s_family_of) (defScope s_family_of) .none kV7 dc7 pm7 an7 cd7 ct7), sl7⟩) (c7 : PySem.W.codeIn K cd7 "family_of" = true) (k7 : PySem.W.keepIn K (.ref f7) = true)
    {f8 : Addr} {od8 an8 : Option Addr} {sl8 : Array (Option Value)} {oc8 kV8 dc8 pm8 cd8 ct8 : Value} (a8 : PySem.W.nsIn K mainGlobals "names_in" = some (some (.ref f8))) (l8 : K.lookup f8 = some ⟨oc8, od8, .func (PySem.W.fnOf "names_in" "names_in" (defArgs s_names_in) (defBody s_names_in) (defScope s_names_in) .none kV8 dc8 pm8 an8 cd8 ct8), sl8⟩) (c8 : PySem.W.codeIn K cd8 "names_in" = true) (k8 : PySem.W.keepIn K (.ref f8) = true)
    {f9 : Addr} {od9 an9 : Option Addr} {sl9 : Array (Option Value)} {oc9 kV9 dc9 pm9 cd9 ct9 : Value} (a9 : PySem.W.nsIn K mainGlobals "check_hands" = some (some (.ref f9))) (l9 : K.lookup f9 = some ⟨oc9, od9, .func (PySem.W.fnOf "check_hands" "check_hands" (defArgs s_check_hands) (defBody s_check_hands) (defScope s_check_hands) .none kV9 dc9 pm9 an9 cd9 ct9), sl9⟩) (c9 : PySem.W.codeIn K cd9 "check_hands" = true) (k9 : PySem.W.keepIn K (.ref f9) = true)
    {f10 : Addr} {od10 an10 : Option Addr} {sl10 : Array (Option Value)} {oc10 kV10 dc10 pm10 cd10 ct10 : Value} (a10 : PySem.W.nsIn K mainGlobals "check_fact" = some (some (.ref f10))) (l10 : K.lookup f10 = some ⟨oc10, od10, .func (PySem.W.fnOf "check_fact" "check_fact" (defArgs s_check_fact) (defBody s_check_fact) (defScope s_check_fact) .none kV10 dc10 pm10 an10 cd10 ct10), sl10⟩) (c10 : PySem.W.codeIn K cd10 "check_fact" = true) (k10 : PySem.W.keepIn K (.ref f10) = true)
    {f11 : Addr} {od11 an11 : Option Addr} {sl11 : Array (Option Value)} {oc11 kV11 dc11 pm11 cd11 ct11 : Value} (a11 : PySem.W.nsIn K mainGlobals "check_saying" = some (some (.ref f11))) (l11 : K.lookup f11 = some ⟨oc11, od11, .func (PySem.W.fnOf "check_saying" "check_saying" (defArgs s_check_saying) (defBody s_check_saying) (defScope s_check_saying) .none kV11 dc11 pm11 an11 cd11 ct11), sl11⟩) (c11 : PySem.W.codeIn K cd11 "check_saying" = true) (k11 : PySem.W.keepIn K (.ref f11) = true)
    {f12 : Addr} {od12 an12 : Option Addr} {sl12 : Array (Option Value)} {oc12 kV12 dc12 pm12 cd12 ct12 : Value} (a12 : PySem.W.nsIn K mainGlobals "_law_spoken" = some (some (.ref f12))) (l12 : K.lookup f12 = some ⟨oc12, od12, .func (PySem.W.fnOf "_law_spoken" "_law_spoken" (defArgs s__law_spoken) (defBody s__law_spoken) (defScope s__law_spoken) .none kV12 dc12 pm12 an12 cd12 ct12), sl12⟩) (c12 : PySem.W.codeIn K cd12 "_law_spoken" = true) (k12 : PySem.W.keepIn K (.ref f12) = true)
    {f13 : Addr} {od13 an13 : Option Addr} {sl13 : Array (Option Value)} {oc13 kV13 dc13 pm13 cd13 ct13 : Value} (a13 : PySem.W.nsIn K mainGlobals "_law_good" = some (some (.ref f13))) (l13 : K.lookup f13 = some ⟨oc13, od13, .func (PySem.W.fnOf "_law_good" "_law_good" (defArgs s__law_good) (defBody s__law_good) (defScope s__law_good) .none kV13 dc13 pm13 an13 cd13 ct13), sl13⟩) (c13 : PySem.W.codeIn K cd13 "_law_good" = true) (k13 : PySem.W.keepIn K (.ref f13) = true)
    {f14 : Addr} {od14 an14 : Option Addr} {sl14 : Array (Option Value)} {oc14 kV14 dc14 pm14 cd14 ct14 : Value} (a14 : PySem.W.nsIn K mainGlobals "_law_right" = some (some (.ref f14))) (l14 : K.lookup f14 = some ⟨oc14, od14, .func (PySem.W.fnOf "_law_right" "_law_right" (defArgs s__law_right) (defBody s__law_right) (defScope s__law_right) .none kV14 dc14 pm14 an14 cd14 ct14), sl14⟩) (c14 : PySem.W.codeIn K cd14 "_law_right" = true) (k14 : PySem.W.keepIn K (.ref f14) = true)
    {f15 : Addr} {od15 an15 : Option Addr} {sl15 : Array (Option Value)} {oc15 kV15 dc15 pm15 cd15 ct15 : Value} (a15 : PySem.W.nsIn K mainGlobals "law" = some (some (.ref f15))) (l15 : K.lookup f15 = some ⟨oc15, od15, .func (PySem.W.fnOf "law" "law" (defArgs s_law) (defBody s_law) (defScope s_law) .none kV15 dc15 pm15 an15 cd15 ct15), sl15⟩) (c15 : PySem.W.codeIn K cd15 "law" = true) (k15 : PySem.W.keepIn K (.ref f15) = true)
    (z_ValueError : PySem.W.nsIn K mainGlobals "ValueError" = some none)
    (z_isinstance : PySem.W.nsIn K mainGlobals "isinstance" = some none)
    (z_len : PySem.W.nsIn K mainGlobals "len" = some none)
    (z_range : PySem.W.nsIn K mainGlobals "range" = some none)
    (z_sum : PySem.W.nsIn K mainGlobals "sum" = some none)
    (z_tuple : PySem.W.nsIn K mainGlobals "tuple" = some none)
    (xhn : PySem.W.specialIn K (.builtin "object.__class__") "__get__" = some (some (.builtin "getset_descriptor.__get__")))
    (xht : PySem.W.takesIn K (.builtin "object.__class__") = some true)
    {E_NoFact : Addr}
    (xa_NoFact : PySem.W.nsIn K mainGlobals "NoFact" = some (some (.ref E_NoFact)))
    (xga_NoFact : PySem.W.findIn K (.ref E_NoFact) "__getattribute__" = some (some (.builtin "BaseException.__getattribute__")))
    (xgg_NoFact : PySem.W.findIn K (.ref E_NoFact) "__getattr__" = some none)
    (xsb_NoFact : PySem.W.subIn K (.ref E_NoFact) (.type "BaseException") = some true)
    (xhd_NoFact : PySem.W.hasDictIn K E_NoFact = true)
    (xha_NoFact : PySem.W.findIn K (.ref E_NoFact) "__class__" = some (some (.builtin "object.__class__")))
    (xhm_NoFact : PySem.W.mroIn K E_NoFact (.type "object") = some true)
    (xty_NoFact : PySem.W.typeIn K (.ref E_NoFact) = some (.type "type"))
    (xkp_NoFact : PySem.W.keepIn K (.ref E_NoFact) = true)
    {E_RoadError : Addr}
    (xa_RoadError : PySem.W.nsIn K mainGlobals "RoadError" = some (some (.ref E_RoadError)))
    (xga_RoadError : PySem.W.findIn K (.ref E_RoadError) "__getattribute__" = some (some (.builtin "BaseException.__getattribute__")))
    (xgg_RoadError : PySem.W.findIn K (.ref E_RoadError) "__getattr__" = some none)
    (xsb_RoadError : PySem.W.subIn K (.ref E_RoadError) (.type "BaseException") = some true)
    (xhd_RoadError : PySem.W.hasDictIn K E_RoadError = true)
    (xha_RoadError : PySem.W.findIn K (.ref E_RoadError) "__class__" = some (some (.builtin "object.__class__")))
    (xhm_RoadError : PySem.W.mroIn K E_RoadError (.type "object") = some true)
    (xty_RoadError : PySem.W.typeIn K (.ref E_RoadError) = some (.type "type"))
    (xkp_RoadError : PySem.W.keepIn K (.ref E_RoadError) = true)
    {E_NoDeed : Addr}
    (xa_NoDeed : PySem.W.nsIn K mainGlobals "NoDeed" = some (some (.ref E_NoDeed)))
    (xga_NoDeed : PySem.W.findIn K (.ref E_NoDeed) "__getattribute__" = some (some (.builtin "BaseException.__getattribute__")))
    (xgg_NoDeed : PySem.W.findIn K (.ref E_NoDeed) "__getattr__" = some none)
    (xsb_NoDeed : PySem.W.subIn K (.ref E_NoDeed) (.type "BaseException") = some true)
    (xhd_NoDeed : PySem.W.hasDictIn K E_NoDeed = true)
    (xha_NoDeed : PySem.W.findIn K (.ref E_NoDeed) "__class__" = some (some (.builtin "object.__class__")))
    (xhm_NoDeed : PySem.W.mroIn K E_NoDeed (.type "object") = some true)
    (xty_NoDeed : PySem.W.typeIn K (.ref E_NoDeed) = some (.type "type"))
    (xkp_NoDeed : PySem.W.keepIn K (.ref E_NoDeed) = true)
    {E_NoLine : Addr}
    (xa_NoLine : PySem.W.nsIn K mainGlobals "NoLine" = some (some (.ref E_NoLine)))
    (xga_NoLine : PySem.W.findIn K (.ref E_NoLine) "__getattribute__" = some (some (.builtin "BaseException.__getattribute__")))
    (xgg_NoLine : PySem.W.findIn K (.ref E_NoLine) "__getattr__" = some none)
    (xsb_NoLine : PySem.W.subIn K (.ref E_NoLine) (.type "BaseException") = some true)
    (xhd_NoLine : PySem.W.hasDictIn K E_NoLine = true)
    (xha_NoLine : PySem.W.findIn K (.ref E_NoLine) "__class__" = some (some (.builtin "object.__class__")))
    (xhm_NoLine : PySem.W.mroIn K E_NoLine (.type "object") = some true)
    (xty_NoLine : PySem.W.typeIn K (.ref E_NoLine) = some (.type "type"))
    (xkp_NoLine : PySem.W.keepIn K (.ref E_NoLine) = true)
    {E_NoPlan : Addr}
    (xa_NoPlan : PySem.W.nsIn K mainGlobals "NoPlan" = some (some (.ref E_NoPlan)))
    (xga_NoPlan : PySem.W.findIn K (.ref E_NoPlan) "__getattribute__" = some (some (.builtin "BaseException.__getattribute__")))
    (xgg_NoPlan : PySem.W.findIn K (.ref E_NoPlan) "__getattr__" = some none)
    (xsb_NoPlan : PySem.W.subIn K (.ref E_NoPlan) (.type "BaseException") = some true)
    (xhd_NoPlan : PySem.W.hasDictIn K E_NoPlan = true)
    (xha_NoPlan : PySem.W.findIn K (.ref E_NoPlan) "__class__" = some (some (.builtin "object.__class__")))
    (xhm_NoPlan : PySem.W.mroIn K E_NoPlan (.type "object") = some true)
    (xty_NoPlan : PySem.W.typeIn K (.ref E_NoPlan) = some (.type "type"))
    (xkp_NoPlan : PySem.W.keepIn K (.ref E_NoPlan) = true)
    {E_NoRow : Addr}
    (xa_NoRow : PySem.W.nsIn K mainGlobals "NoRow" = some (some (.ref E_NoRow)))
    (xga_NoRow : PySem.W.findIn K (.ref E_NoRow) "__getattribute__" = some (some (.builtin "BaseException.__getattribute__")))
    (xgg_NoRow : PySem.W.findIn K (.ref E_NoRow) "__getattr__" = some none)
    (xsb_NoRow : PySem.W.subIn K (.ref E_NoRow) (.type "BaseException") = some true)
    (xhd_NoRow : PySem.W.hasDictIn K E_NoRow = true)
    (xha_NoRow : PySem.W.findIn K (.ref E_NoRow) "__class__" = some (some (.builtin "object.__class__")))
    (xhm_NoRow : PySem.W.mroIn K E_NoRow (.type "object") = some true)
    (xty_NoRow : PySem.W.typeIn K (.ref E_NoRow) = some (.type "type"))
    (xkp_NoRow : PySem.W.keepIn K (.ref E_NoRow) = true)
    {E_NoText : Addr}
    (xa_NoText : PySem.W.nsIn K mainGlobals "NoText" = some (some (.ref E_NoText)))
    (xga_NoText : PySem.W.findIn K (.ref E_NoText) "__getattribute__" = some (some (.builtin "BaseException.__getattribute__")))
    (xgg_NoText : PySem.W.findIn K (.ref E_NoText) "__getattr__" = some none)
    (xsb_NoText : PySem.W.subIn K (.ref E_NoText) (.type "BaseException") = some true)
    (xhd_NoText : PySem.W.hasDictIn K E_NoText = true)
    (xha_NoText : PySem.W.findIn K (.ref E_NoText) "__class__" = some (some (.builtin "object.__class__")))
    (xhm_NoText : PySem.W.mroIn K E_NoText (.type "object") = some true)
    (xty_NoText : PySem.W.typeIn K (.ref E_NoText) = some (.type "type"))
    (xkp_NoText : PySem.W.keepIn K (.ref E_NoText) = true)
    {E_NoThing : Addr}
    (xa_NoThing : PySem.W.nsIn K mainGlobals "NoThing" = some (some (.ref E_NoThing)))
    (xga_NoThing : PySem.W.findIn K (.ref E_NoThing) "__getattribute__" = some (some (.builtin "BaseException.__getattribute__")))
    (xgg_NoThing : PySem.W.findIn K (.ref E_NoThing) "__getattr__" = some none)
    (xsb_NoThing : PySem.W.subIn K (.ref E_NoThing) (.type "BaseException") = some true)
    (xhd_NoThing : PySem.W.hasDictIn K E_NoThing = true)
    (xha_NoThing : PySem.W.findIn K (.ref E_NoThing) "__class__" = some (some (.builtin "object.__class__")))
    (xhm_NoThing : PySem.W.mroIn K E_NoThing (.type "object") = some true)
    (xty_NoThing : PySem.W.typeIn K (.ref E_NoThing) = some (.type "type"))
    (xkp_NoThing : PySem.W.keepIn K (.ref E_NoThing) = true)
    {E_NotPossible : Addr}
    (xa_NotPossible : PySem.W.nsIn K mainGlobals "NotPossible" = some (some (.ref E_NotPossible)))
    (xga_NotPossible : PySem.W.findIn K (.ref E_NotPossible) "__getattribute__" = some (some (.builtin "BaseException.__getattribute__")))
    (xgg_NotPossible : PySem.W.findIn K (.ref E_NotPossible) "__getattr__" = some none)
    (xsb_NotPossible : PySem.W.subIn K (.ref E_NotPossible) (.type "BaseException") = some true)
    (xhd_NotPossible : PySem.W.hasDictIn K E_NotPossible = true)
    (xha_NotPossible : PySem.W.findIn K (.ref E_NotPossible) "__class__" = some (some (.builtin "object.__class__")))
    (xhm_NotPossible : PySem.W.mroIn K E_NotPossible (.type "object") = some true)
    (xty_NotPossible : PySem.W.typeIn K (.ref E_NotPossible) = some (.type "type"))
    (xkp_NotPossible : PySem.W.keepIn K (.ref E_NotPossible) = true)
    {E_TooMany : Addr}
    (xa_TooMany : PySem.W.nsIn K mainGlobals "TooMany" = some (some (.ref E_TooMany)))
    (xga_TooMany : PySem.W.findIn K (.ref E_TooMany) "__getattribute__" = some (some (.builtin "BaseException.__getattribute__")))
    (xgg_TooMany : PySem.W.findIn K (.ref E_TooMany) "__getattr__" = some none)
    (xsb_TooMany : PySem.W.subIn K (.ref E_TooMany) (.type "BaseException") = some true)
    (xhd_TooMany : PySem.W.hasDictIn K E_TooMany = true)
    (xha_TooMany : PySem.W.findIn K (.ref E_TooMany) "__class__" = some (some (.builtin "object.__class__")))
    (xhm_TooMany : PySem.W.mroIn K E_TooMany (.type "object") = some true)
    (xty_TooMany : PySem.W.typeIn K (.ref E_TooMany) = some (.type "type"))
    (xkp_TooMany : PySem.W.keepIn K (.ref E_TooMany) = true)
    (xq_NoFact : PySem.W.excIn K E_NoFact [.type "ValueError", .type "Exception", .type "BaseException", .type "object"] "ValueError.__new__" = true)
    (xs_NoDeed_NoDeed : PySem.W.subIn K (.ref E_NoDeed) (.ref E_NoDeed) = some true)
    (xs_NoFact_NoDeed : PySem.W.subIn K (.ref E_NoFact) (.ref E_NoDeed) = some false)
    (xs_NoFact_NoFact : PySem.W.subIn K (.ref E_NoFact) (.ref E_NoFact) = some true)
    (xs_NoFact_NoLine : PySem.W.subIn K (.ref E_NoFact) (.ref E_NoLine) = some false)
    (xs_NoLine_NoLine : PySem.W.subIn K (.ref E_NoLine) (.ref E_NoLine) = some true)
    (xs_NoFact_NoPlan : PySem.W.subIn K (.ref E_NoFact) (.ref E_NoPlan) = some false)
    (xs_NoPlan_NoPlan : PySem.W.subIn K (.ref E_NoPlan) (.ref E_NoPlan) = some true)
    (xs_NoFact_NoRow : PySem.W.subIn K (.ref E_NoFact) (.ref E_NoRow) = some false)
    (xs_NoRow_NoRow : PySem.W.subIn K (.ref E_NoRow) (.ref E_NoRow) = some true)
    (xs_NoFact_NoText : PySem.W.subIn K (.ref E_NoFact) (.ref E_NoText) = some false)
    (xs_NoText_NoText : PySem.W.subIn K (.ref E_NoText) (.ref E_NoText) = some true)
    (xs_NoFact_NoThing : PySem.W.subIn K (.ref E_NoFact) (.ref E_NoThing) = some false)
    (xs_NoThing_NoThing : PySem.W.subIn K (.ref E_NoThing) (.ref E_NoThing) = some true)
    (xs_NoFact_NotPossible : PySem.W.subIn K (.ref E_NoFact) (.ref E_NotPossible) = some false)
    (xs_NotPossible_NotPossible : PySem.W.subIn K (.ref E_NotPossible) (.ref E_NotPossible) = some true)
    (xs_NoFact_RoadError : PySem.W.subIn K (.ref E_NoFact) (.ref E_RoadError) = some true)
    (xs_RoadError_RoadError : PySem.W.subIn K (.ref E_RoadError) (.ref E_RoadError) = some true)
    (xs_NoFact_TooMany : PySem.W.subIn K (.ref E_NoFact) (.ref E_TooMany) = some false)
    (xs_TooMany_TooMany : PySem.W.subIn K (.ref E_TooMany) (.ref E_TooMany) = some true)
    (xs_NoFact_ValueError : PySem.W.subIn K (.ref E_NoFact) (.type "ValueError") = some true) :
    ∃ fd : FuncData, (∀ (s : Shared) (v : Value), BindsTo s fd ⟨[v], []⟩ [("_law_script", v)]) ∧ ∀ base : Heap, K.In base → base.Ns mainGlobals mg → FnOk l.prog w K mg base (L2N.CX l.prog w) 124 fa fd ["_law_script"] (spLaw K) := by
  have e := hfa.symm.trans (PySem.W.mg_of X G a15)
  cases e
  refine ⟨PySem.W.fnOf "law" "law" (defArgs s_law) (defBody s_law) (defScope s_law) .none kV15 dc15 pm15 an15 cd15 ct15, fun s v => .of_eq rfl, fun base _ _ => ?_⟩
  exact law_fn (all_mk X G a0 l0 c0 k0 a1 l1 c1 k1 a2 l2 c2 k2 a3 l3 c3 k3 a4 l4 c4 k4 a5 l5 c5 k5 a6 l6 c6 k6 a7 l7 c7 k7 a8 l8 c8 k8 a9 l9 c9 k9 a10 l10 c10 k10 a11 l11 c11 k11 a12 l12 c12 k12 a13 l13 c13 k13 a14 l14 c14 k14 a15 l15 c15 k15 z_ValueError z_isinstance z_len z_range z_sum z_tuple xhn xht xa_NoFact xga_NoFact xgg_NoFact xsb_NoFact xhd_NoFact xha_NoFact xhm_NoFact xty_NoFact xkp_NoFact xa_RoadError xga_RoadError xgg_RoadError xsb_RoadError xhd_RoadError xha_RoadError xhm_RoadError xty_RoadError xkp_RoadError xa_NoDeed xga_NoDeed xgg_NoDeed xsb_NoDeed xhd_NoDeed xha_NoDeed xhm_NoDeed xty_NoDeed xkp_NoDeed xa_NoLine xga_NoLine xgg_NoLine xsb_NoLine xhd_NoLine xha_NoLine xhm_NoLine xty_NoLine xkp_NoLine xa_NoPlan xga_NoPlan xgg_NoPlan xsb_NoPlan xhd_NoPlan xha_NoPlan xhm_NoPlan xty_NoPlan xkp_NoPlan xa_NoRow xga_NoRow xgg_NoRow xsb_NoRow xhd_NoRow xha_NoRow xhm_NoRow xty_NoRow xkp_NoRow xa_NoText xga_NoText xgg_NoText xsb_NoText xhd_NoText xha_NoText xhm_NoText xty_NoText xkp_NoText xa_NoThing xga_NoThing xgg_NoThing xsb_NoThing xhd_NoThing xha_NoThing xhm_NoThing xty_NoThing xkp_NoThing xa_NotPossible xga_NotPossible xgg_NotPossible xsb_NotPossible xhd_NotPossible xha_NotPossible xhm_NotPossible xty_NotPossible xkp_NotPossible xa_TooMany xga_TooMany xgg_TooMany xsb_TooMany xhd_TooMany xha_TooMany xhm_TooMany xty_TooMany xkp_TooMany xq_NoFact xs_NoDeed_NoDeed xs_NoFact_NoDeed xs_NoFact_NoFact xs_NoFact_NoLine xs_NoLine_NoLine xs_NoFact_NoPlan xs_NoPlan_NoPlan xs_NoFact_NoRow xs_NoRow_NoRow xs_NoFact_NoText xs_NoText_NoText xs_NoFact_NoThing xs_NoThing_NoThing xs_NoFact_NotPossible xs_NotPossible_NotPossible xs_NoFact_RoadError xs_RoadError_RoadError xs_NoFact_TooMany xs_TooMany_TooMany xs_NoFact_ValueError) hs
end K93

open PySem PySem.W PyProof.Rows
set_option maxRecDepth 100000 in
set_option maxHeartbeats 0 in
theorem PySem.Challenge.cw_roadsall_k93_what_a_plan_has_holds : PySem.Challenge.rw_roadsall_k93_what_a_plan_has.Holds := by
  w_on; o_law; k_head; (case hw => w_witness2)
  k_fill
  refine K93.walk (l := PySem.Challenge.rw_roadsall_k93_what_a_plan_has) rfl rfl (fun w h Y => PySem.W.kIn_of Y) ?F
  case F =>
    intro w mg fa h KX G hmg
    refine' K93.fin KX G hmg K93.says ?a0 ?l0 ?c0 ?k0 ?a1 ?l1 ?c1 ?k1 ?a2 ?l2 ?c2 ?k2 ?a3 ?l3 ?c3 ?k3 ?a4 ?l4 ?c4 ?k4 ?a5 ?l5 ?c5 ?k5 ?a6 ?l6 ?c6 ?k6 ?a7 ?l7 ?c7 ?k7 ?a8 ?l8 ?c8 ?k8 ?a9 ?l9 ?c9 ?k9 ?a10 ?l10 ?c10 ?k10 ?a11 ?l11 ?c11 ?k11 ?a12 ?l12 ?c12 ?k12 ?a13 ?l13 ?c13 ?k13 ?a14 ?l14 ?c14 ?k14 ?a15 ?l15 ?c15 ?k15 ?z_ValueError ?z_isinstance ?z_len ?z_range ?z_sum ?z_tuple ?xhn ?xht ?xa_NoFact ?xga_NoFact ?xgg_NoFact ?xsb_NoFact ?xhd_NoFact ?xha_NoFact ?xhm_NoFact ?xty_NoFact ?xkp_NoFact ?xa_RoadError ?xga_RoadError ?xgg_RoadError ?xsb_RoadError ?xhd_RoadError ?xha_RoadError ?xhm_RoadError ?xty_RoadError ?xkp_RoadError ?xa_NoDeed ?xga_NoDeed ?xgg_NoDeed ?xsb_NoDeed ?xhd_NoDeed ?xha_NoDeed ?xhm_NoDeed ?xty_NoDeed ?xkp_NoDeed ?xa_NoLine ?xga_NoLine ?xgg_NoLine ?xsb_NoLine ?xhd_NoLine ?xha_NoLine ?xhm_NoLine ?xty_NoLine ?xkp_NoLine ?xa_NoPlan ?xga_NoPlan ?xgg_NoPlan ?xsb_NoPlan ?xhd_NoPlan ?xha_NoPlan ?xhm_NoPlan ?xty_NoPlan ?xkp_NoPlan ?xa_NoRow ?xga_NoRow ?xgg_NoRow ?xsb_NoRow ?xhd_NoRow ?xha_NoRow ?xhm_NoRow ?xty_NoRow ?xkp_NoRow ?xa_NoText ?xga_NoText ?xgg_NoText ?xsb_NoText ?xhd_NoText ?xha_NoText ?xhm_NoText ?xty_NoText ?xkp_NoText ?xa_NoThing ?xga_NoThing ?xgg_NoThing ?xsb_NoThing ?xhd_NoThing ?xha_NoThing ?xhm_NoThing ?xty_NoThing ?xkp_NoThing ?xa_NotPossible ?xga_NotPossible ?xgg_NotPossible ?xsb_NotPossible ?xhd_NotPossible ?xha_NotPossible ?xhm_NotPossible ?xty_NotPossible ?xkp_NotPossible ?xa_TooMany ?xga_TooMany ?xgg_TooMany ?xsb_TooMany ?xhd_TooMany ?xha_TooMany ?xhm_TooMany ?xty_TooMany ?xkp_TooMany ?xq_NoFact ?xs_NoDeed_NoDeed ?xs_NoFact_NoDeed ?xs_NoFact_NoFact ?xs_NoFact_NoLine ?xs_NoLine_NoLine ?xs_NoFact_NoPlan ?xs_NoPlan_NoPlan ?xs_NoFact_NoRow ?xs_NoRow_NoRow ?xs_NoFact_NoText ?xs_NoText_NoText ?xs_NoFact_NoThing ?xs_NoThing_NoThing ?xs_NoFact_NotPossible ?xs_NotPossible_NotPossible ?xs_NoFact_RoadError ?xs_RoadError_RoadError ?xs_NoFact_TooMany ?xs_TooMany_TooMany ?xs_NoFact_ValueError
    (case a0 => k_is)
    (case l0 => k_is)
    (case c0 => k_is)
    (case k0 => k_is)
    (case a1 => k_is)
    (case l1 => k_is)
    (case c1 => k_is)
    (case k1 => k_is)
    (case a2 => k_is)
    (case l2 => k_is)
    (case c2 => k_is)
    (case k2 => k_is)
    (case a3 => k_is)
    (case l3 => k_is)
    (case c3 => k_is)
    (case k3 => k_is)
    (case a4 => k_is)
    (case l4 => k_is)
    (case c4 => k_is)
    (case k4 => k_is)
    (case a5 => k_is)
    (case l5 => k_is)
    (case c5 => k_is)
    (case k5 => k_is)
    (case a6 => k_is)
    (case l6 => k_is)
    (case c6 => k_is)
    (case k6 => k_is)
    (case a7 => k_is)
    (case l7 => k_is)
    (case c7 => k_is)
    (case k7 => k_is)
    (case a8 => k_is)
    (case l8 => k_is)
    (case c8 => k_is)
    (case k8 => k_is)
    (case a9 => k_is)
    (case l9 => k_is)
    (case c9 => k_is)
    (case k9 => k_is)
    (case a10 => k_is)
    (case l10 => k_is)
    (case c10 => k_is)
    (case k10 => k_is)
    (case a11 => k_is)
    (case l11 => k_is)
    (case c11 => k_is)
    (case k11 => k_is)
    (case a12 => k_is)
    (case l12 => k_is)
    (case c12 => k_is)
    (case k12 => k_is)
    (case a13 => k_is)
    (case l13 => k_is)
    (case c13 => k_is)
    (case k13 => k_is)
    (case a14 => k_is)
    (case l14 => k_is)
    (case c14 => k_is)
    (case k14 => k_is)
    (case a15 => k_is)
    (case l15 => k_is)
    (case c15 => k_is)
    (case k15 => k_is)
    (case z_ValueError => k_is)
    (case z_isinstance => k_is)
    (case z_len => k_is)
    (case z_range => k_is)
    (case z_sum => k_is)
    (case z_tuple => k_is)
    (case xhn => k_is)
    (case xht => k_is)
    (case xa_NoFact => k_is)
    (case xga_NoFact => k_is)
    (case xgg_NoFact => k_is)
    (case xsb_NoFact => k_is)
    (case xhd_NoFact => k_is)
    (case xha_NoFact => k_is)
    (case xhm_NoFact => k_is)
    (case xty_NoFact => k_is)
    (case xkp_NoFact => k_is)
    (case xa_RoadError => k_is)
    (case xga_RoadError => k_is)
    (case xgg_RoadError => k_is)
    (case xsb_RoadError => k_is)
    (case xhd_RoadError => k_is)
    (case xha_RoadError => k_is)
    (case xhm_RoadError => k_is)
    (case xty_RoadError => k_is)
    (case xkp_RoadError => k_is)
    (case xa_NoDeed => k_is)
    (case xga_NoDeed => k_is)
    (case xgg_NoDeed => k_is)
    (case xsb_NoDeed => k_is)
    (case xhd_NoDeed => k_is)
    (case xha_NoDeed => k_is)
    (case xhm_NoDeed => k_is)
    (case xty_NoDeed => k_is)
    (case xkp_NoDeed => k_is)
    (case xa_NoLine => k_is)
    (case xga_NoLine => k_is)
    (case xgg_NoLine => k_is)
    (case xsb_NoLine => k_is)
    (case xhd_NoLine => k_is)
    (case xha_NoLine => k_is)
    (case xhm_NoLine => k_is)
    (case xty_NoLine => k_is)
    (case xkp_NoLine => k_is)
    (case xa_NoPlan => k_is)
    (case xga_NoPlan => k_is)
    (case xgg_NoPlan => k_is)
    (case xsb_NoPlan => k_is)
    (case xhd_NoPlan => k_is)
    (case xha_NoPlan => k_is)
    (case xhm_NoPlan => k_is)
    (case xty_NoPlan => k_is)
    (case xkp_NoPlan => k_is)
    (case xa_NoRow => k_is)
    (case xga_NoRow => k_is)
    (case xgg_NoRow => k_is)
    (case xsb_NoRow => k_is)
    (case xhd_NoRow => k_is)
    (case xha_NoRow => k_is)
    (case xhm_NoRow => k_is)
    (case xty_NoRow => k_is)
    (case xkp_NoRow => k_is)
    (case xa_NoText => k_is)
    (case xga_NoText => k_is)
    (case xgg_NoText => k_is)
    (case xsb_NoText => k_is)
    (case xhd_NoText => k_is)
    (case xha_NoText => k_is)
    (case xhm_NoText => k_is)
    (case xty_NoText => k_is)
    (case xkp_NoText => k_is)
    (case xa_NoThing => k_is)
    (case xga_NoThing => k_is)
    (case xgg_NoThing => k_is)
    (case xsb_NoThing => k_is)
    (case xhd_NoThing => k_is)
    (case xha_NoThing => k_is)
    (case xhm_NoThing => k_is)
    (case xty_NoThing => k_is)
    (case xkp_NoThing => k_is)
    (case xa_NotPossible => k_is)
    (case xga_NotPossible => k_is)
    (case xgg_NotPossible => k_is)
    (case xsb_NotPossible => k_is)
    (case xhd_NotPossible => k_is)
    (case xha_NotPossible => k_is)
    (case xhm_NotPossible => k_is)
    (case xty_NotPossible => k_is)
    (case xkp_NotPossible => k_is)
    (case xa_TooMany => k_is)
    (case xga_TooMany => k_is)
    (case xgg_TooMany => k_is)
    (case xsb_TooMany => k_is)
    (case xhd_TooMany => k_is)
    (case xha_TooMany => k_is)
    (case xhm_TooMany => k_is)
    (case xty_TooMany => k_is)
    (case xkp_TooMany => k_is)
    (case xq_NoFact => k_exc)
    (case xs_NoDeed_NoDeed => k_is)
    (case xs_NoFact_NoDeed => k_is)
    (case xs_NoFact_NoFact => k_is)
    (case xs_NoFact_NoLine => k_is)
    (case xs_NoLine_NoLine => k_is)
    (case xs_NoFact_NoPlan => k_is)
    (case xs_NoPlan_NoPlan => k_is)
    (case xs_NoFact_NoRow => k_is)
    (case xs_NoRow_NoRow => k_is)
    (case xs_NoFact_NoText => k_is)
    (case xs_NoText_NoText => k_is)
    (case xs_NoFact_NoThing => k_is)
    (case xs_NoThing_NoThing => k_is)
    (case xs_NoFact_NotPossible => k_is)
    (case xs_NotPossible_NotPossible => k_is)
    (case xs_NoFact_RoadError => k_is)
    (case xs_RoadError_RoadError => k_is)
    (case xs_NoFact_TooMany => k_is)
    (case xs_TooMany_TooMany => k_is)
    (case xs_NoFact_ValueError => k_is)

