import PyProof.Rows.All
import Wide.All
import OpenK.AllK
import Wide.FinOn
import HandS.ForMost
import HandS.ForExc
import HandS.Lambda
import HandS.ExcOwn
import HandS.Zip
import KE.GoesMore
import HandS.SortInts
import HandS.IsInst
import HandS.TupAny
import HandS.TupMul
import HandS.TupLe
import HandS.Deep
import HandS.Wide
import HandS.Conv
import HandS.SetFor
import HandS.RaiseMore
import PyProof.ReprRoads
import HandS.TupSets
import PyProof.Rows.SeqMore
import HandS.Strs
import HandS.Style
import KE.KDictItemsList
import HandS.DictComp
import HandS.SetKeys
import KE.GoesZip
import KE.GoesEnum
import HandS.Rev
import OpenK.KOps
import HandS.Text
import KE.KAssignIn
import HandS.Defaults
import HandS.OwnEq
import PyProof.Rows.RuleN_isinstance
import PySem.Challenge.RW_nextmarks_k02_which_mark_may_follow
import HandS.Head0
import HandS.Head1
import HandS.Head2
import HandS.HeadEnd
import HandS.HeadHook1
import HandS.HeadHook2
set_option Elab.async false
set_option linter.all false
set_option maxRecDepth 100000
set_option autoImplicit false
section
namespace N1
open PySem PySem.Spec PyProof.Rows L2
inductive D where
  | non | bl (b : Bool) | int (i : Int) | str (x : Str)
  | tup (ds : List D)
  | lst (own : Bool) (ds : List D)
  | dct (own : Bool) (ks : List Key) (vs : List D)
  | ref (n : Nat)
  | dtt (own : Bool) (ks : List (List Key)) (vs : List D)
  | lck (a : Addr) (o : Obj) (u : HO)
  | obj (own : Bool) (c : Str) (ks : List Str) (vs : List D)
  | exc (c : Str) (ks : List Str) (vs : List D)
  | lam (f c : Addr) (q : Str)
  | tab (q : Str)
mutual
def D.frz : D → D
  | .tup ds => .tup (frzs ds)
  | .lst _ ds => .lst false (frzs ds)
  | .dct _ ks ds => .dct false ks (frzs ds)
  | .dtt _ ks ds => .dtt false ks (frzs ds)
  | .lck a o u => .lck a o u
  | .obj _ c ks ds => .obj false c ks (frzs ds)
  | .exc c ks ds => .exc c ks (frzs ds)
  | .lam f c q => .lam f c q
  | .tab q => .tab q
  | .non => .non
  | .bl b => .bl b
  | .int i => .int i
  | .str x => .str x
  | .ref n => .ref n
def frzs : List D → List D
  | [] => []
  | d :: ds => d.frz :: frzs ds
end
mutual
def D.isF : D → Bool
  | .tup ds => isFs ds
  | .lst o ds => !o && isFs ds
  | .dct o _ ds => !o && isFs ds
  | .dtt o _ ds => !o && isFs ds
  | .lck _ _ _ => true
  | .obj o _ _ ds => !o && isFs ds
  | .exc _ _ ds => isFs ds
  | .lam _ _ _ => true
  | .tab _ => true
  | .non => true
  | .bl _ => true
  | .int _ => true
  | .str _ => true
  | .ref _ => true
def isFs : List D → Bool
  | [] => true
  | d :: ds => d.isF && isFs ds
end
theorem isFs_all : ∀ ds : List D, isFs ds = ds.all D.isF
  | [] => rfl
  | d :: ds => by unfold isFs; rw [isFs_all ds]; rfl
theorem frzs_map : ∀ ds : List D, frzs ds = ds.map D.frz
  | [] => rfl
  | d :: ds => by unfold frzs; rw [frzs_map ds]; rfl
/-- a list that stands still -/
def FzL (K : PySem.W.Frag) (F : Addr → Prop) (H : Hp) (a : Addr) (xs : List V) : Prop :=
  (F a ∧ Rd H a (.lst xs)) ∨
    ∃ (o : Obj) (its : Array Value) (n : Nat), K.lookup a = some o ∧ o.cls = .type "list" ∧ o.dict = none ∧ o.data = .seq its n ∧ its.size ≤ sizeLine ∧ Vals xs its.toList
theorem FzL.seq {K : PySem.W.Frag} {F : Addr → Prop} {H : Hp} {a : Addr} {xs : List V} (h : FzL K F H a xs) : SqL K H a xs := by
  rcases h with ⟨_, h⟩ | h
  · exact .inl h
  · exact .inr h
/-- at a: an exception of the class at C, its dict at d (none: it has no fields) -/
def ExI (C a : Addr) (d : Option Addr) : HO := .ext fun h => ∃ (oe : Obj) (vs : Array Value), h.get? a = some oe ∧ oe.cls = .ref C ∧ oe.dict = d ∧ oe.data = .fields vs
def ExD (H : Hp) (d : Option Addr) (fs : List (Str × V)) : Prop := match d with
  | none => fs = []
  | some d => H d = some (.xd fs)
def IsX : HO → Prop
  | .ext _ => True
  | .xd _ => True
  | .tbl _ => True
  | _ => False
/-- a code object's name and its table of code objects -/
def tabE (o : Obj) : Option (Str × Addr) := match o.data with
  | .fields vs => match vs.toList, vs.getD 11 .none with
    | _ :: .str n _ :: _, .ref P => some (n ++ ".<locals>.<lambda>", P)
    | _, _ => none
  | _ => none
def tabOf (K : PySem.W.Frag) (q : Str) : Option Addr := (K.filterMap fun p => tabE p.2).lookup q
section
variable (K : PySem.W.Frag) (F : Addr → Prop) (mu : List Addr) (H : Hp)
mutual
def Rp : D → V → List Addr → Prop
  | .non, v, o => v = .non ∧ o = []
  | .bl b, v, o => v = .bl b ∧ o = []
  | .int i, v, o => v = .int i ∧ o = []
  | .str x, v, o => v = .str x ∧ o = []
  | .tup ds, v, o => ∃ a xs, v = .ref a ∧ H a = some (.tup xs) ∧ Rps ds xs o
  | .lst own ds, v, o => ∃ a xs o', v = .ref a ∧ Rps ds xs o' ∧ ((own = true ∧ H a = some (.lst xs) ∧ o = a :: o') ∨ (own = false ∧ FzL K F H a xs ∧ o = [] ∧ o' = []))
  | .dct own ks ds, v, o => ∃ a xs o', v = .ref a ∧ ks.length = ds.length ∧ Rps ds xs o' ∧
      ((own = true ∧ H a = some (.dK (ks.zip xs)) ∧ o = a :: o') ∨ (own = false ∧ F a ∧ Rd H a (.dK (ks.zip xs)) ∧ o = [] ∧ o' = []))
  | .ref n, v, o => ∃ a, mu[n]? = some a ∧ v = .ref a ∧ o = []
  | .dtt own ks ds, v, o => ∃ a xs o', v = .ref a ∧ ks.length = ds.length ∧ Rps ds xs o' ∧
      ((own = true ∧ H a = some (.dT (ks.zip xs)) ∧ o = a :: o') ∨ (own = false ∧ F a ∧ Rd H a (.dT (ks.zip xs)) ∧ o = [] ∧ o' = []))
  | .lck a q u, v, o => v = .ref a ∧ H a = some (.frz q u) ∧ o = []
  | .obj own c ks ds, v, o => ∃ a dx C xs o', v = .ref a ∧ ks.length = ds.length ∧ PySem.W.nsIn K mainGlobals c = some (some (.ref C)) ∧ Rps ds xs o' ∧
      ((own = true ∧ H a = some (.ins C dx (ks.zip xs)) ∧ o = a :: o') ∨ (own = false ∧ F a ∧ Rd H a (.ins C dx (ks.zip xs)) ∧ o = [] ∧ o' = []))
  | .exc c ks ds, v, o => ∃ a d C xs, v = .ref a ∧ ks.length = ds.length ∧ PySem.W.nsIn K mainGlobals c = some (some (.ref C)) ∧ Rps ds xs o ∧ H a = some (ExI C a d) ∧ ExD H d (ks.zip xs)
  | .lam f c q, v, o => v = .ref f ∧ H c = some (LamX.CodeO c q) ∧ o = []
  | .tab q, v, o => ∃ P, v = .ref P ∧ tabOf K q = some P ∧ LamX.TabS H P q ∧ o = []
def Rps : List D → List V → List Addr → Prop
  | [], xs, o => xs = [] ∧ o = []
  | d :: ds, xs, o => ∃ x xs' o1 o2, xs = x :: xs' ∧ o = o1 ++ o2 ∧ Rp d x o1 ∧ Rps ds xs' o2
end
def RpO : List (Option D) → List (Option V) → List Addr → Prop
  | [], vs, o => vs = [] ∧ o = []
  | none :: ds, vs, o => ∃ v vs', vs = v :: vs' ∧ RpO ds vs' o
  | some d :: ds, vs, o => ∃ v vs' o1 o2, vs = some v :: vs' ∧ o = o1 ++ o2 ∧ Rp K F mu H d v o1 ∧ RpO ds vs' o2
end
section
variable {K : PySem.W.Frag} {F F' : Addr → Prop} {mu nu : List Addr} {H H' : Hp}
/-- what changes, changes where C holds -/
structure Mv (F F' : Addr → Prop) (mu mu' : List Addr) (H H' : Hp) (C : Addr → Prop) : Prop where
  keep : ∀ (a : Addr) (u : HO), ¬ C a → H a = some u → H' a = some u
  fz : ∀ a, F a → F' a
  mu_ : ∀ (n : Nat) (a : Addr), mu[n]? = some a → mu'[n]? = some a
  nf : ∀ a, C a → ¬ F a
  nt : ∀ a xs, C a → H a ≠ some (.tup xs)
  nz : ∀ a o u, C a → H a ≠ some (.frz o u)
  nx : ∀ a u, C a → H a = some u → ¬ IsX u
section
variable {mu' : List Addr} {C : Addr → Prop}
theorem Mv.rd {a : Addr} {u : HO} (m : Mv F F' mu mu' H H' C) (h : Rd H a u) (hp : ¬ C a) : Rd H' a u := by
  rcases h with h | ⟨o, h⟩
  · exact .inl (m.keep _ _ hp h)
  · exact .inr ⟨o, m.keep _ _ hp h⟩
theorem Mv.tup {a : Addr} {xs : List V} (m : Mv F F' mu mu' H H' C) (h : SqT K H a xs) : SqT K H' a xs := by
  rcases h with (h | ⟨o, h⟩) | h
  · exact .inl (.inl (m.keep _ _ (fun e => m.nt a xs e h) h))
  · exact .inl (.inr ⟨o, m.keep _ _ (fun e => m.nz a o _ e h) h⟩)
  · exact .inr h
mutual
theorem Rp.mv (m : Mv F F' mu mu' H H' C) : ∀ (d : D) (v : V) (o : List Addr), (∀ a ∈ o, ¬ C a) → Rp K F mu H d v o → Rp K F' mu' H' d v o
  | .non, _, _, _, h => by unfold Rp at h ⊢; exact h
  | .bl _, _, _, _, h => by unfold Rp at h ⊢; exact h
  | .int _, _, _, _, h => by unfold Rp at h ⊢; exact h
  | .str _, _, _, _, h => by unfold Rp at h ⊢; exact h
  | .tup ds, v, o, hp, h => by
    unfold Rp at h ⊢
    obtain ⟨a, xs, e, hs, r⟩ := h
    exact ⟨a, xs, e, m.keep _ _ (fun z => m.nt a xs z hs) hs, Rps.mv m ds xs o hp r⟩
  | .lst own ds, v, o, hp, h => by
    unfold Rp at h ⊢
    obtain ⟨a, xs, o', e, r, q⟩ := h
    rcases q with ⟨e1, q, e2⟩ | ⟨e1, q, e2, e3⟩
    · exact ⟨a, xs, o', e, Rps.mv m ds xs o' (fun b hb => hp b (by rw [e2]; exact List.mem_cons_of_mem _ hb)) r, .inl ⟨e1, m.keep _ _ (hp a (by rw [e2]; exact List.mem_cons_self)) q, e2⟩⟩
    · refine ⟨a, xs, o', e, Rps.mv m ds xs o' (fun b hb => by rw [e3] at hb; cases hb) r, .inr ⟨e1, ?_, e2, e3⟩⟩
      rcases q with ⟨f, q⟩ | q
      · exact .inl ⟨m.fz _ f, m.rd q fun e => m.nf a e f⟩
      · exact .inr q
  | .dct own ks ds, v, o, hp, h => by
    unfold Rp at h ⊢
    obtain ⟨a, xs, o', e, hl, r, q⟩ := h
    rcases q with ⟨e1, q, e2⟩ | ⟨e1, f, q, e2, e3⟩
    · exact ⟨a, xs, o', e, hl, Rps.mv m ds xs o' (fun b hb => hp b (by rw [e2]; exact List.mem_cons_of_mem _ hb)) r, .inl ⟨e1, m.keep _ _ (hp a (by rw [e2]; exact List.mem_cons_self)) q, e2⟩⟩
    · exact ⟨a, xs, o', e, hl, Rps.mv m ds xs o' (fun b hb => by rw [e3] at hb; cases hb) r, .inr ⟨e1, m.fz _ f, m.rd q fun e => m.nf a e f, e2, e3⟩⟩
  | .ref n, _, _, _, h => by
    unfold Rp at h ⊢
    obtain ⟨a, e, h⟩ := h
    exact ⟨a, m.mu_ _ _ e, h⟩
  | .dtt own ks ds, v, o, hp, h => by
    unfold Rp at h ⊢
    obtain ⟨a, xs, o', e, hl, r, q⟩ := h
    rcases q with ⟨e1, q, e2⟩ | ⟨e1, f, q, e2, e3⟩
    · exact ⟨a, xs, o', e, hl, Rps.mv m ds xs o' (fun b hb => hp b (by rw [e2]; exact List.mem_cons_of_mem _ hb)) r, .inl ⟨e1, m.keep _ _ (hp a (by rw [e2]; exact List.mem_cons_self)) q, e2⟩⟩
    · exact ⟨a, xs, o', e, hl, Rps.mv m ds xs o' (fun b hb => by rw [e3] at hb; cases hb) r, .inr ⟨e1, m.fz _ f, m.rd q fun e => m.nf a e f, e2, e3⟩⟩
  | .lck a q u, v, o, hp, h => by
    unfold Rp at h ⊢
    exact ⟨h.1, m.keep _ _ (fun e => m.nz a q u e h.2.1) h.2.1, h.2.2⟩
  | .obj own c ks ds, v, o, hp, h => by
    unfold Rp at h ⊢
    obtain ⟨a, dx, Cc, xs, o', e, hl, hn, r, q⟩ := h
    rcases q with ⟨e1, q, e2⟩ | ⟨e1, f, q, e2, e3⟩
    · exact ⟨a, dx, Cc, xs, o', e, hl, hn, Rps.mv m ds xs o' (fun b hb => hp b (by rw [e2]; exact List.mem_cons_of_mem _ hb)) r, .inl ⟨e1, m.keep _ _ (hp a (by rw [e2]; exact List.mem_cons_self)) q, e2⟩⟩
    · exact ⟨a, dx, Cc, xs, o', e, hl, hn, Rps.mv m ds xs o' (fun b hb => by rw [e3] at hb; cases hb) r, .inr ⟨e1, m.fz _ f, m.rd q fun e => m.nf a e f, e2, e3⟩⟩
  | .exc c ks ds, v, o, hp, h => by
    unfold Rp at h ⊢
    obtain ⟨a, d, Cc, xs, e, hl, hn, r, q1, q2⟩ := h
    refine ⟨a, d, Cc, xs, e, hl, hn, Rps.mv m ds xs o hp r, m.keep _ _ (fun z => m.nx a _ z q1 trivial) q1, ?_⟩
    cases d with
    | none => exact q2
    | some d => exact m.keep _ _ (fun z => m.nx d _ z q2 trivial) q2
  | .lam f c q, v, o, hp, h => by
    unfold Rp at h ⊢
    exact ⟨h.1, m.keep _ _ (fun z => m.nx c _ z h.2.1 trivial) h.2.1, h.2.2⟩
  | .tab q, v, o, hp, h => by
    unfold Rp at h ⊢
    obtain ⟨P, e, ht, ⟨ps, h1, h2, h3⟩, h4⟩ := h
    refine ⟨P, e, ht, ⟨ps, m.keep _ _ (fun z => m.nx P _ z h1 trivial) h1, h2, fun pos cv hc => ?_⟩, h4⟩
    obtain ⟨c, e1, e2⟩ := h3 pos cv hc
    exact ⟨c, e1, m.keep _ _ (fun z => m.nx c _ z e2 trivial) e2⟩
theorem Rps.mv (m : Mv F F' mu mu' H H' C) : ∀ (ds : List D) (vs : List V) (o : List Addr), (∀ a ∈ o, ¬ C a) → Rps K F mu H ds vs o → Rps K F' mu' H' ds vs o
  | [], _, _, _, h => by unfold Rps at h ⊢; exact h
  | d :: ds, vs, o, hp, h => by
    unfold Rps at h ⊢
    obtain ⟨x, xs, o1, o2, e1, e2, r, rs⟩ := h
    exact ⟨x, xs, o1, o2, e1, e2, Rp.mv m d x o1 (fun a ha => hp a (by rw [e2]; exact List.mem_append_left _ ha)) r, Rps.mv m ds xs o2 (fun a ha => hp a (by rw [e2]; exact List.mem_append_right _ ha)) rs⟩
end
theorem RpO.mv (m : Mv F F' mu mu' H H' C) : ∀ (ds : List (Option D)) (vs : List (Option V)) (o : List Addr), (∀ a ∈ o, ¬ C a) → RpO K F mu H ds vs o → RpO K F' mu' H' ds vs o
  | [], _, _, _, h => by unfold RpO at h ⊢; exact h
  | none :: ds, vs, o, hp, h => by
    unfold RpO at h ⊢
    obtain ⟨v, vs', e, r⟩ := h
    exact ⟨v, vs', e, RpO.mv m ds vs' o hp r⟩
  | some d :: ds, vs, o, hp, h => by
    unfold RpO at h ⊢
    obtain ⟨x, xs, o1, o2, e1, e2, r, rs⟩ := h
    exact ⟨x, xs, o1, o2, e1, e2, Rp.mv m d x o1 (fun a ha => hp a (by rw [e2]; exact List.mem_append_left _ ha)) r, RpO.mv m ds xs o2 (fun a ha => hp a (by rw [e2]; exact List.mem_append_right _ ha)) rs⟩
end
mutual
theorem Rp.freeze : ∀ (d : D) (v : V) (o : List Addr), (∀ a ∈ o, F a) → Rp K F mu H d v o → Rp K F mu H d.frz v []
  | .non, _, _, _, h => by unfold D.frz; unfold Rp at h ⊢; exact ⟨h.1, rfl⟩
  | .bl _, _, _, _, h => by unfold D.frz; unfold Rp at h ⊢; exact ⟨h.1, rfl⟩
  | .int _, _, _, _, h => by unfold D.frz; unfold Rp at h ⊢; exact ⟨h.1, rfl⟩
  | .str _, _, _, _, h => by unfold D.frz; unfold Rp at h ⊢; exact ⟨h.1, rfl⟩
  | .tup ds, v, o, hf, h => by
    unfold D.frz
    unfold Rp at h ⊢
    obtain ⟨a, xs, e, hs, r⟩ := h
    exact ⟨a, xs, e, hs, Rps.freeze ds xs o hf r⟩
  | .lst own ds, v, o, hf, h => by
    unfold D.frz
    unfold Rp at h ⊢
    obtain ⟨a, xs, o', e, r, q⟩ := h
    rcases q with ⟨e1, q, e2⟩ | ⟨e1, q, e2, e3⟩
    · subst e2
      exact ⟨a, xs, [], e, Rps.freeze ds xs o' (fun b hb => hf b (List.mem_cons_of_mem _ hb)) r, .inr ⟨rfl, .inl ⟨hf a List.mem_cons_self, .inl q⟩, rfl, rfl⟩⟩
    · subst e3
      exact ⟨a, xs, [], e, Rps.freeze ds xs [] (fun b hb => nomatch hb) r, .inr ⟨rfl, q, rfl, rfl⟩⟩
  | .dct own ks ds, v, o, hf, h => by
    unfold D.frz
    unfold Rp at h ⊢
    obtain ⟨a, xs, o', e, hl, r, q⟩ := h
    have hl' : ks.length = (frzs ds).length := by rw [frzs_map, List.length_map]; exact hl
    rcases q with ⟨e1, q, e2⟩ | ⟨e1, f, q, e2, e3⟩
    · subst e2
      exact ⟨a, xs, [], e, hl', Rps.freeze ds xs o' (fun b hb => hf b (List.mem_cons_of_mem _ hb)) r, .inr ⟨rfl, hf a List.mem_cons_self, .inl q, rfl, rfl⟩⟩
    · subst e3
      exact ⟨a, xs, [], e, hl', Rps.freeze ds xs [] (fun b hb => nomatch hb) r, .inr ⟨rfl, f, q, rfl, rfl⟩⟩
  | .ref n, _, _, _, h => by
    unfold D.frz
    unfold Rp at h ⊢
    obtain ⟨a, e, h⟩ := h
    exact ⟨a, e, h.1, rfl⟩
  | .dtt own ks ds, v, o, hf, h => by
    unfold D.frz
    unfold Rp at h ⊢
    obtain ⟨a, xs, o', e, hl, r, q⟩ := h
    have hl' : ks.length = (frzs ds).length := by rw [frzs_map, List.length_map]; exact hl
    rcases q with ⟨e1, q, e2⟩ | ⟨e1, f, q, e2, e3⟩
    · subst e2
      exact ⟨a, xs, [], e, hl', Rps.freeze ds xs o' (fun b hb => hf b (List.mem_cons_of_mem _ hb)) r, .inr ⟨rfl, hf a List.mem_cons_self, .inl q, rfl, rfl⟩⟩
    · subst e3
      exact ⟨a, xs, [], e, hl', Rps.freeze ds xs [] (fun b hb => nomatch hb) r, .inr ⟨rfl, f, q, rfl, rfl⟩⟩
  | .lck a q u, v, o, hf, h => by
    unfold D.frz
    unfold Rp at h ⊢
    exact ⟨h.1, h.2.1, rfl⟩
  | .obj own c ks ds, v, o, hf, h => by
    unfold D.frz
    unfold Rp at h ⊢
    obtain ⟨a, dx, C, xs, o', e, hl, hn, r, q⟩ := h
    have hl' : ks.length = (frzs ds).length := by rw [frzs_map, List.length_map]; exact hl
    rcases q with ⟨e1, q, e2⟩ | ⟨e1, f, q, e2, e3⟩
    · subst e2
      exact ⟨a, dx, C, xs, [], e, hl', hn, Rps.freeze ds xs o' (fun b hb => hf b (List.mem_cons_of_mem _ hb)) r, .inr ⟨rfl, hf a List.mem_cons_self, .inl q, rfl, rfl⟩⟩
    · subst e3
      exact ⟨a, dx, C, xs, [], e, hl', hn, Rps.freeze ds xs [] (fun b hb => nomatch hb) r, .inr ⟨rfl, f, q, rfl, rfl⟩⟩
  | .exc c ks ds, v, o, hf, h => by
    unfold D.frz
    unfold Rp at h ⊢
    obtain ⟨a, d, C, xs, e, hl, hn, r, q1, q2⟩ := h
    have hl' : ks.length = (frzs ds).length := by rw [frzs_map, List.length_map]; exact hl
    exact ⟨a, d, C, xs, e, hl', hn, Rps.freeze ds xs o hf r, q1, q2⟩
  | .lam f c q, v, o, hf, h => by
    unfold D.frz
    unfold Rp at h ⊢
    exact ⟨h.1, h.2.1, rfl⟩
  | .tab q, v, o, hf, h => by
    unfold D.frz
    unfold Rp at h ⊢
    obtain ⟨P, e, ht, h1, h4⟩ := h
    exact ⟨P, e, ht, h1, rfl⟩
theorem Rps.freeze : ∀ (ds : List D) (vs : List V) (o : List Addr), (∀ a ∈ o, F a) → Rps K F mu H ds vs o → Rps K F mu H (frzs ds) vs []
  | [], _, _, _, h => by unfold frzs; unfold Rps at h ⊢; exact ⟨h.1, rfl⟩
  | d :: ds, vs, o, hf, h => by
    unfold frzs
    unfold Rps at h ⊢
    obtain ⟨x, xs, o1, o2, e1, e2, r, rs⟩ := h
    subst e2
    exact ⟨x, xs, [], [], e1, rfl, Rp.freeze d x o1 (fun a ha => hf a (List.mem_append_left _ ha)) r, Rps.freeze ds xs o2 (fun a ha => hf a (List.mem_append_right _ ha)) rs⟩
end
mutual
theorem Rp.noown : ∀ (d : D) (v : V) (o : List Addr), d.isF = true → Rp K F mu H d v o → o = []
  | .non, _, _, _, h => by unfold Rp at h; exact h.2
  | .bl _, _, _, _, h => by unfold Rp at h; exact h.2
  | .int _, _, _, _, h => by unfold Rp at h; exact h.2
  | .str _, _, _, _, h => by unfold Rp at h; exact h.2
  | .tup ds, v, o, hf, h => by
    unfold Rp at h
    unfold D.isF at hf
    obtain ⟨a, xs, e, hs, r⟩ := h
    exact Rps.noown ds xs o hf r
  | .lst own ds, v, o, hf, h => by
    unfold Rp at h
    unfold D.isF at hf
    obtain ⟨a, xs, o', e, r, q⟩ := h
    rcases q with ⟨e1, q, e2⟩ | ⟨e1, q, e2, e3⟩
    · subst e1; simp at hf
    · exact e2
  | .dct own ks ds, v, o, hf, h => by
    unfold Rp at h
    unfold D.isF at hf
    obtain ⟨a, xs, o', e, hl, r, q⟩ := h
    rcases q with ⟨e1, q, e2⟩ | ⟨e1, f, q, e2, e3⟩
    · subst e1; simp at hf
    · exact e2
  | .ref n, _, _, _, h => by
    unfold Rp at h
    obtain ⟨a, e, h⟩ := h
    exact h.2
  | .dtt own ks ds, v, o, hf, h => by
    unfold Rp at h
    unfold D.isF at hf
    obtain ⟨a, xs, o', e, hl, r, q⟩ := h
    rcases q with ⟨e1, q, e2⟩ | ⟨e1, f, q, e2, e3⟩
    · subst e1; simp at hf
    · exact e2
  | .lck a q u, v, o, hf, h => by
    unfold Rp at h
    exact h.2.2
  | .obj own c ks ds, v, o, hf, h => by
    unfold Rp at h
    unfold D.isF at hf
    obtain ⟨a, dx, C, xs, o', e, hl, hn, r, q⟩ := h
    rcases q with ⟨e1, q, e2⟩ | ⟨e1, f, q, e2, e3⟩
    · subst e1; simp at hf
    · exact e2
  | .exc c ks ds, v, o, hf, h => by
    unfold Rp at h
    unfold D.isF at hf
    obtain ⟨a, d, C, xs, e, hl, hn, r, q1, q2⟩ := h
    exact Rps.noown ds xs o hf r
  | .lam f c q, v, o, hf, h => by
    unfold Rp at h
    exact h.2.2
  | .tab q, v, o, hf, h => by
    unfold Rp at h
    obtain ⟨P, e, ht, h1, h4⟩ := h
    exact h4
theorem Rps.noown : ∀ (ds : List D) (vs : List V) (o : List Addr), isFs ds = true → Rps K F mu H ds vs o → o = []
  | [], _, _, _, h => by unfold Rps at h; exact h.2
  | d :: ds, vs, o, hf, h => by
    unfold Rps at h
    unfold isFs at hf
    rw [Bool.and_eq_true] at hf
    obtain ⟨x, xs, o1, o2, e1, e2, r, rs⟩ := h
    rw [e2, Rp.noown d x o1 hf.1 r, Rps.noown ds xs o2 hf.2 rs]
    rfl
end
end
end N1
end
section
namespace N1
open PySem PySem.Spec PyProof.Rows L2
def IsM : HO → Prop
  | .lst _ => True
  | .dK _ => True
  | .dT _ => True
  | .ins _ _ _ => True
  | _ => False
theorem IsM.nt {u : HO} (h : IsM u) : ∀ xs, u ≠ .tup xs := fun xs e => by subst e; exact h
theorem IsM.nx {u : HO} (h : IsM u) : ¬ IsX u := by
  cases u <;> first | exact h.elim | exact fun z => z
theorem IsM.ntb {u : HO} (h : IsM u) : ∀ ps, u ≠ .tbl ps := fun ps e => by subst e; exact h
theorem IsM.nz {u : HO} (h : IsM u) : ∀ o w, u ≠ .frz o w := fun o w e => by subst e; exact h
structure Ok (F : Addr → Prop) (H : Hp) (L : List Addr) : Prop where
  nd : L.Nodup
  ow : ∀ a ∈ L, (∃ u, H a = some u ∧ IsM u) ∧ ¬ F a
  tr : ∀ a, F a → ∃ u, H a = some u ∧ ∀ ps, u ≠ .tbl ps
section
variable {F : Addr → Prop} {H : Hp} {L L' : List Addr}
theorem Ok.trn (h : Ok F H L) : ∀ a, F a → H a ≠ none := fun a q => by
  obtain ⟨u, e, _⟩ := h.tr a q
  rw [e]; simp
theorem Ok.sub (h : Ok F H L) (nd : L'.Nodup) (s : ∀ a ∈ L', a ∈ L) : Ok F H L' := ⟨nd, fun a ha => h.ow a (s a ha), h.tr⟩
theorem Ok.perm (h : Ok F H L) (p : L'.Perm L) : Ok F H L' := h.sub (p.nodup_iff.mpr h.nd) fun a ha => p.mem_iff.mp ha
/-- part of what is owned is frozen -/
theorem Ok.freeze {o : List Addr} (h : Ok F H (o ++ L)) : Ok (fun a => F a ∨ a ∈ o) H L := by
  have nd := List.nodup_append.mp h.nd
  refine ⟨nd.2.1, fun a ha => ⟨(h.ow a (List.mem_append_right _ ha)).1, fun q => ?_⟩, fun a q => ?_⟩
  · rcases q with q | q
    · exact (h.ow a (List.mem_append_right _ ha)).2 q
    · exact nd.2.2 a q a ha rfl
  · rcases q with q | q
    · exact h.tr a q
    · obtain ⟨⟨u, e, m⟩, _⟩ := h.ow a (List.mem_append_left _ q)
      exact ⟨u, e, m.ntb⟩
theorem Ok.new {p : Addr} {u : HO} (h : Ok F H L) (hp : H p = none) : Ok F (upd H p u) L := by
  refine ⟨h.nd, fun a ha => ?_, fun a q => ?_⟩
  · obtain ⟨⟨w, e, m⟩, n⟩ := h.ow a ha
    exact ⟨⟨w, by rw [upd_ne (ne_of_none e hp)]; exact e, m⟩, n⟩
  · by_cases e : a = p
    · subst e
      exact absurd hp (h.trn _ q)
    · rw [upd_ne e]; exact h.tr a q
theorem Ok.add {p : Addr} {u : HO} (h : Ok F H L) (hp : H p = none) (hm : IsM u) : Ok F (upd H p u) (p :: L) := by
  have h1 := h.new (u := u) hp
  refine ⟨List.nodup_cons.mpr ⟨fun z => ?_, h.nd⟩, fun a ha => ?_, h1.tr⟩
  · obtain ⟨⟨w, e, _⟩, _⟩ := h.ow p z
    rw [hp] at e; cases e
  · rcases List.mem_cons.mp ha with rfl | ha
    · exact ⟨⟨u, upd_same, hm⟩, fun q => h.trn _ q hp⟩
    · exact h1.ow a ha
theorem Ok.put {p : Addr} {u : HO} (h : Ok F H L) (hp : p ∈ L) (hm : IsM u) : Ok F (upd H p u) L := by
  refine ⟨h.nd, fun a ha => ?_, fun a q => ?_⟩
  · by_cases e : a = p
    · subst e; exact ⟨⟨u, upd_same, hm⟩, (h.ow _ ha).2⟩
    · rw [upd_ne e]; exact h.ow a ha
  · by_cases e : a = p
    · subst e; exact ⟨u, upd_same, hm.ntb⟩
    · rw [upd_ne e]; exact h.tr a q
end
section
variable {K : PySem.W.Frag} {F : Addr → Prop} {mu : List Addr} {H : Hp}
theorem mv_new {p : Addr} {u : HO} {L : List Addr} (h : Ok F H L) (hp : H p = none) : Mv F F mu mu H (upd H p u) (fun a => a = p) :=
  ⟨fun a w ne e => by rw [upd_ne ne]; exact e, fun _ q => q, fun _ _ q => q, fun a e q => h.trn a q (by rw [e]; exact hp), fun a xs e q => (by rw [e, hp] at q; cases q), fun a o w e q => (by rw [e, hp] at q; cases q), fun a w e q => (by rw [e, hp] at q; cases q)⟩
theorem mv_put {p : Addr} {u : HO} {L : List Addr} (h : Ok F H L) (hp : p ∈ L) : Mv F F mu mu H (upd H p u) (fun a => a = p) := by
  obtain ⟨⟨w, e, m⟩, n⟩ := h.ow p hp
  exact ⟨fun a w ne e => by rw [upd_ne ne]; exact e, fun _ q => q, fun _ _ q => q, fun a z q => n (by rw [← z]; exact q), fun a xs z q => (by rw [z, e] at q; cases q; exact m), fun a o w z q => (by rw [z, e] at q; cases q; exact m), fun a w' z q => (by rw [z, e] at q; cases q; exact m.nx)⟩
theorem mv_fz {F' : Addr → Prop} (hf : ∀ a, F a → F' a) : Mv F F' mu mu H H (fun _ => False) :=
  ⟨fun _ _ _ e => e, hf, fun _ _ q => q, fun _ z => z.elim, fun _ _ z => z.elim, fun _ _ _ z => z.elim, fun _ _ z => z.elim⟩
theorem mv_mu {mu' : List Addr} (hm : ∀ (n : Nat) (a : Addr), mu[n]? = some a → mu'[n]? = some a) : Mv F F mu mu' H H (fun _ => False) :=
  ⟨fun _ _ _ e => e, fun _ q => q, hm, fun _ z => z.elim, fun _ _ z => z.elim, fun _ _ _ z => z.elim, fun _ _ z => z.elim⟩
theorem RpO.len : ∀ {ds : List (Option D)} {vs : List (Option V)} {o : List Addr}, RpO K F mu H ds vs o → ds.length = vs.length
  | [], vs, o, h => by unfold RpO at h; rw [h.1]; rfl
  | none :: ds, vs, o, h => by
    unfold RpO at h
    obtain ⟨v, vs', e, r⟩ := h
    subst e
    rw [List.length_cons, List.length_cons, RpO.len r]
  | some d :: ds, vs, o, h => by
    unfold RpO at h
    obtain ⟨v, vs', o1, o2, e, _, _, r⟩ := h
    subst e
    rw [List.length_cons, List.length_cons, RpO.len r]
theorem Rps.len : ∀ {ds : List D} {vs : List V} {o : List Addr}, Rps K F mu H ds vs o → ds.length = vs.length
  | [], vs, o, h => by unfold Rps at h; rw [h.1]; rfl
  | d :: ds, vs, o, h => by
    unfold Rps at h
    obtain ⟨v, vs', o1, o2, e, _, _, r⟩ := h
    subst e
    rw [List.length_cons, List.length_cons, Rps.len r]
theorem RpO.app : ∀ {as : List (Option D)} {xs : List (Option V)} {bs : List (Option D)} {ys : List (Option V)} {o1 o2 : List Addr}, RpO K F mu H as xs o1 → RpO K F mu H bs ys o2 → RpO K F mu H (as ++ bs) (xs ++ ys) (o1 ++ o2)
  | [], xs, bs, ys, o1, o2, h, r => by
    unfold RpO at h
    obtain ⟨e, e'⟩ := h
    subst e; subst e'
    exact r
  | none :: as, xs, bs, ys, o1, o2, h, r => by
    unfold RpO at h
    obtain ⟨v, vs', e, h⟩ := h
    subst e
    show RpO K F mu H (none :: (as ++ bs)) _ _
    unfold RpO
    exact ⟨v, vs' ++ ys, rfl, RpO.app h r⟩
  | some d :: as, xs, bs, ys, o1, o2, h, r => by
    unfold RpO at h
    obtain ⟨v, vs', p1, p2, e, e', hd, h⟩ := h
    subst e; subst e'
    show RpO K F mu H (some d :: (as ++ bs)) _ _
    unfold RpO
    exact ⟨v, vs' ++ ys, p1, p2 ++ o2, rfl, by rw [List.append_assoc], hd, RpO.app h r⟩
theorem RpO.split : ∀ {as : List (Option D)} {xs : List (Option V)} {bs : List (Option D)} {ys : List (Option V)} {o : List Addr}, as.length = xs.length → RpO K F mu H (as ++ bs) (xs ++ ys) o →
    ∃ o1 o2, o = o1 ++ o2 ∧ RpO K F mu H as xs o1 ∧ RpO K F mu H bs ys o2
  | [], [], bs, ys, o, _, h => ⟨[], o, rfl, by unfold RpO; exact ⟨rfl, rfl⟩, h⟩
  | [], _ :: _, _, _, _, l, _ => by simp at l
  | _ :: _, [], _, _, _, l, _ => by simp at l
  | none :: as, x :: xs, bs, ys, o, l, h => by
    have h' : RpO K F mu H (none :: (as ++ bs)) (x :: (xs ++ ys)) o := h
    unfold RpO at h'
    obtain ⟨v, vs', e, h'⟩ := h'
    injection e with e1 e2
    subst e2
    obtain ⟨o1, o2, e3, h1, h2⟩ := RpO.split (by simpa using l) h'
    exact ⟨o1, o2, e3, by unfold RpO; exact ⟨x, xs, rfl, h1⟩, h2⟩
  | some d :: as, x :: xs, bs, ys, o, l, h => by
    have h' : RpO K F mu H (some d :: (as ++ bs)) (x :: (xs ++ ys)) o := h
    unfold RpO at h'
    obtain ⟨v, vs', p1, p2, e, e', hd, h'⟩ := h'
    injection e with e1 e2
    subst e2; subst e1
    obtain ⟨o1, o2, e3, h1, h2⟩ := RpO.split (by simpa using l) h'
    exact ⟨p1 ++ o1, o2, by rw [e', e3, List.append_assoc], by unfold RpO; exact ⟨v, xs, p1, o1, rfl, rfl, hd, h1⟩, h2⟩
theorem RpO.of_all : ∀ {ds : List D} {vs : List V} {o : List Addr}, Rps K F mu H ds vs o → RpO K F mu H (ds.map some) (vs.map some) o
  | [], vs, o, h => by
    unfold Rps at h
    obtain ⟨e, e'⟩ := h
    subst e; subst e'
    show RpO K F mu H [] [] []
    unfold RpO
    exact ⟨rfl, rfl⟩
  | d :: ds, vs, o, h => by
    unfold Rps at h
    obtain ⟨v, vs', o1, o2, e, e', hd, h⟩ := h
    subst e
    show RpO K F mu H (some d :: ds.map some) (some v :: vs'.map some) o
    unfold RpO
    exact ⟨v, vs'.map some, o1, o2, rfl, e', hd, RpO.of_all h⟩
theorem RpO.all : ∀ {ds : List D} {vs : List (Option V)} {o : List Addr}, RpO K F mu H (ds.map some) vs o → ∃ xs, vs = xs.map some ∧ Rps K F mu H ds xs o
  | [], vs, o, h => by
    have h' : RpO K F mu H [] vs o := h
    unfold RpO at h'
    refine ⟨[], h'.1, ?_⟩
    unfold Rps
    exact ⟨rfl, h'.2⟩
  | d :: ds, vs, o, h => by
    have h' : RpO K F mu H (some d :: ds.map some) vs o := h
    unfold RpO at h'
    obtain ⟨v, vs', o1, o2, e, e', hd, h'⟩ := h'
    obtain ⟨xs, e2, r⟩ := RpO.all h'
    refine ⟨v :: xs, by rw [e, e2]; rfl, ?_⟩
    unfold Rps
    exact ⟨v, xs, o1, o2, rfl, e', hd, r⟩
/-- the value at a slot -/
theorem RpO.at_ : ∀ {ds : List (Option D)} {vs : List (Option V)} {o : List Addr} {i : Nat} {d : D}, RpO K F mu H ds vs o → ds[i]? = some (some d) → ∃ v q, vs[i]? = some (some v) ∧ Rp K F mu H d v q ∧ ∀ a ∈ q, a ∈ o
  | [], _, _, _, _, _, e => by simp at e
  | none :: ds, vs, o, i, d, h, e => by
    unfold RpO at h
    obtain ⟨v, vs', ev, h⟩ := h
    subst ev
    cases i with
    | zero => simp at e
    | succ i =>
      obtain ⟨w, q, e1, r, s⟩ := RpO.at_ h (show ds[i]? = some (some d) by simpa using e)
      exact ⟨w, q, by simpa using e1, r, s⟩
  | some c :: ds, vs, o, i, d, h, e => by
    unfold RpO at h
    obtain ⟨v, vs', o1, o2, ev, eo, hc, h⟩ := h
    subst ev
    cases i with
    | zero =>
      have e' : c = d := by simpa using e
      subst e'
      exact ⟨v, o1, rfl, hc, fun a ha => by rw [eo]; exact List.mem_append_left _ ha⟩
    | succ i =>
      obtain ⟨w, q, e1, r, s⟩ := RpO.at_ h (show ds[i]? = some (some d) by simpa using e)
      exact ⟨w, q, by simpa using e1, r, fun a ha => by rw [eo]; exact List.mem_append_right _ (s a ha)⟩
theorem Rps.at_ : ∀ {ds : List D} {vs : List V} {o : List Addr} {i : Nat} {d : D}, Rps K F mu H ds vs o → ds[i]? = some d → ∃ v q, vs[i]? = some v ∧ Rp K F mu H d v q ∧ ∀ a ∈ q, a ∈ o
  | [], _, _, _, _, _, e => by simp at e
  | c :: ds, vs, o, i, d, h, e => by
    unfold Rps at h
    obtain ⟨v, vs', o1, o2, ev, eo, hc, h⟩ := h
    subst ev
    cases i with
    | zero =>
      have e' : c = d := by simpa using e
      subst e'
      exact ⟨v, o1, rfl, hc, fun a ha => by rw [eo]; exact List.mem_append_left _ ha⟩
    | succ i =>
      obtain ⟨w, q, e1, r, s⟩ := Rps.at_ h (show ds[i]? = some d by simpa using e)
      exact ⟨w, q, by simpa using e1, r, fun a ha => by rw [eo]; exact List.mem_append_right _ (s a ha)⟩
/-- a slot is stored: what was there is forgotten -/
theorem RpO.set : ∀ {ds : List (Option D)} {vs : List (Option V)} {o : List Addr} {i : Nat} {d : D} {v : V} {q : List Addr}, i < ds.length → RpO K F mu H ds vs o → Rp K F mu H d v q →
    ∃ o', RpO K F mu H (ds.set i (some d)) (vs.set i (some v)) o' ∧ ∃ o1 o2 o3, o = o1 ++ o2 ++ o3 ∧ o' = o1 ++ q ++ o3
  | [], _, _, _, _, _, _, l, _, _ => by simp at l
  | none :: ds, vs, o, i, d, v, q, l, h, r => by
    unfold RpO at h
    obtain ⟨w, vs', ev, h⟩ := h
    subst ev
    cases i with
    | zero =>
      refine ⟨q ++ o, ?_, [], [], o, rfl, by simp⟩
      show RpO K F mu H (some d :: ds) (some v :: vs') _
      unfold RpO
      exact ⟨v, vs', q, o, rfl, rfl, r, h⟩
    | succ i =>
      obtain ⟨o', h', o1, o2, o3, e1, e2⟩ := RpO.set (i := i) (by simpa using l) h r
      refine ⟨o', ?_, o1, o2, o3, e1, e2⟩
      show RpO K F mu H (none :: ds.set i (some d)) (w :: vs'.set i (some v)) _
      unfold RpO
      exact ⟨w, _, rfl, h'⟩
  | some c :: ds, vs, o, i, d, v, q, l, h, r => by
    unfold RpO at h
    obtain ⟨w, vs', p1, p2, ev, eo, hc, h⟩ := h
    subst ev
    cases i with
    | zero =>
      refine ⟨q ++ p2, ?_, [], p1, p2, by rw [eo]; simp, by simp⟩
      show RpO K F mu H (some d :: ds) (some v :: vs') _
      unfold RpO
      exact ⟨v, vs', q, p2, rfl, rfl, r, h⟩
    | succ i =>
      obtain ⟨o', h', o1, o2, o3, e1, e2⟩ := RpO.set (i := i) (by simpa using l) h r
      refine ⟨p1 ++ o', ?_, p1 ++ o1, o2, o3, by rw [eo, e1]; simp, by rw [e2]; simp⟩
      show RpO K F mu H (some c :: ds.set i (some d)) (some w :: vs'.set i (some v)) _
      unfold RpO
      exact ⟨w, _, p1, o', rfl, rfl, hc, h'⟩
/-- a slot is forgotten -/
theorem RpO.unset : ∀ {ds : List (Option D)} {vs : List (Option V)} {o : List Addr} (i : Nat) (w : Option V), RpO K F mu H ds vs o →
    ∃ o', RpO K F mu H (ds.set i none) (vs.set i w) o' ∧ ∃ o1 o2 o3, o = o1 ++ o2 ++ o3 ∧ o' = o1 ++ o3
  | [], vs, o, i, w, h => by
    unfold RpO at h
    obtain ⟨e, e'⟩ := h
    subst e; subst e'
    exact ⟨[], by show RpO K F mu H [] [] []; unfold RpO; exact ⟨rfl, rfl⟩, [], [], [], rfl, rfl⟩
  | none :: ds, vs, o, i, w, h => by
    unfold RpO at h
    obtain ⟨x, vs', ev, h⟩ := h
    subst ev
    cases i with
    | zero =>
      refine ⟨o, ?_, [], [], o, rfl, by simp⟩
      show RpO K F mu H (none :: ds) (w :: vs') _
      unfold RpO
      exact ⟨w, vs', rfl, h⟩
    | succ i =>
      obtain ⟨o', h', o1, o2, o3, e1, e2⟩ := RpO.unset i w h
      refine ⟨o', ?_, o1, o2, o3, e1, e2⟩
      show RpO K F mu H (none :: ds.set i none) (x :: vs'.set i w) _
      unfold RpO
      exact ⟨x, _, rfl, h'⟩
  | some c :: ds, vs, o, i, w, h => by
    unfold RpO at h
    obtain ⟨x, vs', p1, p2, ev, eo, hc, h⟩ := h
    subst ev
    cases i with
    | zero =>
      refine ⟨p2, ?_, [], p1, p2, by rw [eo]; simp, by simp⟩
      show RpO K F mu H (none :: ds) (w :: vs') _
      unfold RpO
      exact ⟨w, vs', rfl, h⟩
    | succ i =>
      obtain ⟨o', h', o1, o2, o3, e1, e2⟩ := RpO.unset i w h
      refine ⟨p1 ++ o', ?_, p1 ++ o1, o2, o3, by rw [eo, e1]; simp, by rw [e2]; simp⟩
      show RpO K F mu H (some c :: ds.set i none) (some x :: vs'.set i w) _
      unfold RpO
      exact ⟨x, _, p1, o', rfl, rfl, hc, h'⟩
end
theorem RpO.focus {K : PySem.W.Frag} {F : Addr → Prop} {mu : List Addr} {H : Hp} : ∀ {ds : List (Option D)} {vs : List (Option V)} {o : List Addr} {i : Nat} {d : D}, RpO K F mu H ds vs o → ds[i]? = some (some d) →
    ∃ v q oL oR, vs[i]? = some (some v) ∧ Rp K F mu H d v q ∧ o = oL ++ (q ++ oR) ∧ RpO K F mu H (ds.set i none) vs (oL ++ oR) ∧
      ∀ (F' : Addr → Prop) (mu' : List Addr) (H' : Hp) (C : Addr → Prop), Mv F F' mu mu' H H' C → (∀ a, a ∈ oL ++ oR → ¬ C a) → ∀ (d' : D) (q' : List Addr), Rp K F' mu' H' d' v q' → RpO K F' mu' H' (ds.set i (some d')) vs (oL ++ (q' ++ oR))
  | [], _, _, _, _, _, e => by simp at e
  | none :: ds, vs, o, i, d, h, e => by
    unfold RpO at h
    obtain ⟨w, vs', ev, h⟩ := h
    subst ev
    cases i with
    | zero => simp at e
    | succ i =>
      obtain ⟨v, q, oL, oR, e1, r, e2, h0, k⟩ := RpO.focus (i := i) h (by simpa using e)
      refine ⟨v, q, oL, oR, by simpa using e1, r, e2, ?_, fun F' mu' H' C m hc d' q' r' => ?_⟩
      · show RpO K F mu H (none :: ds.set i none) (w :: vs') _
        unfold RpO
        exact ⟨w, vs', rfl, h0⟩
      · show RpO K F' mu' H' (none :: ds.set i (some d')) (w :: vs') _
        unfold RpO
        exact ⟨w, vs', rfl, k F' mu' H' C m hc d' q' r'⟩
  | some c :: ds, vs, o, i, d, h, e => by
    unfold RpO at h
    obtain ⟨w, vs', p1, p2, ev, eo, hc, h⟩ := h
    subst ev
    cases i with
    | zero =>
      have e' : c = d := by simpa using e
      subst e'
      refine ⟨w, p1, [], p2, rfl, hc, by simpa using eo, ?_, fun F' mu' H' C m hC d' q' r' => ?_⟩
      · show RpO K F mu H (none :: ds) (some w :: vs') _
        unfold RpO
        exact ⟨_, vs', rfl, h⟩
      · show RpO K F' mu' H' (some d' :: ds) (some w :: vs') (q' ++ p2)
        unfold RpO
        exact ⟨w, vs', q', p2, rfl, rfl, r', h.mv m _ _ _ fun a ha => hC a ha⟩
    | succ i =>
      obtain ⟨v, q, oL, oR, e1, r, e2, h0, k⟩ := RpO.focus (i := i) h (by simpa using e)
      refine ⟨v, q, p1 ++ oL, oR, by simpa using e1, r, by rw [eo, e2, List.append_assoc], ?_, fun F' mu' H' C m hC d' q' r' => ?_⟩
      · show RpO K F mu H (some c :: ds.set i none) (some w :: vs') _
        unfold RpO
        exact ⟨w, vs', p1, oL ++ oR, rfl, by rw [List.append_assoc], hc, h0⟩
      · show RpO K F' mu' H' (some c :: ds.set i (some d')) (some w :: vs') _
        unfold RpO
        refine ⟨w, vs', p1, oL ++ (q' ++ oR), rfl, by rw [List.append_assoc], hc.mv m _ _ _ fun a ha => hC a (by simp [ha]), k F' mu' H' C m (fun a ha => hC a ?_) d' q' r'⟩
        rcases List.mem_append.mp ha with z | z <;> simp [z]
theorem Rps.focus {K : PySem.W.Frag} {F : Addr → Prop} {mu : List Addr} {H : Hp} : ∀ {ds : List D} {vs : List V} {o : List Addr} {i : Nat} {d : D}, Rps K F mu H ds vs o → ds[i]? = some d →
    ∃ v q oL oR, vs[i]? = some v ∧ Rp K F mu H d v q ∧ o = oL ++ (q ++ oR) ∧
      ∀ (F' : Addr → Prop) (mu' : List Addr) (H' : Hp) (C : Addr → Prop), Mv F F' mu mu' H H' C → (∀ a, a ∈ oL ++ oR → ¬ C a) → ∀ (d' : D) (v' : V) (q' : List Addr), Rp K F' mu' H' d' v' q' → Rps K F' mu' H' (ds.set i d') (vs.set i v') (oL ++ (q' ++ oR))
  | [], _, _, _, _, _, e => by simp at e
  | c :: ds, vs, o, i, d, h, e => by
    unfold Rps at h
    obtain ⟨w, vs', p1, p2, ev, eo, hc, h⟩ := h
    subst ev
    cases i with
    | zero =>
      have e' : c = d := by simpa using e
      subst e'
      refine ⟨w, p1, [], p2, rfl, hc, by simpa using eo, fun F' mu' H' C m hC d' v' q' r' => ?_⟩
      show Rps K F' mu' H' (d' :: ds) (v' :: vs') (q' ++ p2)
      unfold Rps
      exact ⟨v', vs', q', p2, rfl, rfl, r', h.mv m _ _ _ fun a ha => hC a ha⟩
    | succ i =>
      obtain ⟨v, q, oL, oR, e1, r, e2, k⟩ := Rps.focus (i := i) h (by simpa using e)
      refine ⟨v, q, p1 ++ oL, oR, by simpa using e1, r, by rw [eo, e2, List.append_assoc], fun F' mu' H' C m hC d' v' q' r' => ?_⟩
      show Rps K F' mu' H' (c :: ds.set i d') (w :: vs'.set i v') _
      unfold Rps
      refine ⟨w, vs'.set i v', p1, oL ++ (q' ++ oR), rfl, by rw [List.append_assoc], hc.mv m _ _ _ fun a ha => hC a (by simp [ha]), k F' mu' H' C m (fun a ha => hC a ?_) d' v' q' r'⟩
      rcases List.mem_append.mp ha with z | z <;> simp [z]
theorem Rps.app {K : PySem.W.Frag} {F : Addr → Prop} {mu : List Addr} {H : Hp} : ∀ {as : List D} {xs : List V} {bs : List D} {ys : List V} {o1 o2 : List Addr}, Rps K F mu H as xs o1 → Rps K F mu H bs ys o2 → Rps K F mu H (as ++ bs) (xs ++ ys) (o1 ++ o2)
  | [], xs, bs, ys, o1, o2, h, r => by
    unfold Rps at h
    obtain ⟨e, e'⟩ := h
    subst e; subst e'
    exact r
  | d :: as, xs, bs, ys, o1, o2, h, r => by
    unfold Rps at h
    obtain ⟨v, vs', p1, p2, e, e', hd, h⟩ := h
    subst e; subst e'
    show Rps K F mu H (d :: (as ++ bs)) _ _
    unfold Rps
    exact ⟨v, vs' ++ ys, p1, p2 ++ o2, rfl, by rw [List.append_assoc], hd, Rps.app h r⟩
theorem Rps.erase {K : PySem.W.Frag} {F : Addr → Prop} {mu : List Addr} {H : Hp} : ∀ {ds : List D} {vs : List V} {o : List Addr} {i : Nat} {d : D}, Rps K F mu H ds vs o → ds[i]? = some d →
    ∃ v q oL oR, vs[i]? = some v ∧ Rp K F mu H d v q ∧ o = oL ++ (q ++ oR) ∧ Rps K F mu H (ds.eraseIdx i) (vs.eraseIdx i) (oL ++ oR)
  | [], _, _, _, _, _, e => by simp at e
  | c :: ds, vs, o, i, d, h, e => by
    unfold Rps at h
    obtain ⟨w, vs', p1, p2, ev, eo, hc, h⟩ := h
    subst ev
    cases i with
    | zero =>
      have e' : c = d := by simpa using e
      subst e'
      exact ⟨w, p1, [], p2, rfl, hc, by simpa using eo, h⟩
    | succ i =>
      obtain ⟨v, q, oL, oR, e1, r, e2, k⟩ := Rps.erase (i := i) h (by simpa using e)
      refine ⟨v, q, p1 ++ oL, oR, by simpa using e1, r, by rw [eo, e2, List.append_assoc], ?_⟩
      show Rps K F mu H (c :: ds.eraseIdx i) (w :: vs'.eraseIdx i) _
      unfold Rps
      exact ⟨w, vs'.eraseIdx i, p1, oL ++ oR, rfl, by rw [List.append_assoc], hc, k⟩
/-- the state: the store's objects, a frame's values by slot, what else is held (the callers' values, what an expression has reached) -/
def RelW (K : PySem.W.Frag) (F : Addr → Prop) (mu : List Addr) (oS oE oT : List Addr) (S : List (Option D)) (env : List (Option D)) (σ : L2.St) (tp : List (Option D)) (tv : List (Option V)) (H : Hp) : Prop :=
  RpO K F mu H S (mu.map fun a => some (V.ref a)) oS ∧ RpO K F mu H env σ oE ∧ RpO K F mu H tp tv oT ∧ Ok F H (oS ++ (oE ++ oT))
def RelO (K : PySem.W.Frag) (S : List (Option D)) (env : List (Option D)) (σ : L2.St) (tp : List (Option D)) (tv : List (Option V)) (H : Hp) : Prop :=
  ∃ F mu oS oE oT, RelW K F mu oS oE oT S env σ tp tv H
abbrev Rel (K : PySem.W.Frag) (S : List D) (env : List (Option D)) (σ : L2.St) (tp : List (Option D)) (tv : List (Option V)) (H : Hp) : Prop := RelO K (S.map some) env σ tp tv H
theorem perm2 (a b e : List Addr) : (a ++ (b ++ e)).Perm (b ++ (a ++ e)) := by
  rw [← List.append_assoc, ← List.append_assoc]
  exact List.Perm.append_right e List.perm_append_comm
theorem perm3 (a b c e : List Addr) : (c ++ (a ++ (b ++ e))).Perm (b ++ (c ++ (a ++ e))) :=
  ((perm2 a b e).append_left c).trans (perm2 c b (a ++ e))
theorem perm4 (a b c d e : List Addr) : (c ++ (a ++ (d ++ (b ++ e)))).Perm (b ++ (c ++ (a ++ (d ++ e)))) :=
  (((perm2 d b e).append_left a).append_left c).trans (perm3 a b c (d ++ e))
section
variable {K : PySem.W.Frag} {S : List (Option D)} {env : List (Option D)} {σ : L2.St} {tp : List (Option D)} {tv : List (Option V)} {H : Hp} {d : D} {v : V}
theorem RelO.len (h : RelO K S env σ tp tv H) : env.length = σ.length := by
  obtain ⟨F, mu, oS, oE, oT, h1, h2, h3, h4⟩ := h
  exact h2.len
theorem RpO.cons_inv {F : Addr → Prop} {mu : List Addr} {o : List Addr} {w : Option V} (h : RpO K F mu H (some d :: tp) (w :: tv) o) : ∃ x o1 o2, w = some x ∧ o = o1 ++ o2 ∧ Rp K F mu H d x o1 ∧ RpO K F mu H tp tv o2 := by
  unfold RpO at h
  obtain ⟨x, vs', p1, p2, ev, eo, hc, h⟩ := h
  injection ev with ev1 ev2
  subst ev2
  exact ⟨x, p1, p2, ev1, eo, hc, h⟩
theorem RpO.cons_mk {F : Addr → Prop} {mu : List Addr} {o1 o2 : List Addr} (h : Rp K F mu H d v o1) (r : RpO K F mu H tp tv o2) : RpO K F mu H (some d :: tp) (some v :: tv) (o1 ++ o2) := by
  unfold RpO
  exact ⟨v, tv, o1, o2, rfl, rfl, h, r⟩
theorem RpO.nil_mk {F : Addr → Prop} {mu : List Addr} : RpO K F mu H [] [] [] := by
  unfold RpO
  exact ⟨rfl, rfl⟩
theorem Rps.cons_mk {F : Addr → Prop} {mu : List Addr} {o1 o2 : List Addr} {ds : List D} {vs : List V} (h : Rp K F mu H d v o1) (r : Rps K F mu H ds vs o2) : Rps K F mu H (d :: ds) (v :: vs) (o1 ++ o2) := by
  unfold Rps
  exact ⟨v, vs, o1, o2, rfl, rfl, h, r⟩
theorem Rps.nil_mk {F : Addr → Prop} {mu : List Addr} : Rps K F mu H [] [] [] := by
  unfold Rps
  exact ⟨rfl, rfl⟩
/-- what is held: forgotten -/
theorem RelO.pop {w : Option V} (h : RelO K S env σ (some d :: tp) (w :: tv) H) : RelO K S env σ tp tv H := by
  obtain ⟨F, mu, oS, oE, oT, h1, h2, h3, h4⟩ := h
  obtain ⟨x, p1, p2, ev, eo, hc, h3'⟩ := h3.cons_inv
  subst eo
  refine ⟨F, mu, oS, oE, p2, h1, h2, h3', h4.sub ?_ ?_⟩
  · exact h4.nd.sublist ((List.Sublist.refl _).append ((List.Sublist.refl _).append (List.sublist_append_right _ _)))
  · intro a ha
    simp only [List.mem_append] at ha ⊢
    rcases ha with z | z | z <;> simp [z]
theorem RelO.popA : ∀ {ds : List D} {vs : List V}, ds.length = vs.length → RelO K S env σ (ds.map some ++ tp) (vs.map some ++ tv) H → RelO K S env σ tp tv H
  | [], [], _, h => h
  | [], _ :: _, l, _ => by simp at l
  | _ :: _, [], l, _ => by simp at l
  | _ :: ds, _ :: vs, l, h => RelO.popA (ds := ds) (vs := vs) (by simpa using l) (RelO.pop h)
/-- a value held last that owns nothing may be held twice, or any that stands there -/
theorem RelO.push {F : Addr → Prop} {mu oS oE oT : List Addr} (h : RelW K F mu oS oE oT S env σ tp tv H) (r : Rp K F mu H d v []) : RelO K S env σ (some d :: tp) (some v :: tv) H :=
  ⟨F, mu, oS, oE, oT, h.1, h.2.1, RpO.cons_mk r h.2.2.1, h.2.2.2⟩
def D.sc : D → Option V
  | .non => some .non
  | .bl b => some (.bl b)
  | .int i => some (.int i)
  | .str x => some (.str x)
  | _ => none
theorem Rp.sc {F : Addr → Prop} {mu : List Addr} (e : d.sc = some v) : Rp K F mu H d v [] := by
  cases d <;> simp only [D.sc, Option.some.injEq] at e <;> first | (subst e; unfold Rp; exact ⟨rfl, rfl⟩) | cases e
theorem Rp.sc_inv {F : Addr → Prop} {mu o : List Addr} {w : V} (e : d.sc = some v) (h : Rp K F mu H d w o) : w = v := by
  cases d <;> simp only [D.sc, Option.some.injEq] at e <;> first | (subst e; unfold Rp at h; exact h.1) | cases e
theorem RelO.sc (h : RelO K S env σ tp tv H) (e : d.sc = some v) : RelO K S env σ (some d :: tp) (some v :: tv) H := by
  obtain ⟨F, mu, oS, oE, oT, h⟩ := h
  exact RelO.push h (Rp.sc e)
/-- what is held last, frozen -/
theorem RelO.frzA {ds : List D} {vs : List V} (h : RelO K S env σ (ds.map some ++ tp) (vs.map some ++ tv) H) (l : ds.length = vs.length) : RelO K S env σ ((frzs ds).map some ++ tp) (vs.map some ++ tv) H := by
  obtain ⟨F, mu, oS, oE, oT, h1, h2, h3, h4⟩ := h
  obtain ⟨p1, p2, eo, ha0, h3'⟩ := RpO.split (by simpa using l) h3
  subst eo
  have h5 : Ok F H (p1 ++ (oS ++ (oE ++ p2))) := h4.perm (perm3 oE p1 oS p2).symm
  have h6 := h5.freeze
  have m : Mv F (fun a => F a ∨ a ∈ p1) mu mu H H (fun _ => False) := mv_fz (fun a q => .inl q)
  obtain ⟨xs, e, ha⟩ := RpO.all ha0
  have e' : xs = vs := by
    have := congrArg (List.filterMap id) e
    simpa [List.filterMap_map] using this.symm
  subst e'
  refine ⟨_, mu, oS, oE, p2, h1.mv m _ _ _ (fun _ _ z => z), h2.mv m _ _ _ (fun _ _ z => z), ?_, h6⟩
  exact RpO.app (o1 := []) (RpO.of_all ((ha.mv m _ _ _ (fun _ _ z => z)).freeze _ _ _ fun a q => .inr q)) (h3'.mv m _ _ _ (fun _ _ z => z))
theorem RelO.frz (h : RelO K S env σ (some d :: tp) (some v :: tv) H) : RelO K S env σ (some d.frz :: tp) (some v :: tv) H :=
  RelO.frzA (ds := [d]) (vs := [v]) h rfl
/-- several held values in another order -/
theorem RelO.swap {as bs : List (Option D)} {xs ys : List (Option V)} (la : as.length = xs.length) (lb : bs.length = ys.length) (h : RelO K S env σ (as ++ (bs ++ tp)) (xs ++ (ys ++ tv)) H) : RelO K S env σ (bs ++ (as ++ tp)) (ys ++ (xs ++ tv)) H := by
  obtain ⟨F, mu, oS, oE, oT, h1, h2, h3, h4⟩ := h
  obtain ⟨p1, p2, eo, ha, h3a⟩ := RpO.split la h3
  obtain ⟨p3, p4, eo', hb, h3b⟩ := RpO.split lb h3a
  subst eo; subst eo'
  refine ⟨F, mu, oS, oE, _, h1, h2, RpO.app hb (RpO.app ha h3b), h4.perm ?_⟩
  exact ((perm2 p3 p1 p4).append_left oE).append_left oS
theorem RelO.rot {as : List (Option D)} {xs : List (Option V)} (la : as.length = xs.length) (h : RelO K S env σ (as ++ (some d :: tp)) (xs ++ (some v :: tv)) H) : RelO K S env σ (some d :: (as ++ tp)) (some v :: (xs ++ tv)) H :=
  RelO.swap (bs := [some d]) (ys := [some v]) la rfl h
/-- the frame's values among those held -/
theorem RelO.toT (h : RelO K S env σ tp tv H) : RelO K S [] [] (env ++ tp) (σ ++ tv) H := by
  obtain ⟨F, mu, oS, oE, oT, h1, h2, h3, h4⟩ := h
  exact ⟨F, mu, oS, [], oE ++ oT, h1, RpO.nil_mk, RpO.app h2 h3, h4⟩
theorem RelO.ofT (l : env.length = σ.length) (h : RelO K S [] [] (env ++ tp) (σ ++ tv) H) : RelO K S env σ tp tv H := by
  obtain ⟨F, mu, oS, oE, oT, h1, h2, h3, h4⟩ := h
  obtain ⟨p1, p2, eo, ha, h3'⟩ := RpO.split l h3
  unfold RpO at h2
  obtain ⟨_, e⟩ := h2
  subst e; subst eo
  exact ⟨F, mu, oS, p1, p2, h1, ha, h3', h4⟩
/-- a call: the arguments ahead, all else behind -/
theorem RelO.enter {as : List (Option D)} {xs : List (Option V)} (la : as.length = xs.length) (h : RelO K S env σ (as ++ tp) (xs ++ tv) H) : RelO K S [] [] (as ++ (env ++ tp)) (xs ++ (σ ++ tv)) H :=
  RelO.swap h.len la h.toT
theorem RelO.leave (l : env.length = σ.length) (h : RelO K S [] [] (some d :: (env ++ tp)) (some v :: (σ ++ tv)) H) : RelO K S env σ (some d :: tp) (some v :: tv) H :=
  RelO.ofT l (RelO.swap (as := [some d]) (xs := [some v]) rfl l h)
/-- the frame is left: its values are forgotten -/
theorem RelO.drop (h : RelO K S env σ tp tv H) : RelO K S [] [] tp tv H := by
  obtain ⟨F, mu, oS, oE, oT, h1, h2, h3, h4⟩ := h
  refine ⟨F, mu, oS, [], oT, h1, RpO.nil_mk, h3, h4.sub ?_ ?_⟩
  · exact h4.nd.sublist ((List.Sublist.refl _).append (List.sublist_append_right _ _))
  · intro a ha
    simp only [List.mem_append, List.not_mem_nil, false_or] at ha ⊢
    rcases ha with z | z <;> simp [z]
/-- a name is stored -/
theorem RelO.set {i : Nat} (hi : i < env.length) (h : RelO K S env σ (some d :: tp) (some v :: tv) H) : RelO K S (env.set i (some d)) (σ.set i (some v)) tp tv H := by
  obtain ⟨F, mu, oS, oE, oT, h1, h2, h3, h4⟩ := h
  obtain ⟨x, p1, p2, ev, eo, hc, h3'⟩ := h3.cons_inv
  injection ev with ev
  subst ev; subst eo
  obtain ⟨o', h2', o1, o2, o3, e1, e2⟩ := RpO.set hi h2 hc
  subst e1; subst e2
  refine ⟨F, mu, oS, _, p2, h1, h2', h3', ?_⟩
  have h5 : Ok F H (oS ++ ((o1 ++ p1 ++ o3) ++ p2)) := by
    have q : Ok F H (o2 ++ (oS ++ ((o1 ++ p1 ++ o3) ++ p2))) := h4.perm (by
      simp only [List.append_assoc]
      refine List.Perm.symm ?_
      refine ((perm3 o1 o2 oS (o3 ++ (p1 ++ p2))).trans (List.Perm.append_left o2 ?_))
      exact ((perm2 o3 p1 p2).append_left o1).append_left oS)
    exact q.sub ((List.nodup_append.mp q.nd).2.1) fun a ha => List.mem_append_right _ ha
  exact h5
/-- a value is moved out of the frame -/
theorem RelO.take {i : Nat} (h : RelO K S env σ tp tv H) (e : env[i]? = some (some d)) : ∃ v, σ[i]? = some (some v) ∧ RelO K S (env.set i none) σ (some d :: tp) (some v :: tv) H := by
  obtain ⟨F, mu, oS, oE, oT, h1, h2, h3, h4⟩ := h
  obtain ⟨v, q, oL, oR, e1, r, e2, h2', _⟩ := h2.focus e
  subst e2
  refine ⟨v, e1, F, mu, oS, oL ++ oR, q ++ oT, h1, h2', RpO.cons_mk r h3, h4.perm ?_⟩
  simp only [List.append_assoc]
  exact (((perm2 q oR oT).append_left oL).append_left oS).symm
end
end N1
end
section
namespace N1
open PySem PySem.Spec PyProof.Rows L2
inductive Exc where
  | mk (name : Str) (ks : List Str) (vs : List D)
inductive R (a : Type) where
  | ok (x : a) (S : List D)
  | exn (e : Exc) (S : List D)
  | bad
abbrev Env := List (Option D)
abbrev Sto := List D
abbrev MB := Env → Sto → Option D
abbrev ME := Env → Sto → R D
abbrev MA := Env → Sto → R (List D)
abbrev MAB := Env → Sto → Option (List D)
abbrev MT := Env → Sto → R Bool
inductive Fl where
  | nx (env : Env) | rt (d : D) | bk (env : Env) | ct (env : Env)
abbrev MS := Env → Sto → R Fl
abbrev Fn := List D → Sto → R D
@[simp] def R.bindN {a b : Type} (r : R a) (f : a → Sto → R b) : R b := match r with
  | .ok x S => f x S
  | _ => .bad
@[simp] def R.bind {a b : Type} (r : R a) (f : a → Sto → R b) : R b := match r with
  | .ok x S => f x S
  | .exn e S => .exn e S
  | .bad => .bad
/-- a value that stands in the state -/
def View (K : PySem.W.Frag) (S : Sto) (env : Env) (σ : L2.St) (tp : Env) (tv : List (Option V)) (H : Hp) (d : D) (v : V) : Prop :=
  ∃ F mu oS oE oT o, RelW K F mu oS oE oT (S.map some) env σ tp tv H ∧ Rp K F mu H d v o ∧ ∀ a ∈ o, a ∈ oS ++ (oE ++ oT)
section
variable {K : PySem.W.Frag} {S : Sto} {env : Env} {σ : L2.St} {tp : Env} {tv : List (Option V)} {H : Hp} {d : D} {v : V}
theorem View.rel (h : View K S env σ tp tv H d v) : Rel K S env σ tp tv H := by
  obtain ⟨F, mu, oS, oE, oT, o, h, _⟩ := h
  exact ⟨F, mu, oS, oE, oT, h⟩
theorem View.push (h : View K S env σ tp tv H d v) (hf : d.isF = true) : Rel K S env σ (some d :: tp) (some v :: tv) H := by
  obtain ⟨F, mu, oS, oE, oT, o, h, r, _⟩ := h
  have e := Rp.noown d v o hf r
  subst e
  exact RelO.push h r
theorem View.sc {w : V} (h : Rel K S env σ tp tv H) (e : d.sc = some w) : View K S env σ tp tv H d w := by
  obtain ⟨F, mu, oS, oE, oT, h⟩ := h
  exact ⟨F, mu, oS, oE, oT, [], h, Rp.sc e, fun a z => nomatch z⟩
theorem View.sc_inv {w : V} (h : View K S env σ tp tv H d v) (e : d.sc = some w) : v = w := by
  obtain ⟨F, mu, oS, oE, oT, o, h, r, _⟩ := h
  exact Rp.sc_inv e r
theorem View.slot {i : Nat} (h : Rel K S env σ tp tv H) (e : env[i]? = some (some d)) : ∃ v, σ[i]? = some (some v) ∧ View K S env σ tp tv H d v := by
  obtain ⟨F, mu, oS, oE, oT, h⟩ := h
  obtain ⟨v, q, e1, r, s⟩ := RpO.at_ h.2.1 e
  exact ⟨v, e1, F, mu, oS, oE, oT, q, h, r, fun a z => by simp [s a z]⟩
theorem View.top (h : Rel K S env σ (some d :: tp) (some v :: tv) H) : View K S env σ (some d :: tp) (some v :: tv) H d v := by
  obtain ⟨F, mu, oS, oE, oT, h⟩ := h
  obtain ⟨x, p1, p2, ev, eo, hc, h3⟩ := h.2.2.1.cons_inv
  injection ev with ev
  subst ev
  exact ⟨F, mu, oS, oE, oT, p1, h, hc, fun a z => by simp [eo, z]⟩
theorem View.snd {e : D} {w : V} (h : Rel K S env σ (some d :: some e :: tp) (some v :: some w :: tv) H) : View K S env σ (some d :: some e :: tp) (some v :: some w :: tv) H e w := by
  obtain ⟨F, mu, oS, oE, oT, h⟩ := h
  obtain ⟨x, p1, p2, ev, eo, hc, h3⟩ := h.2.2.1.cons_inv
  obtain ⟨x', p1', p2', ev', eo', hc', h3'⟩ := h3.cons_inv
  injection ev' with ev'
  subst ev'
  exact ⟨F, mu, oS, oE, oT, p1', h, hc', fun a z => by simp [eo, eo', z]⟩
/-- a held list of values, seen -/
theorem View.arg {ds : List D} {vs : List V} {i : Nat} (l : ds.length = vs.length) (h : Rel K S env σ (ds.map some ++ tp) (vs.map some ++ tv) H) (e : ds[i]? = some d) : ∃ w, vs[i]? = some w ∧ View K S env σ (ds.map some ++ tp) (vs.map some ++ tv) H d w := by
  obtain ⟨F, mu, oS, oE, oT, h⟩ := h
  have hi : i < ds.length := (List.getElem?_eq_some_iff.mp e).1
  obtain ⟨w, q, e1, r, s⟩ := RpO.at_ (i := i) (d := d) h.2.2.1 (by rw [List.getElem?_append_left (by simpa using hi), List.getElem?_map, e]; rfl)
  rw [List.getElem?_append_left (by simpa [← l] using hi), List.getElem?_map] at e1
  refine ⟨w, ?_, F, mu, oS, oE, oT, q, h, r, fun a z => by simp [s a z]⟩
  cases q' : vs[i]? with
  | none => rw [q'] at e1; cases e1
  | some x => rw [q'] at e1; simpa using e1
/-- what the store holds at a reference -/
theorem View.deref {n : Nat} (h : View K S env σ tp tv H (.ref n) v) (e : S[n]? = some d) : View K S env σ tp tv H d v := by
  obtain ⟨F, mu, oS, oE, oT, o, h, r, _⟩ := h
  unfold Rp at r
  obtain ⟨a, e1, e2, _⟩ := r
  obtain ⟨w, q, e3, r', s⟩ := RpO.at_ (i := n) (d := d) h.1 (by rw [List.getElem?_map, e]; rfl)
  rw [List.getElem?_map, e1] at e3
  have e4 : V.ref a = w := by simpa using e3
  refine ⟨F, mu, oS, oE, oT, q, h, by rw [e2, e4]; exact r', fun a z => by simp [s a z]⟩
/-- an item -/
theorem View.tup {ds : List D} (h : View K S env σ tp tv H (.tup ds) v) : ∃ a xs, v = .ref a ∧ SqT K H a xs ∧ ds.length = xs.length ∧ ∀ (i : Nat) (d : D), ds[i]? = some d → ∃ x, xs[i]? = some x ∧ View K S env σ tp tv H d x := by
  obtain ⟨F, mu, oS, oE, oT, o, h, r, s⟩ := h
  unfold Rp at r
  obtain ⟨a, xs, e, hs, r⟩ := r
  refine ⟨a, xs, e, .inl (.inl hs), r.len, fun i d ei => ?_⟩
  obtain ⟨x, q, e1, r1, s1⟩ := r.at_ ei
  exact ⟨x, e1, F, mu, oS, oE, oT, q, h, r1, fun a z => s a (s1 a z)⟩
theorem View.lst {b : Bool} {ds : List D} (h : View K S env σ tp tv H (.lst b ds) v) : ∃ a xs, v = .ref a ∧ SqL K H a xs ∧ (b = true → H a = some (.lst xs)) ∧ ds.length = xs.length ∧ ∀ (i : Nat) (d : D), ds[i]? = some d → ∃ x, xs[i]? = some x ∧ View K S env σ tp tv H d x := by
  obtain ⟨F, mu, oS, oE, oT, o, h, r, s⟩ := h
  unfold Rp at r
  obtain ⟨a, xs, o', e, r, q⟩ := r
  refine ⟨a, xs, e, ?_, fun hb => ?_, r.len, fun i d ei => ?_⟩
  · rcases q with ⟨_, q, _⟩ | ⟨_, q, _⟩
    · exact .inl (.inl q)
    · exact q.seq
  · rcases q with ⟨_, q, _⟩ | ⟨z, q, _⟩
    · exact q
    · rw [hb] at z; cases z
  · obtain ⟨x, q', e1, r1, s1⟩ := r.at_ ei
    refine ⟨x, e1, F, mu, oS, oE, oT, q', h, r1, fun a z => ?_⟩
    rcases q with ⟨_, _, e2⟩ | ⟨_, _, _, e3⟩
    · exact s a (by rw [e2]; exact List.mem_cons_of_mem _ (s1 a z))
    · have := s1 a z
      rw [e3] at this
      cases this
/-- all items are flat: what stands there -/
theorem View.scs {ds : List D} {xs : List V} (l : ds.length = xs.length) (h : ∀ (i : Nat) (d : D), ds[i]? = some d → ∃ x, xs[i]? = some x ∧ View K S env σ tp tv H d x) {ws : List V} (e : ds.map D.sc = ws.map some) : xs = ws := by
  apply List.ext_getElem?
  intro i
  by_cases hi : i < ds.length
  · obtain ⟨x, ex, vx⟩ := h i ds[i] (List.getElem?_eq_getElem hi)
    have e1 : (ds.map D.sc)[i]? = (ws.map some)[i]? := by rw [e]
    rw [List.getElem?_map, List.getElem?_map, List.getElem?_eq_getElem hi] at e1
    cases q : ws[i]? with
    | none => rw [q] at e1; cases e1
    | some w =>
      rw [q] at e1
      have e2 : (ds[i]).sc = some w := by simpa using e1
      rw [ex, vx.sc_inv e2]
  · have h1 : xs[i]? = none := List.getElem?_eq_none_iff.mpr (by omega)
    have h2 : ws.length = ds.length := by
      have := congrArg List.length e
      simpa using this.symm
    rw [h1, List.getElem?_eq_none_iff.mpr (by omega)]
end
def Exc.c : Exc → Str | .mk c _ _ => c
def Exc.ks : Exc → List Str | .mk _ ks _ => ks
def Exc.vs : Exc → List D | .mk _ _ vs => vs
def Wish (K : PySem.W.Frag) (e : Exc) (S : Sto) (env tp : Env) (tv : List (Option V)) : WX := fun cls d σ H => ∃ (C : Addr) (xs : List V), PySem.W.nsIn K mainGlobals e.c = some (some (.ref C)) ∧ cls = .ref C ∧ e.ks.length = e.vs.length ∧ e.vs.length = xs.length ∧
  Rel K S env σ (e.vs.map some ++ tp) (xs.map some ++ tv) H ∧ ExD H d (e.ks.zip xs)
/-- the frag, and which wishes the context takes -/
structure KT where
  K : PySem.W.Frag
  T : WX → Prop
  mono : ∀ W W' : WX, (∀ c d σ H, W' c d σ H → W c d σ H) → T W → T W'
  fls : T fun _ _ _ _ => False
instance : CoeOut KT PySem.W.Frag := ⟨KT.K⟩
@[reducible] def kt (X : Cx) : KT := ⟨X.K, Takes X, fun _ _ h t => t.imp h, LamX.takes0⟩
/-- no exception -/
@[reducible] def k0 (K : PySem.W.Frag) : KT := ⟨K, fun W => ∀ c d σ H, ¬ W c d σ H, fun _ _ h t c d σ H w => t c d σ H (h _ _ _ _ w), fun _ _ _ _ z => z⟩
theorem RelO.popO {K : PySem.W.Frag} {S : List (Option D)} {env : Env} {σ : L2.St} {tp : Env} {tv : List (Option V)} {H : Hp} : ∀ {as : Env} {xs : List (Option V)}, as.length = xs.length → RelO K S env σ (as ++ tp) (xs ++ tv) H → RelO K S env σ tp tv H
  | [], [], _, h => h
  | [], _ :: _, l, _ => by simp at l
  | _ :: _, [], l, _ => by simp at l
  | a :: as, x :: xs, l, h => by
    refine RelO.popO (as := as) (xs := xs) (by simpa using l) ?_
    obtain ⟨F, mu, oS, oE, oT, h1, h2, h3, h4⟩ := h
    obtain ⟨p1, p2, eo, _, h3'⟩ := RpO.split (as := [a]) (xs := [x]) (bs := as ++ tp) (ys := xs ++ tv) rfl h3
    subst eo
    refine ⟨F, mu, oS, oE, p2, h1, h2, h3', h4.sub ?_ ?_⟩
    · have n := h4.nd
      have : (oS ++ (oE ++ p2)).Sublist (oS ++ (oE ++ (p1 ++ p2))) := (List.Sublist.refl _).append ((List.Sublist.refl _).append (List.sublist_append_right _ _))
      exact n.sublist this
    · intro a ha
      simp only [List.mem_append] at ha ⊢
      rcases ha with z | z | z
      · exact .inl z
      · exact .inr (.inl z)
      · exact .inr (.inr (.inr z))
theorem Wish.popO {K : PySem.W.Frag} {e : Exc} {S : Sto} {env tp : Env} {tv : List (Option V)} {as : Env} {xs : List (Option V)} (l : as.length = xs.length) {cls : Value} {d : Option Addr} {σ : L2.St} {H : Hp}
    (h : Wish K e S env (as ++ tp) (xs ++ tv) cls d σ H) : Wish K e S env tp tv cls d σ H := by
  obtain ⟨C, ys, h1, h2, h3, h4, h5, h6⟩ := h
  refine ⟨C, ys, h1, h2, h3, h4, ?_, h6⟩
  have h7 := RelO.swap (as := e.vs.map some) (bs := as) (xs := ys.map some) (ys := xs) (by simp [h4]) l h5
  exact RelO.popO l h7
/-- behind an expression: the slots are the same -/
def PostX (K : KT) (env : Env) (σ : L2.St) (tp : Env) (tv : List (Option V)) (e : Exc) (S : Sto) : Prop := K.T fun cls d σ' H => σ' = σ ∧ Wish K e S env tp tv cls d σ' H
theorem PostX.popO {K : KT} {env : Env} {σ : L2.St} {tp : Env} {tv : List (Option V)} {e : Exc} {S : Sto} {as : Env} {xs : List (Option V)} (l : as.length = xs.length) (h : PostX K env σ tp tv e S) : PostX K env σ (as ++ tp) (xs ++ tv) e S :=
  K.mono _ _ (fun _ _ _ _ w => ⟨w.1, w.2.popO l⟩) h
theorem PostX.pop {K : KT} {env : Env} {σ : L2.St} {tp : Env} {tv : List (Option V)} {e : Exc} {S : Sto} {a : Option D} {x : Option V} (h : PostX K env σ tp tv e S) : PostX K env σ (a :: tp) (x :: tv) e S := PostX.popO (as := [a]) (xs := [x]) rfl h
theorem PostX.popA {K : KT} {env : Env} {σ : L2.St} {tp : Env} {tv : List (Option V)} {e : Exc} {S : Sto} {as : List D} {xs : List V} (l : as.length = xs.length) (h : PostX K env σ tp tv e S) : PostX K env σ (as.map some ++ tp) (xs.map some ++ tv) e S :=
  PostX.popO (by simpa using l) h
/-- behind statements: the slots may have changed -/
def PostXS (K : KT) (tp : Env) (tv : List (Option V)) (e : Exc) (S : Sto) : Prop := K.T fun cls d σ H => ∃ env, Wish K e S env tp tv cls d σ H
theorem PostXS.toX {K : KT} {env : Env} {σ : L2.St} {tp : Env} {tv : List (Option V)} {e : Exc} {S : Sto} (h : PostXS K tp tv e S) : PostX K env σ tp tv e S := K.mono _ _ (fun _ _ _ _ w => ⟨env, w.2⟩) h
theorem PostXS.popO {K : KT} {tp : Env} {tv : List (Option V)} {e : Exc} {S : Sto} {as : Env} {xs : List (Option V)} (l : as.length = xs.length) (h : PostXS K tp tv e S) : PostXS K (as ++ tp) (xs ++ tv) e S :=
  K.mono _ _ (fun _ _ _ _ ⟨env, w⟩ => ⟨env, w.popO l⟩) h
theorem PostXS.pop {K : KT} {tp : Env} {tv : List (Option V)} {e : Exc} {S : Sto} {a : Option D} {x : Option V} (h : PostXS K tp tv e S) : PostXS K (a :: tp) (x :: tv) e S := PostXS.popO (as := [a]) (xs := [x]) rfl h
def tB (K : PySem.W.Frag) (m : MB) : TE := fun σ H Q => ∃ (env : Env) (S : Sto) (tp : Env) (tv : List (Option V)) (d : D), Rel K S env σ tp tv H ∧ m env S = some d ∧ ∀ v, View K S env σ tp tv H d v → Q v H
/-- what is asked behind a result -/
def PostM (K : KT) (env : Env) (σ : L2.St) (tp : Env) (tv : List (Option V)) (Q : VK) : R D → Prop
  | .ok d S' => ∀ v H', Rel K S' env σ (some d :: tp) (some v :: tv) H' → Q v H'
  | .exn e S' => PostX K env σ tp tv e S'
  | .bad => False
def PostA (K : KT) (env : Env) (σ : L2.St) (tp : Env) (tv : List (Option V)) (Q : List V → Hp → Prop) : R (List D) → Prop
  | .ok ds S' => ∀ vs H', ds.length = vs.length → Rel K S' env σ (ds.map some ++ tp) (vs.map some ++ tv) H' → Q vs H'
  | .exn e S' => PostX K env σ tp tv e S'
  | .bad => False
def PostT (K : KT) (env : Env) (σ : L2.St) (tp : Env) (tv : List (Option V)) (Q : Bool → Hp → Prop) : R Bool → Prop
  | .ok b S' => ∀ H', Rel K S' env σ tp tv H' → Q b H'
  | .exn e S' => PostX K env σ tp tv e S'
  | .bad => False
def tM (K : KT) (m : ME) : TE := fun σ H Q => ∃ (env : Env) (S : Sto) (tp : Env) (tv : List (Option V)), Rel K S env σ tp tv H ∧ PostM K env σ tp tv Q (m env S)
def tMA (K : KT) (m : MA) : TA := fun σ H Q => ∃ (env : Env) (S : Sto) (tp : Env) (tv : List (Option V)), Rel K S env σ tp tv H ∧ PostA K env σ tp tv Q (m env S)
def tMT (K : KT) (m : MT) : TT := fun σ H Q => ∃ (env : Env) (S : Sto) (tp : Env) (tv : List (Option V)), Rel K S env σ tp tv H ∧ PostT K env σ tp tv Q (m env S)
/-- where no exception comes, any context serves -/
theorem PostX.low {K : KT} {env : Env} {σ : L2.St} {tp : Env} {tv : List (Option V)} {e : Exc} {S : Sto} (h : PostX (k0 K) env σ tp tv e S) : PostX K env σ tp tv e S := K.mono _ _ (fun c d σ H w => h c d σ H w) K.fls
theorem tM_low {K : KT} {m : ME} : ∀ σ H Q, tM (k0 K) m σ H Q → tM K m σ H Q := by
  rintro σ H Q ⟨env, S, tp, tv, r, q⟩
  refine ⟨env, S, tp, tv, r, ?_⟩
  cases z : m env S with
  | ok d S' => rw [z] at q; exact q
  | exn e S' => rw [z] at q; exact PostX.low (K := K) q
  | bad => rw [z] at q; exact q
theorem tMT_low {K : KT} {m : MT} : ∀ σ H Q, tMT (k0 K) m σ H Q → tMT K m σ H Q := by
  rintro σ H Q ⟨env, S, tp, tv, r, q⟩
  refine ⟨env, S, tp, tv, r, ?_⟩
  cases z : m env S with
  | ok d S' => rw [z] at q; exact q
  | exn e S' => rw [z] at q; exact PostX.low (K := K) q
  | bad => rw [z] at q; exact q
section
variable {X : Cx} {e : Expr} {es : List Expr}
theorem pe_imp {t t' : TE} (h : PE X e t) (k : ∀ σ H Q, t' σ H Q → t σ H Q) : PE X e t' := ⟨fun pins s σ H Q I hq => h.run pins s σ H Q I (k σ H Q hq)⟩
theorem pt_imp {t t' : TT} (h : PT X e t) (k : ∀ σ H Q, t' σ H Q → t σ H Q) : PT X e t' := ⟨fun pins s σ H Q I hq => h.run pins s σ H Q I (k σ H Q hq)⟩
theorem pa_imp {t t' : TA} (h : PA X es t) (k : ∀ σ H Q, t' σ H Q → t σ H Q) : PA X es t' := ⟨fun pos pins s σ H Q I hq => h.run pos pins s σ H Q I (k σ H Q hq)⟩
abbrev SB (X : Cx) (e : Expr) (m : MB) : Prop := PE X e (tB X.K m)
abbrev SE (X : Cx) (e : Expr) (m : ME) : Prop := PE X e (tM (kt X) m)
abbrev SA (X : Cx) (es : List Expr) (m : MA) : Prop := PA X es (tMA (kt X) m)
abbrev ST (X : Cx) (e : Expr) (m : MT) : Prop := PT X e (tMT (kt X) m)
variable {pos : Pos}
theorem se_low {m : ME} (h : SE X e m) : PE X e (tM (k0 X.K) m) := pe_imp h fun σ H Q q => tM_low (K := kt X) σ H Q q
def bVar (i : Nat) : MB := fun env _ => (env[i]?).join
def bC (d : D) : MB := fun _ _ => some d
theorem sb_var (i : Nat) {x : Str} (hN : X.N[i]? = some x := by rfl) (hv : Vis X.env.scope x := by first | exact Or.inl rfl | exact Or.inr (Or.inl rfl) | exact Or.inr (Or.inr rfl))
    (hd : (x == ("__debug__" : Str)) = false := by decide) (hcd : (x == ("__classdict__" : Str)) = false := by decide) : SB X (.Name x pos) (bVar i) := by
  refine pe_imp (pe_var hN hv hd hcd) ?_
  rintro σ H Q ⟨env, S, tp, tv, d, h, e, q⟩
  have e' : env[i]? = some (some d) := by
    unfold bVar at e
    cases z : env[i]? with
    | none => rw [z] at e; cases e
    | some y => rw [z] at e; rw [show y = some d from e]
  obtain ⟨v, e1, w⟩ := View.slot h e'
  exact ⟨v, e1, q v w⟩
theorem sb_c {d : D} {v : V} (h : PE X e (tC v)) (hs : d.sc = some v) : SB X e (bC d) := by
  refine pe_imp h ?_
  rintro σ H Q ⟨env, S, tp, tv, d', r, e, q⟩
  cases e
  exact q v (View.sc r hs)
theorem sb_int {i : Int} {j} : SB X (.Constant (.int i) j pos) (bC (.int i)) := sb_c pe_int rfl
theorem sb_bl {b : Bool} {j} : SB X (.Constant (.bool b) j pos) (bC (.bl b)) := sb_c pe_bl rfl
/-- as a value: it must stand still -/
def eB (m : MB) : ME := fun env S => match m env S with
  | some d => if d.isF = true then .ok d S else .bad
  | none => .bad
theorem se_b {m : MB} (h : SB X e m) : SE X e (eB m) := by
  refine pe_imp h ?_
  rintro σ H Q ⟨env, S, tp, tv, r, q⟩
  unfold eB at q
  cases z : m env S with
  | none => rw [z] at q; exact q.elim
  | some d =>
    rw [z] at q
    refine ⟨env, S, tp, tv, d, r, z, fun v w => ?_⟩
    by_cases hf : d.isF = true
    · simp only [hf, if_true] at q
      exact q v H (w.push hf)
    · simp only [hf] at q
      exact q.elim
theorem RelO.pop2 {K : PySem.W.Frag} {S : List (Option D)} {env : Env} {σ : L2.St} {tp : Env} {tv : List (Option V)} {H : Hp} {d e : D} {v w : V} (h : RelO K S env σ (some d :: some e :: tp) (some v :: some w :: tv) H) : RelO K S env σ (some d :: tp) (some v :: tv) H :=
  (RelO.swap (as := [some d]) (bs := [some e]) (xs := [some v]) (ys := [some w]) rfl rfl h).pop
/-- an operator that makes nothing: its answer stands in the state -/
def Op2 (K : PySem.W.Frag) (r : R2) (f : Sto → D → D → Option D) : Prop := ∀ (S : Sto) (env : Env) (σ : L2.St) (tp : Env) (tv : List (Option V)) (H : Hp) (a b c : D) (x y : V) (Q : VK),
  View K S env σ tp tv H a x → View K S env σ tp tv H b y → f S a b = some c → (∀ u, View K S env σ tp tv H c u → Q u H) → r x y H Q
def bOp (f : Sto → D → D → Option D) (ma mb : MB) : MB := fun env S => match ma env S, mb env S with
  | some a, some b => f S a b
  | _, _ => none
def eOp (f : Sto → D → D → Option D) (ma mb : ME) : ME := fun env S => (ma env S).bind fun a S1 => (mb env S1).bind fun b S2 => match f S2 a b with
  | some c => if c.isF = true then .ok c S2 else .bad
  | none => .bad
theorem tB_op {K : PySem.W.Frag} {r : R2} {f : Sto → D → D → Option D} {ma mb : MB} (ho : Op2 K r f) : ∀ σ H Q, tB K (bOp f ma mb) σ H Q → tOp r (tB K ma) (tB K mb) σ H Q := by
  rintro σ H Q ⟨env, S, tp, tv, c, h, e, q⟩
  unfold bOp at e
  cases z1 : ma env S with
  | none => rw [z1] at e; cases e
  | some a =>
    cases z2 : mb env S with
    | none => rw [z1, z2] at e; cases e
    | some b =>
      rw [z1, z2] at e
      have e' : f S a b = some c := e
      refine ⟨env, S, tp, tv, a, h, z1, fun x wx => ?_⟩
      refine ⟨env, S, tp, tv, b, h, z2, fun y wy => ?_⟩
      exact ho S env σ tp tv H a b c x y Q wx wy e' q
theorem tM_op {K : KT} {r : R2} {f : Sto → D → D → Option D} {ma mb : ME} (ho : Op2 K r f) : ∀ σ H Q, tM K (eOp f ma mb) σ H Q → tOp r (tM K ma) (tM K mb) σ H Q := by
  rintro σ H Q ⟨env, S, tp, tv, h, q⟩
  refine ⟨env, S, tp, tv, h, ?_⟩
  unfold eOp at q
  cases z1 : ma env S with
  | bad => rw [z1] at q; exact q.elim
  | exn _ _ => rw [z1] at q; first | exact q | exact PostX.pop q | exact PostX.pop (PostX.pop q) | exact PostX.popA (by assumption) q | exact PostXS.toX q | exact PostX.pop (PostXS.toX q) | exact PostX.popA (by assumption) (PostXS.toX q) | exact PostXS.pop q | exact False.elim q
  | ok a S1 =>
    rw [z1] at q
    intro x H1 r1
    refine ⟨env, S1, some a :: tp, some x :: tv, r1, ?_⟩
    have q : PostM K env σ tp tv Q ((mb env S1).bind fun b S2 => match f S2 a b with
      | some c => if c.isF = true then .ok c S2 else .bad
      | none => .bad) := q
    cases z2 : mb env S1 with
    | bad => rw [z2] at q; exact q.elim
    | exn _ _ => rw [z2] at q; first | exact q | exact PostX.pop q | exact PostX.pop (PostX.pop q) | exact PostX.popA (by assumption) q | exact PostXS.toX q | exact PostX.pop (PostXS.toX q) | exact PostX.popA (by assumption) (PostXS.toX q) | exact PostXS.pop q | exact False.elim q
    | ok b S2 =>
      rw [z2] at q
      have q : PostM K env σ tp tv Q (match f S2 a b with
        | some c => if c.isF = true then .ok c S2 else .bad
        | none => .bad) := q
      intro y H2 r2
      cases z3 : f S2 a b with
      | none => rw [z3] at q; exact q.elim
      | some c =>
        rw [z3] at q
        have q : PostM K env σ tp tv Q (if c.isF = true then .ok c S2 else .bad) := q
        by_cases hf : c.isF = true
        · rw [if_pos hf] at q
          exact ho S2 env σ _ _ H2 a b c x y Q (View.snd r2) (View.top r2) z3 fun u hu => q u H2 (RelO.pop2 (RelO.pop2 (hu.push hf)))
        · rw [if_neg hf] at q
          exact q.elim
variable {a b : Expr} {f : Sto → D → D → Option D} {r : R2} {op : Operator} {cop : CmpOp}
theorem sb_bin {ma mb : MB} (hr : OpR X (binaryOp op) r) (ho : Op2 X.K r f) (ha : SB X a ma) (hb : SB X b mb) : SB X (.BinOp a op b pos) (bOp f ma mb) := pe_imp (pe_op hr ha hb) (tB_op ho)
theorem se_bin {ma mb : ME} (hr : OpR X (binaryOp op) r) (ho : Op2 X.K r f) (ha : SE X a ma) (hb : SE X b mb) : SE X (.BinOp a op b pos) (eOp f ma mb) := pe_imp (pe_op hr ha hb) (tM_op ho)
theorem sb_cmp {ma mb : MB} (hr : OpR X (compareOp cop) r) (ho : Op2 X.K r f) (ha : SB X a ma) (hb : SB X b mb) (hm : behindInMarks cop b = false) : SB X (.Compare a [cop] [b] pos) (bOp f ma mb) := pe_imp (pe_cmpR hr ha hb hm) (tB_op ho)
theorem se_cmp {ma mb : ME} (hr : OpR X (compareOp cop) r) (ho : Op2 X.K r f) (ha : SE X a ma) (hb : SE X b mb) (hm : behindInMarks cop b = false) : SE X (.Compare a [cop] [b] pos) (eOp f ma mb) := pe_imp (pe_cmpR hr ha hb hm) (tM_op ho)
end
def fI (p : Int → Int → Bool) (g : Int → Int → Int) : Sto → D → D → Option D := fun _ a b => match a, b with
  | .int i, .int j => if p i j = true then some (.int (g i j)) else none
  | _, _ => none
def fC (g : Int → Int → Bool) : Sto → D → D → Option D := fun _ a b => match a, b with
  | .int i, .int j => some (.bl (g i j))
  | _, _ => none
theorem op2_I {K : PySem.W.Frag} {p : Int → Int → Bool} {g : Int → Int → Int} {C : Int → Int → Prop} (hp : ∀ i j, p i j = true → C i j) : Op2 K (rI C fun i j => .int (g i j)) (fI p g) := by
  intro S env σ tp tv H a b c x y Q wx wy e q
  unfold fI at e
  split at e
  · split at e
    · rename_i i j hh
      cases e
      exact ⟨i, j, wx.sc_inv rfl, wy.sc_inv rfl, hp i j hh, q _ (View.sc wx.rel rfl)⟩
    · cases e
  · cases e
theorem op2_I0 {K : PySem.W.Frag} {g : Int → Int → Int} : Op2 K (rI0 fun i j => .int (g i j)) (fI (fun _ _ => true) g) := by
  intro S env σ tp tv H a b c x y Q wx wy e q
  unfold fI at e
  split at e
  · split at e
    · cases e
      exact ⟨_, _, wx.sc_inv rfl, wy.sc_inv rfl, q _ (View.sc wx.rel rfl)⟩
    · cases e
  · cases e
theorem op2_C {K : PySem.W.Frag} {g : Int → Int → Bool} : Op2 K (rI0 fun i j => .bl (g i j)) (fC g) := by
  intro S env σ tp tv H a b c x y Q wx wy e q
  unfold fC at e
  split at e
  · cases e
    exact ⟨_, _, wx.sc_inv rfl, wy.sc_inv rfl, q _ (View.sc wx.rel rfl)⟩
  · cases e
def big (i : Int) : Bool := decide (-(2 ^ 64) < i ∧ i < 2 ^ 64)
theorem cmul_of {i j : Int} (h : (big i || big j) = true) : CMul i j := by
  unfold big at h
  rcases Bool.or_eq_true_iff.mp h with h | h
  · exact .inl (of_decide_eq_true h)
  · exact .inr (of_decide_eq_true h)
end N1
end
section
namespace N1
open PySem PySem.Spec PyProof.Rows L2
structure FnG (P : Program) (w : World) (K : PySem.W.Frag) (mg : Str → Option Value) (base : Heap) (CX : CXT) (k : Nat) (f : Addr) (fd : FuncData) (ps : List Str) (sp : Sp) : Prop where
  len : ∀ vs H Q E, sp vs H Q E → vs.length = ps.length
  run : ∀ (A : Around) (outer : List PySem.Env) (s : Shared) (H : Hp) (args : Args) (us : List Value) (vs : List V) (Q : VK) (E : XK), Room k A → A.guards = some [] → Env0 P w K mg base A outer s H → BindsTo s fd args (ps.zip us) → Vals vs us → sp vs H Q E →
    codeAny (model P w) A (.call (.ref f) args) (CR CX outer P w H s Q E) s
theorem FnG.mono {P : Program} {w : World} {K : PySem.W.Frag} {mg : Str → Option Value} {base : Heap} {CX : CXT} {j k : Nat} {f : Addr} {fd : FuncData} {ps : List Str} {sp : Sp} (F : FnG P w K mg base CX j f fd ps sp) (h : j ≤ k) :
    FnG P w K mg base CX k f fd ps sp := ⟨F.len, fun A outer s H args us vs Q E hr hg => F.run A outer s H args us vs Q E (hr.mono h) hg⟩
/-- a call: what it lets out, the context takes -/
def tCallX (T : WX → Prop) (sp : Sp) (dvs : List V) (t : TA) : TE := fun σ H Q => t σ H fun vs H1 => ∃ W : WX, T W ∧ sp (vs ++ dvs) H1 Q fun cls d H' => W cls d σ H'
section
variable {X : Cx} {k : Nat} {f C : Addr} {fd : FuncData} {ps ks : List Str} {sp : Sp} {dvs : List V} {ds : List Value} {E : XK} {x m : Str} {p pos apos : Pos} {e o : Expr} {es : List Expr} {kws : List Keyword} {ta : TE} {t tk : TA}
  {g : List Value → List Value → List Value} {gV : List V → List V → List V}
theorem run_fnG {pins : List (Addr × Obj)} {σ : L2.St} {H : Hp} {s : Shared} {Q : VK} {us : List Value} {vs : List V} (F : FnG X.prog X.w X.K X.mg X.base (L2.CX X.prog X.w) k f fd ps sp) (hr : Room k X.A) (hG : X.A.guards = some []) (hb : Binds X.K fd ps ds) (hd : Vals dvs ds) (hx : PassesAt (L2.CX X.prog X.w) X σ E)
    (I : L2.Inv X pins σ H s) (r : Vals vs us) (h : sp (vs ++ dvs) H Q E) : wpAny (model X.prog X.w) X.A (call (.ref f) us) (EP X pins σ Q) X.xe s := by
  have r2 : Vals (vs ++ dvs) (us ++ ds) := r.append hd
  have hl : (us ++ ds).length = ps.length := by rw [← r2.length]; exact F.len _ _ _ _ h
  refine wpAny_call (codeAny_mono (F.run X.A X.stack s H ⟨us, []⟩ (us ++ ds) (vs ++ dvs) Q E hr hG I.env0 (hb s us I.kIn hl) r2 h) fun r s' hq => ?_)
  cases r with
  | error e => exact hx pins H s e s' I hq
  | ok fl =>
    cases fl with
    | ret u => exact I.after hq
    | next => exact False.elim hq
    | brk => exact False.elim hq
    | cont => exact False.elim hq
theorem pe_callG (F : FnG X.prog X.w X.K X.mg X.base (L2.CX X.prog X.w) k f fd ps sp) (hr : Room k X.A) (hG : X.A.guards = some []) (hg : Gl X x) (hm : X.mg x = some (.ref f)) (hk : PySem.W.keepIn X.K (.ref f) = true) (hb : Binds X.K fd ps ds) (hd : Vals dvs ds)
    (ha : PA X (e :: es) t) (hdb : (x == ("__debug__" : Str)) = false := by decide) (he : starEach (e :: es) X.env = (false, eval e X.env) :: starEach es X.env := by rfl) (hpl : (backTo pos (starEach es X.env)).any (·.1) = false := by rfl) :
    PE X (.Call (.Name x p) (e :: es) [] pos) (tCallX (Takes X) sp dvs t) := by
  refine ⟨fun pins s σ H Q I h => ?_⟩
  refine wpAny_Call_Name_kw (ld_glob I hg hm ?_ hdb)
  refine PySem.W.callWith_K (h₀ := X.base) I.ok.mod.kin hk (thn (ha.run pos pins s σ H _ I h) fun us s1 ⟨vs, H1, I1, r, W, tk, q⟩ => ⟨I1.kIn, ?_⟩) he hpl
  exact run_fnG F hr hG hb hd (passAt tk σ) I1 r q
end
/-- a def of the text, by its body -/
theorem fnG_of {CX : CXT} {P : Program} {w : World} {K : PySem.W.Frag} {mg : Str → Option Value} {base : Heap} {k : Nat} {f : Addr} {name qual : Str} {params : Arguments} {body : List Stmt} {scope : Scope} {dV kV doc pm cdv ct oc : Value} {an od : Option Addr}
    {osl : Array (Option Value)} {N ps : List Str} {sp : Sp} (lk : K.lookup f = some ⟨oc, od, .func (PySem.W.fnOf name qual params body scope dV kV doc pm an cdv ct), osl⟩) (hcd : PySem.W.codeIn K cdv qual = true) (S : FnScope N ps scope)
    (len : ∀ vs H Q E, sp vs H Q E → vs.length = ps.length)
    (hbody : ∀ (A : Around) (outer : List PySem.Env) (s : Shared) (H : Hp) (vs : List V) (Q : VK) (E : XK), Room k (A.deeper (envOfC qual scope s.heap.objs.size f cdv)) → A.guards = some [] → sp vs H Q E →
      ∃ t, PSs (cxOf CX P w K mg base N qual scope f cdv A outer s H E) body t ∧ t { nx := fun _ H' => Q .non H', rt := Q } (L2.start N vs) H) :
    FnG P w K mg base CX (k + 1) f (PySem.W.fnOf name qual params body scope dV kV doc pm an cdv ct) ps sp := by
  refine ⟨len, fun A outer s H args us vs Q E hr hG e0 hb r hsp => ?_⟩
  have hl := len _ _ _ _ hsp
  have KX : K.In s.heap := e0.mod.kin.keeps fun b o e => (e0.bs b o e).1
  have lim : s.heap.NoLimit := e0.mod.nolimit.keeps fun b o e => (e0.bs b o e).1
  have hkind : ∀ y ∈ ps.zip us, scope.names.lookup y.1 = some .local ∨ (scope.names.lookup y.1 = some .cell ∧ ((cellsFrom (s.heap.objs.size + 1) scope.names []).lookup y.1).isSome = true) := fun ⟨n, v⟩ hy => by
    rcases S.par n (List.of_mem_zip hy).1 with q | q
    · exact .inl q
    · exact .inr ⟨q, PySem.W.cellsFrom_some _ _ _ (.inl q)⟩
  refine codeAny_call_function hr.depth (KX _ _ lk) rfl S.co S.gen rfl (PySem.W.codeRec_of KX hcd) (hb _ _ _ _ ?_)
  refine wpAny_newFunctionEnv_cells S.kind hkind fun env he s1 x => ?_
  subst he
  refine ⟨lim.keeps x.toInCall.keep, codeAny_func ?_⟩
  obtain ⟨t, ht, hq⟩ := hbody A outer s H vs Q E (hr.deeper _) hG hsp
  have I : L2.Inv (cxOf CX P w K mg base N qual scope f cdv A outer s H E) [] (L2.start N vs) H s1 := inv_start S hr.hd e0 hl r x
  refine wpAny_mono (ht.run [] s1 (L2.start N vs) H _ I hq) (fun fl s' hs => ?_) fun e s' hs => hs
  have fin : ∀ {σ' : L2.St} {H' : Hp} {v : V} {u : Value}, L2.Inv (cxOf CX P w K mg base N qual scope f cdv A outer s H E) [] σ' H' s' → L2.RelV v u → Q v H' → CE outer P w H s Q u s' :=
    fun {σ' H' v u} J rv q => ⟨v, H', J.os, J.bare, J.base, J.hok, rv, q⟩
  cases fl with
  | ret u =>
    obtain ⟨v, σ', H', J, rv, q⟩ := hs
    exact fin J rv q
  | next =>
    obtain ⟨σ', H', J, q⟩ := hs
    exact fin (v := V.non) (u := Value.none) J rfl q
  | brk =>
    obtain ⟨_, _, _, q⟩ := hs
    exact False.elim q
  | cont =>
    obtain ⟨_, _, _, q⟩ := hs
    exact False.elim q
theorem Fun.okGc {P : Program} {w : World} {K : PySem.W.Frag} {mg : Str → Option Value} {base : Heap} {x qual : Str} {st : Stmt} {f : Addr} {fd : FuncData} {N ps : List Str} {k : Nat} {sp : Sp} (F : Fun K x qual st f fd) (S : FnScope N ps (defScope st)) (len : ∀ vs H Q E, sp vs H Q E → vs.length = ps.length)
    (hbody : ∀ (cdv : Value) (A : Around) (outer : List PySem.Env) (s : Shared) (H : Hp) (vs : List V) (Q : VK) (E : XK), fd.code = cdv → Room k (A.deeper (envOfC qual (defScope st) s.heap.objs.size f cdv)) → A.guards = some [] → sp vs H Q E →
      ∃ t, PSs (cxOf (L2.CX P w) P w K mg base N qual (defScope st) f cdv A outer s H E) (defBody st) t ∧ t { nx := fun _ H' => Q .non H', rt := Q } (L2.start N vs) H) : FnG P w K mg base (L2.CX P w) (k + 1) f fd ps sp := by
  obtain ⟨oc, od, kV, doc, pm, an, cdv, ct, osl, rfl, lk, hcd⟩ := F.ex
  refine fnG_of lk hcd S len fun A outer s H vs Q E hr hG hsp => ?_
  obtain ⟨t, h, q⟩ := hbody cdv A outer s H vs Q E rfl hr hG hsp
  exact ⟨t, h, q⟩
section
variable {P : Program} {w : World} {K : PySem.W.Frag} {mg mb : Str → Option Value} {k : Nat} {fa a : Addr} {fd : FuncData} {x : Str} {sp : Sp} {s1 : Shared} {vs : List Value} {ns : List Int}
/-- the call of the law, from an abstract heap in which at most the script is tracked -/
theorem law_coreG {H : Hp} (KX : K.In s1.heap) (hns : s1.heap.Ns mainGlobals mg) (hb : s1.heap.Ns builtinsNs mb) (hbb : ∀ x : Str, x ≠ "__name__" → mb x = bootBuiltins x) (hlim : s1.heap.NoLimit) (hg : s1.gens = #[])
    (ha : s1.heap.get? a = some { cls := .type "list", data := .seq vs.toArray }) (hr : Room k callerA)
    (F : ∀ base : Heap, K.In base → base.Ns mainGlobals mg → FnG P w K mg base (L2.CX P w) k fa fd [x] sp) (hbind : ∀ (s : Shared) (u : Value), BindsTo s fd ⟨[u], []⟩ [(x, u)])
    (hO : Only H) (hok : HOk P w H s1.heap) (hA : ∀ b, H b ≠ none → b = a) (hK : H a ≠ none → K.lookup a = none) (hsp : sp [.ref a] H (fun v _ => v = .bl true) fun _ _ _ => False) :
    codeAny (model P w) callerA (.call (.ref fa) ⟨[.ref a], []⟩) (fun r s' => r = .ok (.ret (.bool true)) ∧ OldK s1.heap s'.heap ∧ s'.os = s1.os ∧ AllBare s'.gens) s1 := by
  have free : ∀ {b : Addr} {o : Obj}, s1.heap.get? b = some o → (∀ z, o.data ≠ .seq vs.toArray z) → H b = none := fun {b o} e d => by
    cases q : H b with
    | none => rfl
    | some u =>
      have hba := hA b (by rw [q]; exact fun z => nomatch z)
      rw [hba, ha] at e
      cases e
      exact absurd rfl (d _)
  have nsH : ∀ {b : Addr} {m : Str → Option Value}, s1.heap.Ns b m → (hidT s1.heap H).Ns b m := fun {b m} h => by
    obtain ⟨o, es, ep, e, d, rest⟩ := h
    exact ⟨o, es, ep, hidT_get e (free e fun z q => by rw [d] at q; cases q), d, rest⟩
  have kH : K.In (hidT s1.heap H) := fun b o e => hidT_get (KX b o e) (by
    cases q : H b with
    | none => rfl
    | some u =>
      have hba := hA b (by rw [q]; exact fun z => nomatch z)
      subst hba
      have := hK (by rw [q]; exact fun z => nomatch z)
      rw [this] at e
      cases e)
  have hM : Mod K mg (hidT s1.heap H) := ⟨kH, nsH hns, ⟨mb, nsH hb, hbb⟩, by obtain ⟨mc, h1, h2⟩ := hlim; exact ⟨mc, nsH h1, h2⟩⟩
  have e0 : Env0 P w K mg (hidT s1.heap H) callerA [] s1 H := ⟨rfl, hM, fun b o e => of_hidT e, Nat.le_of_eq (hidT_size _ _), trivial, fun b z => (List.not_mem_nil z).elim, hok, .of_eq hg⟩
  have run := (F _ kH (nsH hns)).run callerA [] s1 H ⟨[.ref a], []⟩ [.ref a] [.ref a] _ _ hr rfl e0 (hbind s1 (.ref a)) (.cons rfl .nil) hsp
  refine codeAny_mono run fun r s' h => ?_
  match r, h with
  | .error e, h => exact False.elim (by obtain ⟨_, _, _, _, _, _, _, _, _, _, _, _, z⟩ := h; exact z)
  | .ok .next, h => exact h.elim
  | .ok .brk, h => exact h.elim
  | .ok .cont, h => exact h.elim
  | .ok (.ret u), h =>
    obtain ⟨v, H', os, bare, un, hok', rv, q⟩ := h
    have q' : v = .bl true := q
    subst q'
    have eu : u = Value.bool true := rv
    subst eu
    refine ⟨rfl, OldK.of_keep fun b o e => ?_, os, bare⟩
    rcases hO b with z | ⟨ob, xs, z⟩
    · exact un.keep b o e z (fun z => (List.not_mem_nil z).elim) (fun z => (List.not_mem_nil z).elim)
    · have h1 := (hok b _ z).1
      have h2 := (hok' b _ (un.frzs b ob _ z)).1
      rw [e] at h1
      cases h1
      exact h2
theorem law_callG (KX : K.In s1.heap) (hns : s1.heap.Ns mainGlobals mg) (hb : s1.heap.Ns builtinsNs mb) (hbb : ∀ x : Str, x ≠ "__name__" → mb x = bootBuiltins x) (hlim : s1.heap.NoLimit) (hg : s1.gens = #[])
    (ha : s1.heap.get? a = some { cls := .type "list", data := .seq vs.toArray }) (hi : IntsAre vs ns) (hl : ns.length ≤ sizeLine) (hr : Room k callerA)
    (F : ∀ base : Heap, K.In base → base.Ns mainGlobals mg → FnG P w K mg base (L2.CX P w) k fa fd [x] sp) (hbind : ∀ (s : Shared) (u : Value), BindsTo s fd ⟨[u], []⟩ [(x, u)])
    (hsp : ∀ H : Hp, Only H → SqL K H a (ns.map V.int) → sp [.ref a] H (fun v _ => v = .bl true) fun _ _ _ => False) :
    codeAny (model P w) callerA (.call (.ref fa) ⟨[.ref a], []⟩) (fun r s' => r = .ok (.ret (.bool true)) ∧ OldK s1.heap s'.heap ∧ s'.os = s1.os ∧ AllBare s'.gens) s1 := by
  have rv := vals_ints hi
  have lv : vs.length = ns.length := by have := rv.length; simpa using this.symm
  cases hk : K.lookup a with
  | some o =>
    have e := KX a o hk
    rw [ha] at e
    cases e
    have hS : SqL K (fun _ => none) a (ns.map V.int) := .inr ⟨_, vs.toArray, _, hk, rfl, rfl, rfl, by simpa [lv] using hl, by simpa using rv⟩
    exact law_coreG KX hns hb hbb hlim hg ha hr F hbind (fun _ => .inl rfl) (fun b u z => nomatch z) (fun b z => absurd rfl z) (fun z => absurd rfl z) (hsp _ (fun _ => .inl rfl) hS)
  | none =>
    let H0 : Hp := upd (fun _ => none) a (.frz { cls := .type "list", data := .seq vs.toArray } (.lst (ns.map V.int)))
    have h0 : H0 a = some (.frz { cls := .type "list", data := .seq vs.toArray } (.lst (ns.map V.int))) := upd_same
    have h1 : ∀ b, b ≠ a → H0 b = none := fun b hb => upd_ne hb
    have hO : Only H0 := fun b => by
      by_cases e : b = a
      · subst e; exact .inr ⟨_, _, h0⟩
      · exact .inl (h1 b e)
    have hok : HOk P w H0 s1.heap := fun b u z => by
      by_cases e : b = a
      · subst e
        rw [h0] at z
        cases z
        exact ⟨ha, by rw [List.length_map]; exact hl, vs, _, rv, ha⟩
      · rw [h1 b e] at z; cases z
    exact law_coreG KX hns hb hbb hlim hg ha hr F hbind hO hok (fun b z => by
      by_cases e : b = a
      · exact e
      · exact absurd (h1 b e) z) (fun _ => hk) (hsp H0 hO (.inl (.inr ⟨_, h0⟩)))
end
end N1
end
section
namespace N1
open PySem PySem.Spec PyProof.Rows L2
section
variable {K : PySem.W.Frag} {S : List (Option D)} {env : Env} {σ : L2.St} {tp : Env} {tv : List (Option V)} {H : Hp} {d : D} {v : V}
theorem all_map {xs vs : List V} (e : xs.map some = vs.map some) : xs = vs := by
  have := congrArg (List.filterMap id) e
  simpa [List.filterMap_map] using this
/-- a new tuple of what is held last -/
theorem RelO.mkTup {ds : List D} {vs : List V} {p : Addr} (l : ds.length = vs.length) (h : RelO K S env σ (ds.map some ++ tp) (vs.map some ++ tv) H) (hp : H p = none) :
    RelO K S env σ (some (.tup ds) :: tp) (some (.ref p) :: tv) (upd H p (.tup vs)) := by
  obtain ⟨F, mu, oS, oE, oT, h1, h2, h3, h4⟩ := h
  obtain ⟨p1, p2, eo, ha, h3'⟩ := RpO.split (by simpa using l) h3
  subst eo
  obtain ⟨xs, e, ha⟩ := RpO.all ha
  have e' := all_map e
  subst e'
  have m : Mv F F mu mu H (upd H p (.tup vs)) (fun a => a = p) := mv_new h4 hp
  have np : ∀ a ∈ oS ++ (oE ++ (p1 ++ p2)), ¬ a = p := fun a ha e => by
    obtain ⟨⟨u, e1, _⟩, _⟩ := h4.ow a ha
    rw [e, hp] at e1; cases e1
  refine ⟨F, mu, oS, oE, p1 ++ p2, h1.mv m _ _ _ (fun a z => np a (by simp [z])), h2.mv m _ _ _ (fun a z => np a (by simp [z])), RpO.cons_mk ?_ (h3'.mv m _ _ _ (fun a z => np a (by simp [z]))), h4.new hp⟩
  unfold Rp
  exact ⟨p, vs, rfl, upd_same, ha.mv m _ _ _ (fun a z => np a (by simp [z]))⟩
/-- a new list of what is held last -/
theorem RelO.mkLst {ds : List D} {vs : List V} {p : Addr} (l : ds.length = vs.length) (h : RelO K S env σ (ds.map some ++ tp) (vs.map some ++ tv) H) (hp : H p = none) :
    RelO K S env σ (some (.lst true ds) :: tp) (some (.ref p) :: tv) (upd H p (.lst vs)) := by
  obtain ⟨F, mu, oS, oE, oT, h1, h2, h3, h4⟩ := h
  obtain ⟨p1, p2, eo, ha, h3'⟩ := RpO.split (by simpa using l) h3
  subst eo
  obtain ⟨xs, e, ha⟩ := RpO.all ha
  have e' := all_map e
  subst e'
  have m : Mv F F mu mu H (upd H p (.lst vs)) (fun a => a = p) := mv_new h4 hp
  have np : ∀ a ∈ oS ++ (oE ++ (p1 ++ p2)), ¬ a = p := fun a ha e => by
    obtain ⟨⟨u, e1, _⟩, _⟩ := h4.ow a ha
    rw [e, hp] at e1; cases e1
  refine ⟨F, mu, oS, oE, (p :: p1) ++ p2, h1.mv m _ _ _ (fun a z => np a (by simp [z])), h2.mv m _ _ _ (fun a z => np a (by simp [z])), RpO.cons_mk ?_ (h3'.mv m _ _ _ (fun a z => np a (by simp [z]))), (h4.add (u := .lst vs) hp trivial).perm ?_⟩
  · unfold Rp
    exact ⟨p, vs, p1, rfl, ha.mv m _ _ _ (fun a z => np a (by simp [z])), .inl ⟨rfl, upd_same, rfl⟩⟩
  · exact (perm3 oE [p] oS (p1 ++ p2))
/-- the store takes a list that is owned: it is one of its objects from now on -/
theorem RelO.cell {ds : List D} (h : RelO K S env σ (some (.lst true ds) :: tp) (some v :: tv) H) : RelO K (S ++ [some (.lst true ds)]) env σ (some (.ref S.length) :: tp) (some v :: tv) H := by
  obtain ⟨F, mu, oS, oE, oT, h1, h2, h3, h4⟩ := h
  obtain ⟨x, p1, p2, ev, eo, hc, h3'⟩ := h3.cons_inv
  injection ev with ev
  subst ev; subst eo
  have hl : S.length = mu.length := by
    have := h1.len
    simpa using this
  obtain ⟨a, xs, o', e1, _⟩ := (show ∃ a xs o', v = V.ref a ∧ _ from by unfold Rp at hc; exact hc)
  subst e1
  have m : Mv F F mu (mu ++ [a]) H H (fun _ => False) := mv_mu fun n b e => by
    rw [List.getElem?_append_left (List.getElem?_eq_some_iff.mp e).1]
    exact e
  refine ⟨F, mu ++ [a], oS ++ p1, oE, p2, ?_, h2.mv m _ _ _ (fun _ _ z => z), RpO.cons_mk (o1 := []) ?_ (h3'.mv m _ _ _ (fun _ _ z => z)), h4.perm ?_⟩
  · rw [List.map_append]
    exact RpO.app (h1.mv m _ _ _ (fun _ _ z => z)) (by
      have := RpO.cons_mk (tp := []) (tv := []) (hc.mv m _ _ _ (fun _ _ z => z)) RpO.nil_mk
      simpa using this)
  · unfold Rp
    exact ⟨a, by rw [hl]; simp, rfl, rfl⟩
  · rw [List.append_assoc]
    exact ((perm2 oE p1 p2).append_left oS).symm
end
def aNil : MA := fun _ S => .ok [] S
def aCons (m : ME) (ma : MA) : MA := fun env S => (m env S).bind fun d S1 => (ma env S1).bind fun ds S2 => .ok (d :: ds) S2
def eTup (ma : MA) : ME := fun env S => (ma env S).bind fun ds S1 => if ds.length ≤ 16777216 then .ok (.tup ds) S1 else .bad
def eLst (ma : MA) : ME := fun env S => (ma env S).bind fun ds S1 => if ds.length ≤ 16777216 then .ok (.lst true ds) S1 else .bad
def eFrz (m : ME) : ME := fun env S => (m env S).bind fun d S1 => .ok d.frz S1
def eCell (m : ME) : ME := fun env S => (m env S).bind fun d S1 => match d with
  | .lst true ds => .ok (.ref S1.length) (S1 ++ [.lst true ds])
  | _ => .bad
section
variable {X : Cx} {e : Expr} {es : List Expr} {pos : Pos}
theorem sa_nil : SA X [] aNil := by
  refine pa_imp pa_nil ?_
  rintro σ H Q ⟨env, S, tp, tv, h, q⟩
  exact q [] H rfl h
theorem tMA_cons {K : KT} {m : ME} {ma : MA} : ∀ σ H Q, tMA K (aCons m ma) σ H Q → tCons (tM K m) (tMA K ma) σ H Q := by
  rintro σ H Q ⟨env, S, tp, tv, h, q⟩
  refine ⟨env, S, tp, tv, h, ?_⟩
  unfold aCons at q
  cases z1 : m env S with
  | bad => rw [z1] at q; exact q.elim
  | exn _ _ => rw [z1] at q; first | exact q | exact PostX.pop q | exact PostX.pop (PostX.pop q) | exact PostX.popA (by assumption) q | exact PostXS.toX q | exact PostX.pop (PostXS.toX q) | exact PostX.popA (by assumption) (PostXS.toX q) | exact PostXS.pop q | exact False.elim q
  | ok d S1 =>
    rw [z1] at q
    intro v H1 r1
    refine ⟨env, S1, some d :: tp, some v :: tv, r1, ?_⟩
    have q : PostA K env σ tp tv Q ((ma env S1).bind fun ds S2 => .ok (d :: ds) S2) := q
    cases z2 : ma env S1 with
    | bad => rw [z2] at q; exact q.elim
    | exn _ _ => rw [z2] at q; first | exact q | exact PostX.pop q | exact PostX.pop (PostX.pop q) | exact PostX.popA (by assumption) q | exact PostXS.toX q | exact PostX.pop (PostXS.toX q) | exact PostX.popA (by assumption) (PostXS.toX q) | exact PostXS.pop q | exact False.elim q
    | ok ds S2 =>
      rw [z2] at q
      intro vs H2 l r2
      exact q (v :: vs) H2 (by simp [l]) (RelO.rot (by simpa using l) r2)
theorem sa_cons {m : ME} {ma : MA} (h : SE X e m) (hr : SA X es ma) (hs : starEach (e :: es) X.env = (false, eval e X.env) :: starEach es X.env := by rfl) : SA X (e :: es) (aCons m ma) :=
  pa_imp (pa_cons h hr hs) tMA_cons
theorem se_tup {ma : MA} {x1} (h : SA X es ma) : SE X (.Tuple es x1 pos) (eTup ma) := by
  refine pe_imp (pe_tup h) ?_
  rintro σ H Q ⟨env, S, tp, tv, h, q⟩
  refine ⟨env, S, tp, tv, h, ?_⟩
  unfold eTup at q
  cases z1 : ma env S with
  | bad => rw [z1] at q; exact q.elim
  | exn _ _ => rw [z1] at q; first | exact q | exact PostX.pop q | exact PostX.pop (PostX.pop q) | exact PostX.popA (by assumption) q | exact PostXS.toX q | exact PostX.pop (PostXS.toX q) | exact PostX.popA (by assumption) (PostXS.toX q) | exact PostXS.pop q | exact False.elim q
  | ok ds S1 =>
    rw [z1] at q
    intro vs H1 l r1
    have q : PostM (kt X) env σ tp tv Q (if ds.length ≤ 16777216 then .ok (.tup ds) S1 else .bad) := q
    by_cases hz : ds.length ≤ 16777216
    · rw [if_pos hz] at q
      refine ⟨by rw [← l]; exact hz, fun p hp => q _ _ (r1.mkTup l hp)⟩
    · rw [if_neg hz] at q
      exact q.elim
theorem se_lst {ma : MA} (h : SA X es ma) : SE X (.List es pos) (eLst ma) := by
  refine pe_imp (pe_lst h) ?_
  rintro σ H Q ⟨env, S, tp, tv, h, q⟩
  refine ⟨env, S, tp, tv, h, ?_⟩
  unfold eLst at q
  cases z1 : ma env S with
  | bad => rw [z1] at q; exact q.elim
  | exn _ _ => rw [z1] at q; first | exact q | exact PostX.pop q | exact PostX.pop (PostX.pop q) | exact PostX.popA (by assumption) q | exact PostXS.toX q | exact PostX.pop (PostXS.toX q) | exact PostX.popA (by assumption) (PostXS.toX q) | exact PostXS.pop q | exact False.elim q
  | ok ds S1 =>
    rw [z1] at q
    intro vs H1 l r1
    have q : PostM (kt X) env σ tp tv Q (if ds.length ≤ 16777216 then .ok (.lst true ds) S1 else .bad) := q
    by_cases hz : ds.length ≤ 16777216
    · rw [if_pos hz] at q
      refine ⟨by rw [← l]; exact hz, fun p hp => q _ _ (r1.mkLst l hp)⟩
    · rw [if_neg hz] at q
      exact q.elim
theorem se_frz {m : ME} (h : SE X e m) : SE X e (eFrz m) := by
  refine pe_imp h ?_
  rintro σ H Q ⟨env, S, tp, tv, h, q⟩
  refine ⟨env, S, tp, tv, h, ?_⟩
  unfold eFrz at q
  cases z1 : m env S with
  | bad => rw [z1] at q; exact q.elim
  | exn _ _ => rw [z1] at q; first | exact q | exact PostX.pop q | exact PostX.pop (PostX.pop q) | exact PostX.popA (by assumption) q | exact PostXS.toX q | exact PostX.pop (PostXS.toX q) | exact PostX.popA (by assumption) (PostXS.toX q) | exact PostXS.pop q | exact False.elim q
  | ok d S1 =>
    rw [z1] at q
    intro v H1 r1
    exact q v H1 r1.frz
theorem se_cell {m : ME} (h : SE X e m) : SE X e (eCell m) := by
  refine pe_imp h ?_
  rintro σ H Q ⟨env, S, tp, tv, h, q⟩
  refine ⟨env, S, tp, tv, h, ?_⟩
  unfold eCell at q
  cases z1 : m env S with
  | bad => rw [z1] at q; exact q.elim
  | exn _ _ => rw [z1] at q; first | exact q | exact PostX.pop q | exact PostX.pop (PostX.pop q) | exact PostX.popA (by assumption) q | exact PostXS.toX q | exact PostX.pop (PostXS.toX q) | exact PostX.popA (by assumption) (PostXS.toX q) | exact PostXS.pop q | exact False.elim q
  | ok d S1 =>
    rw [z1] at q
    intro v H1 r1
    cases d with
    | lst b ds =>
      cases b with
      | true =>
        have q : PostM (kt X) env σ tp tv Q (.ok (.ref S1.length) (S1 ++ [.lst true ds])) := q
        refine q v H1 ?_
        have r2 := r1.cell
        rw [List.length_map] at r2
        rw [Rel, List.map_append]
        exact r2
      | false => exact q.elim
    | _ => exact q.elim
end
def PostF (K : PySem.W.Frag) (tp : Env) (tv : List (Option V)) (Q : VK) (E : XK) : R D → Prop
  | .ok d S' => ∀ v H', Rel K S' [] [] (some d :: tp) (some v :: tv) H' → Q v H'
  | .exn e S' => ∀ cls d H', Wish K e S' [] tp tv cls d [] H' → E cls d H'
  | .bad => False
def spM (K : PySem.W.Frag) (n : Nat) (m : Fn) : Sp := fun vs H Q E => ∃ (ds : List D) (S : Sto) (tp : Env) (tv : List (Option V)), ds.length = n ∧ vs.length = n ∧ Rel K S [] [] (ds.map some ++ tp) (vs.map some ++ tv) H ∧ PostF K tp tv Q E (m ds S)
/-- an exception leaves a def: the caller's slots are what was held -/
theorem Wish.leave {K : PySem.W.Frag} {e : Exc} {S : Sto} {env tp : Env} {tv : List (Option V)} {σ : L2.St} (l : env.length = σ.length) {cls : Value} {d : Option Addr} {H : Hp} (h : Wish K e S [] (env ++ tp) (σ ++ tv) cls d [] H) : Wish K e S env tp tv cls d σ H := by
  obtain ⟨C, xs, h1, h2, h3, h4, h5, h6⟩ := h
  refine ⟨C, xs, h1, h2, h3, h4, ?_, h6⟩
  have h7 := RelO.swap (as := e.vs.map some) (bs := env) (xs := xs.map some) (ys := σ) (by simp [h4]) l h5
  exact RelO.ofT l h7
/-- an exception comes out of a def's body -/
theorem Wish.out {K : PySem.W.Frag} {e : Exc} {S : Sto} {env tp : Env} {tv : List (Option V)} {σ : L2.St} {cls : Value} {d : Option Addr} {H : Hp} (h : Wish K e S env tp tv cls d σ H) : Wish K e S [] tp tv cls d [] H := by
  obtain ⟨C, xs, h1, h2, h3, h4, h5, h6⟩ := h
  exact ⟨C, xs, h1, h2, h3, h4, RelO.drop h5, h6⟩
/-- what a call's result asks, from what its place asks -/
theorem PostF.of {K : KT} {env : Env} {σ : L2.St} {tp : Env} {tv : List (Option V)} {Q : VK} {r : R D} (l : env.length = σ.length) (q : PostM K env σ tp tv Q r) : ∃ W : WX, K.T W ∧ PostF K (env ++ tp) (σ ++ tv) Q (fun cls d H' => W cls d σ H') r := by
  cases r with
  | ok d S => exact ⟨_, K.fls, fun v H' r' => q v H' (RelO.leave l r')⟩
  | exn e S => exact ⟨_, q, fun cls d H' w => ⟨rfl, w.leave l⟩⟩
  | bad => exact q.elim
/-- the def that the module's name x holds computes m -/
structure Has (P : Program) (w : World) (K : PySem.W.Frag) (mg : Str → Option Value) (base : Heap) (x : Str) (k n : Nat) (m : Fn) : Prop where
  ex : ∃ (f : Addr) (fd : FuncData) (ps : List Str), FnG P w K mg base (L2.CX P w) k f fd ps (spM K n m) ∧ mg x = some (.ref f) ∧ PySem.W.keepIn K (.ref f) = true ∧ Binds K fd ps []
def eCall (n : Nat) (m : Fn) (ma : MA) : ME := fun env S => (ma env S).bind fun ds S1 => if ds.length = n then m (frzs ds) S1 else .bad
section
variable {X : Cx} {e : Expr} {es : List Expr} {p pos : Pos} {x : Str} {k n : Nat} {m : Fn} {ma : MA}
theorem tM_call {K : KT} : ∀ σ H Q, tM K (eCall n m ma) σ H Q → tCallX K.T (spM K n m) [] (tMA K ma) σ H Q := by
  rintro σ H Q ⟨env, S, tp, tv, h, q⟩
  refine ⟨env, S, tp, tv, h, ?_⟩
  unfold eCall at q
  cases z1 : ma env S with
  | bad => rw [z1] at q; exact q.elim
  | exn _ _ => rw [z1] at q; exact q
  | ok ds S1 =>
    rw [z1] at q
    intro vs H1 l r1
    have q : PostM K env σ tp tv Q (if ds.length = n then m (frzs ds) S1 else .bad) := q
    by_cases hn : ds.length = n
    · rw [if_pos hn] at q
      have lf : (frzs ds).length = vs.length := by rw [frzs_map, List.length_map]; exact l
      obtain ⟨W, hW, hF⟩ := PostF.of h.len q
      refine ⟨W, hW, frzs ds, S1, env ++ tp, σ ++ tv, by rw [frzs_map, List.length_map]; exact hn, by rw [List.append_nil, ← l]; exact hn, ?_, hF⟩
      rw [List.append_nil]
      exact RelO.enter (by simpa using lf) (r1.frzA l)
    · rw [if_neg hn] at q
      exact q.elim
theorem se_call (F : Has X.prog X.w X.K X.mg X.base x k n m) (hr : Room k X.A) (hG : X.A.guards = some []) (ha : SA X (e :: es) ma) (hg : Gl X x := by rfl) (hdb : (x == ("__debug__" : Str)) = false := by decide)
    (he : starEach (e :: es) X.env = (false, eval e X.env) :: starEach es X.env := by rfl) (hpl : (backTo pos (starEach es X.env)).any (·.1) = false := by rfl) : SE X (.Call (.Name x p) (e :: es) [] pos) (eCall n m ma) := by
  obtain ⟨f, fd, ps, G, hm, hk, hb⟩ := F.ex
  exact pe_imp (pe_callG G hr hG hg hm hk hb .nil ha hdb he hpl) tM_call
end
def PostS (K : KT) (tp : Env) (tv : List (Option V)) (D : Ends) : R Fl → Prop
  | .ok (.nx env') S' => ∀ σ' H', Rel K S' env' σ' tp tv H' → D.nx σ' H'
  | .ok (.rt d) S' => ∀ v H', Rel K S' [] [] (some d :: tp) (some v :: tv) H' → D.rt v H'
  | .ok (.bk env') S' => ∀ σ' H', Rel K S' env' σ' tp tv H' → D.bk σ' H'
  | .ok (.ct env') S' => ∀ σ' H', Rel K S' env' σ' tp tv H' → D.ct σ' H'
  | .exn e S' => PostXS K tp tv e S'
  | .bad => False
def tMS (K : KT) (m : MS) : TS := fun D σ H => ∃ (env : Env) (S : Sto) (tp : Env) (tv : List (Option V)), Rel K S env σ tp tv H ∧ PostS K tp tv D (m env S)
abbrev SS (X : Cx) (st : Stmt) (m : MS) : Prop := PS X st (tMS (kt X) m)
abbrev SSs (X : Cx) (sts : List Stmt) (m : MS) : Prop := PSs X sts (tMS (kt X) m)
theorem ps_imp {X : Cx} {st : Stmt} {t t' : TS} (h : PS X st t) (k : ∀ D σ H, t' D σ H → t D σ H) : PS X st t' := ⟨fun pins s σ H D I hq => h.run pins s σ H D I (k D σ H hq)⟩
theorem pss_imp {X : Cx} {st : List Stmt} {t t' : TS} (h : PSs X st t) (k : ∀ D σ H, t' D σ H → t D σ H) : PSs X st t' := ⟨fun pins s σ H D I hq => h.run pins s σ H D I (k D σ H hq)⟩
def sNil : MS := fun env S => .ok (.nx env) S
def sSeq (m1 m2 : MS) : MS := fun env S => (m1 env S).bind fun f S1 => match f with
  | .nx env1 => m2 env1 S1
  | f => .ok f S1
def sIf (mt : MT) (m1 m2 : MS) : MS := fun env S => (mt env S).bind fun b S1 => if b = true then m1 env S1 else m2 env S1
def sRet (me : ME) : MS := fun env S => (me env S).bind fun d S1 => .ok (.rt d) S1
def sRetN : MS := fun _ S => .ok (.rt .non) S
def sDrop (me : ME) : MS := fun env S => (me env S).bind fun _ S1 => .ok (.nx env) S1
def sBrk : MS := fun env S => .ok (.bk env) S
def sCnt : MS := fun env S => .ok (.ct env) S
def sSet (i : Nat) (me : ME) : MS := fun env S => (me env S).bind fun d S1 => if i < env.length then .ok (.nx (env.set i (some d))) S1 else .bad
section
variable {X : Cx} {st : Stmt} {sts : List Stmt} {m m1 m2 : MS} {me : ME} {mt : MT} {e : Expr} {pos : Pos}
theorem ss_nil : SSs X [] sNil := by
  refine pss_imp pss_nil ?_
  rintro D σ H ⟨env, S, tp, tv, h, q⟩
  exact q σ H h
theorem tMS_seq {K : KT} : ∀ D σ H, tMS K (sSeq m1 m2) D σ H → tSeq (tMS K m1) (tMS K m2) D σ H := by
  rintro D σ H ⟨env, S, tp, tv, h, q⟩
  refine ⟨env, S, tp, tv, h, ?_⟩
  unfold sSeq at q
  cases z1 : m1 env S with
  | bad => rw [z1] at q; exact q.elim
  | exn _ _ => rw [z1] at q; first | exact q | exact PostX.pop q | exact PostX.pop (PostX.pop q) | exact PostX.popA (by assumption) q | exact PostXS.toX q | exact PostX.pop (PostXS.toX q) | exact PostX.popA (by assumption) (PostXS.toX q) | exact PostXS.pop q | exact False.elim q
  | ok f S1 =>
    rw [z1] at q
    cases f with
    | nx env1 => exact fun σ' H' r => ⟨env1, S1, tp, tv, r, q⟩
    | rt d => exact q
    | bk env1 => exact q
    | ct env1 => exact q
theorem ss_cons (h1 : SS X st m1) (h2 : SSs X sts m2) : SSs X (st :: sts) (sSeq m1 m2) := pss_imp (pss_cons h1 h2) tMS_seq
theorem ss_one (h1 : SS X st m1) : SSs X [st] m1 := pss_one h1
theorem s_if {a b : List Stmt} (hc : ST X e mt) (ha : SSs X a m1) (hb : SSs X b m2) : SS X (.If e a b pos) (sIf mt m1 m2) := by
  refine ps_imp (ps_if hc ha hb) ?_
  rintro D σ H ⟨env, S, tp, tv, h, q⟩
  refine ⟨env, S, tp, tv, h, ?_⟩
  unfold sIf at q
  cases z1 : mt env S with
  | bad => rw [z1] at q; exact q.elim
  | exn _ _ => rw [z1] at q; first | exact q | exact PostX.pop q | exact PostX.pop (PostX.pop q) | exact PostX.popA (by assumption) q | exact PostXS.toX q | exact PostX.pop (PostXS.toX q) | exact PostX.popA (by assumption) (PostXS.toX q) | exact PostXS.pop q | exact False.elim q
  | ok c S1 =>
    rw [z1] at q
    intro H1 r1
    cases c with
    | true => exact iteT ⟨env, S1, tp, tv, r1, q⟩
    | false => exact iteF ⟨env, S1, tp, tv, r1, q⟩
theorem s_ret (h : SE X e me) : SS X (.Return (some e) pos) (sRet me) := by
  refine ps_imp (ps_ret h) ?_
  rintro D σ H ⟨env, S, tp, tv, h, q⟩
  refine ⟨env, S, tp, tv, h, ?_⟩
  unfold sRet at q
  cases z1 : me env S with
  | bad => rw [z1] at q; exact q.elim
  | exn _ _ => rw [z1] at q; first | exact q | exact PostX.pop q | exact PostX.pop (PostX.pop q) | exact PostX.popA (by assumption) q | exact PostXS.toX q | exact PostX.pop (PostXS.toX q) | exact PostX.popA (by assumption) (PostXS.toX q) | exact PostXS.pop q | exact False.elim q
  | ok d S1 =>
    rw [z1] at q
    intro v H1 r1
    exact q v H1 r1.drop
theorem tMS_set {K : KT} {i : Nat} : ∀ D σ H, tMS K (sSet i me) D σ H → tAsg (tM K me) (gName i) D σ H := by
  rintro D σ H ⟨env, S, tp, tv, h, q⟩
  refine ⟨env, S, tp, tv, h, ?_⟩
  unfold sSet at q
  cases z1 : me env S with
  | bad => rw [z1] at q; exact q.elim
  | exn _ _ => rw [z1] at q; first | exact q | exact PostX.pop q | exact PostX.pop (PostX.pop q) | exact PostX.popA (by assumption) q | exact PostXS.toX q | exact PostX.pop (PostXS.toX q) | exact PostX.popA (by assumption) (PostXS.toX q) | exact PostXS.pop q | exact False.elim q
  | ok d S1 =>
    rw [z1] at q
    intro v H1 r1
    have q : PostS K tp tv D (if i < env.length then .ok (.nx (env.set i (some d))) S1 else .bad) := q
    by_cases hi : i < env.length
    · rw [if_pos hi] at q
      exact q _ H1 (r1.set hi)
    · rw [if_neg hi] at q
      exact q.elim
theorem s_set {i : Nat} {x : Str} {pos' : Pos} (hN : X.N.Nodup) (he : SE X e me) (hi : X.N[i]? = some x := by rfl) (hx : Loc X.env.scope x := by first | exact Or.inl rfl | exact Or.inr rfl)
    (hs : swapsWith e (some (.Name x pos')) pos.line X.env = pure false := by rfl) (hf : X.fn x = true ∨ X.env.scope.names.lookup x = some .local := by first | exact .inl rfl | exact .inr rfl | assumption) : SS X (.Assign [.Name x pos'] e pos) (sSet i me) :=
  ps_imp (ps_set hN hi hx he hs hf) tMS_set
def fnOf (N : Nat) (body : MS) : Fn := fun ds S => match body (ds.map some ++ List.replicate (N - ds.length) none) S with
  | .ok (.rt d) S' => .ok d.frz S'
  | .ok (.nx _) S' => .ok .non S'
  | .exn e S' => .exn e S'
  | _ => .bad
theorem RpO.nones {K : PySem.W.Frag} {F : Addr → Prop} {mu : List Addr} {H : Hp} : ∀ n : Nat, RpO K F mu H (List.replicate n none) (List.replicate n none) []
  | 0 => RpO.nil_mk
  | n + 1 => by
    show RpO K F mu H (none :: List.replicate n none) (none :: List.replicate n none) []
    unfold RpO
    exact ⟨none, _, rfl, RpO.nones n⟩
theorem fn_mkL {P : Program} {w : World} {K : PySem.W.Frag} {mg : Str → Option Value} {base : Heap} {x qual : Str} {stm : Stmt} {f : Addr} {fd : FuncData} {N ps : List Str} {k : Nat} {body : MS} (F : Fun K x qual stm f fd) (sc : FnScope N ps (defScope stm))
    (hbody : ∀ (cdv : Value) (A : Around) (outer : List PySem.Env) (s : Shared) (H : Hp) (E : XK), fd.code = cdv → Room k (A.deeper (envOfC qual (defScope stm) s.heap.objs.size f cdv)) → A.guards = some [] →
      SSs (cxOf (L2.CX P w) P w K mg base N qual (defScope stm) f cdv A outer s H E) (defBody stm) body) : FnG P w K mg base (L2.CX P w) (k + 1) f fd ps (spM K ps.length (fnOf N.length body)) := by
  refine Fun.okGc F sc (fun vs H Q E h => ?_) (fun cdv A outer s H vs Q E hc hr hG h => ?_)
  · obtain ⟨ds, S, tp, tv, _, h, _⟩ := h
    exact h
  · obtain ⟨ds, S, tp, tv, hd, hv, r, q⟩ := h
    refine ⟨_, hbody cdv A outer s H E hc hr hG, ds.map some ++ List.replicate (N.length - ds.length) none, S, tp, tv, ?_, ?_⟩
    · obtain ⟨F', mu, oS, oE, oT, h1, h2, h3, h4⟩ := r
      obtain ⟨p1, p2, eo, ha, h3'⟩ := RpO.split (by simp [hd, hv]) h3
      unfold RpO at h2
      obtain ⟨_, e2⟩ := h2
      subst e2; subst eo
      refine ⟨F', mu, oS, p1, p2, h1, ?_, h3', h4⟩
      have := RpO.app ha (RpO.nones (K := K) (F := F') (mu := mu) (H := H) (N.length - ds.length))
      rw [List.append_nil] at this
      unfold L2.start
      rw [hv, ← hd]
      exact this
    · unfold fnOf at q
      cases z : body (ds.map some ++ List.replicate (N.length - ds.length) none) S with
      | bad => rw [z] at q; exact q.elim
      | exn e S' =>
        rw [z] at q
        exact (takes_of (E := E) rfl rfl rfl rfl).imp fun cls d σ' H' ⟨env', w⟩ => q cls d H' w.out
      | ok fl S' =>
        rw [z] at q
        cases fl with
        | nx env' => exact fun σ' H' r' => q .non H' (r'.drop.sc rfl)
        | rt d => exact fun v H' r' => q v H' r'.frz
        | bk _ => exact q.elim
        | ct _ => exact q.elim
theorem fn_mk {P : Program} {w : World} {K : PySem.W.Frag} {mg : Str → Option Value} {base : Heap} {x qual : Str} {stm : Stmt} {f : Addr} {fd : FuncData} {N ps : List Str} {k : Nat} {body : MS} (F : Fun K x qual stm f fd) (sc : FnScope N ps (defScope stm))
    (hbody : ∀ (cdv : Value) (A : Around) (outer : List PySem.Env) (s : Shared) (H : Hp) (E : XK), Room k (A.deeper (envOfC qual (defScope stm) s.heap.objs.size f cdv)) → A.guards = some [] →
      SSs (cxOf (L2.CX P w) P w K mg base N qual (defScope stm) f cdv A outer s H E) (defBody stm) body) : FnG P w K mg base (L2.CX P w) (k + 1) f fd ps (spM K ps.length (fnOf N.length body)) :=
  fn_mkL F sc fun cdv A outer s H E _ => hbody cdv A outer s H E
end
end N1
end
section
namespace N1
open PySem PySem.Spec PyProof.Rows L2
def tE (m : ME) : MT := fun env S => (m env S).bind fun d S1 => match d with
  | .bl b => .ok b S1
  | _ => .bad
theorem tMT_tE {K : KT} {m : ME} : ∀ σ H Q, tMT K (tE m) σ H Q → tM K m σ H (fun x H' => ∃ k, x = .bl k ∧ Q k H') := by
  rintro σ H Q ⟨env, S, tp, tv, h, q⟩
  refine ⟨env, S, tp, tv, h, ?_⟩
  unfold tE at q
  cases z1 : m env S with
  | bad => rw [z1] at q; exact q.elim
  | exn _ _ => rw [z1] at q; first | exact q | exact PostX.pop q | exact PostX.pop (PostX.pop q) | exact PostX.popA (by assumption) q | exact PostXS.toX q | exact PostX.pop (PostXS.toX q) | exact PostX.popA (by assumption) (PostXS.toX q) | exact PostXS.pop q | exact False.elim q
  | ok d S1 =>
    rw [z1] at q
    intro v H1 r1
    cases d with
    | bl b => exact ⟨b, (View.top r1).sc_inv rfl, q H1 r1.pop⟩
    | _ => exact q.elim
section
variable {X : Cx} {e a b c : Expr} {rest : List Expr} {pos : Pos} {m ma mb mc : ME} {mt mt1 mt2 : MT} {cop cop' : CmpOp} {r r' : R2} {f g : Sto → D → D → Option D}
theorem st_cmp (hr : OpR X (compareOp cop) r) (ho : Op2 X.K r f) (ha : SE X a ma) (hb : SE X b mb) (hm : behindInMarks cop b = false) : ST X (.Compare a [cop] [b] pos) (tE (eOp f ma mb)) :=
  pt_imp (pt_cmpR hr ha hb hm) fun σ H Q h => tM_op ho σ H _ (tMT_tE σ H Q h)
theorem st_cmpB {ba bb : MB} (hr : OpR X (compareOp cop) r) (ho : Op2 X.K r f) (ha : SB X a ba) (hb : SB X b bb) (hm : behindInMarks cop b = false) : ST X (.Compare a [cop] [b] pos) (tE (eB (bOp f ba bb))) := by
  refine pt_imp (pt_cmpR hr ha hb hm) fun σ H Q h => tB_op ho σ H _ ?_
  obtain ⟨env, S, tp, tv, h, q⟩ := tMT_tE σ H Q h
  unfold eB at q
  cases z : bOp f ba bb env S with
  | none => rw [z] at q; exact q.elim
  | some d =>
    rw [z] at q
    have q : PostM (kt X) env σ tp tv _ (if d.isF = true then .ok d S else .bad) := q
    by_cases hf : d.isF = true
    · rw [if_pos hf] at q
      exact ⟨env, S, tp, tv, d, h, z, fun v w => q v H (w.push hf)⟩
    · rw [if_neg hf] at q
      exact q.elim
def tNot (m : MT) : MT := fun env S => (m env S).bind fun b S1 => .ok (!b) S1
def tAnd (m1 m2 : MT) : MT := fun env S => (m1 env S).bind fun b S1 => if b = true then m2 env S1 else .ok false S1
def tOr (m1 m2 : MT) : MT := fun env S => (m1 env S).bind fun b S1 => if b = true then .ok true S1 else m2 env S1
def eAnd (m1 m2 : ME) : ME := fun env S => (m1 env S).bind fun d S1 => match d with
  | .bl true => m2 env S1
  | .bl false => .ok (.bl false) S1
  | _ => .bad
def eOr (m1 m2 : ME) : ME := fun env S => (m1 env S).bind fun d S1 => match d with
  | .bl true => .ok (.bl true) S1
  | .bl false => m2 env S1
  | _ => .bad
def eNot (m : ME) : ME := fun env S => (m env S).bind fun d S1 => match d with
  | .bl b => .ok (.bl (!b)) S1
  | _ => .bad
def eIf (mt : MT) (m1 m2 : ME) : ME := fun env S => (mt env S).bind fun b S1 => if b = true then m1 env S1 else m2 env S1
theorem se_one {op} (h : SE X a m) : SE X (.BoolOp op [a] pos) m := pe_one h
theorem se_and (h : SE X a ma) (h2 : SE X (.BoolOp .And (b :: rest) pos) mb) : SE X (.BoolOp .And (a :: b :: rest) pos) (eAnd ma mb) := by
  refine pe_imp (pe_and h h2) ?_
  rintro σ H Q ⟨env, S, tp, tv, h, q⟩
  refine ⟨env, S, tp, tv, h, ?_⟩
  unfold eAnd at q
  cases z1 : ma env S with
  | bad => rw [z1] at q; exact q.elim
  | exn _ _ => rw [z1] at q; first | exact q | exact PostX.pop q | exact PostX.pop (PostX.pop q) | exact PostX.popA (by assumption) q | exact PostXS.toX q | exact PostX.pop (PostXS.toX q) | exact PostX.popA (by assumption) (PostXS.toX q) | exact PostXS.pop q | exact False.elim q
  | ok d S1 =>
    rw [z1] at q
    intro v H1 r1
    cases d with
    | bl b =>
      refine ⟨b, (View.top r1).sc_inv rfl, ?_⟩
      cases b with
      | true => exact iteT ⟨env, S1, tp, tv, r1.pop, q⟩
      | false => exact iteF (q _ H1 ((r1.pop).sc rfl))
    | _ => exact q.elim
theorem se_if (hc : ST X c mt) (ha : SE X a ma) (hb : SE X b mb) : SE X (.IfExp c a b pos) (eIf mt ma mb) := by
  refine pe_imp (pe_ifExp hc ha hb) ?_
  rintro σ H Q ⟨env, S, tp, tv, h, q⟩
  refine ⟨env, S, tp, tv, h, ?_⟩
  unfold eIf at q
  cases z1 : mt env S with
  | bad => rw [z1] at q; exact q.elim
  | exn _ _ => rw [z1] at q; first | exact q | exact PostX.pop q | exact PostX.pop (PostX.pop q) | exact PostX.popA (by assumption) q | exact PostXS.toX q | exact PostX.pop (PostXS.toX q) | exact PostX.popA (by assumption) (PostXS.toX q) | exact PostXS.pop q | exact False.elim q
  | ok d S1 =>
    rw [z1] at q
    intro H1 r1
    cases d with
    | true => exact iteT ⟨env, S1, tp, tv, r1, q⟩
    | false => exact iteF ⟨env, S1, tp, tv, r1, q⟩
def eChain (f g : Sto → D → D → Option D) (ma mb mc : ME) : ME := fun env S => (ma env S).bind fun a S1 => (mb env S1).bind fun b S2 => match f S2 a b with
  | some (.bl true) => (mc env S2).bind fun c S3 => match g S3 b c with
    | some d => if d.isF = true then .ok d S3 else .bad
    | none => .bad
  | some (.bl false) => .ok (.bl false) S2
  | _ => .bad
end
def ixD : Sto → D → D → Option D := fun S a b => match a, b with
  | .tup ds, .int i => atI ds i
  | .lst _ ds, .int i => atI ds i
  | .ref n, .int i => match S[n]? with
    | some (.lst _ ds) => atI ds i
    | _ => none
  | .str z, .int i => if z.length ≤ 16777216 then (atI z.cps.toList i).map fun c => .str ⟨#[c]⟩ else none
  | _, _ => none
theorem atI_at {a : Type} {xs : List a} {i : Int} {v : a} (h : atI xs i = some v) : ∃ j, ixN xs.length i = some j ∧ xs[j]? = some v := by
  unfold atI at h
  cases z : ixN xs.length i with
  | none => rw [z] at h; cases h
  | some j => rw [z] at h; exact ⟨j, rfl, h⟩
theorem at_atI {a : Type} {xs : List a} {n : Nat} {i : Int} {j : Nat} {v : a} (hn : xs.length = n) (h1 : ixN n i = some j) (h : xs[j]? = some v) : atI xs i = some v := by
  unfold atI
  rw [hn, h1]
  exact h
theorem op2_ix {K : PySem.W.Frag} : Op2 K (rIx K) ixD := by
  intro S env σ tp tv H a b c x y Q wx wy e q
  have lst : ∀ {bo : Bool} {ds : List D} {i : Int}, View K S env σ tp tv H (.lst bo ds) x → View K S env σ tp tv H (.int i) y → atI ds i = some c → rIx K x y H Q := fun {bo ds i} wx wy e => by
    obtain ⟨p, xs, e1, hs, _, l, it⟩ := wx.lst
    obtain ⟨j, h1, h2⟩ := atI_at e
    obtain ⟨v, h3, w⟩ := it j c h2
    exact .inl ⟨p, xs, i, v, e1, wy.sc_inv rfl, hs, at_atI l.symm h1 h3, q v w⟩
  unfold ixD at e
  split at e
  · obtain ⟨p, xs, e1, hs, l, it⟩ := wx.tup
    obtain ⟨j, h1, h2⟩ := atI_at e
    obtain ⟨v, h3, w⟩ := it j c h2
    exact .inr (.inl ⟨p, xs, _, v, e1, wy.sc_inv rfl, hs, at_atI l.symm h1 h3, q v w⟩)
  · exact lst wx wy e
  · split at e
    · rename_i h
      exact lst (wx.deref h) wy e
    · cases e
  · split at e
    · rename_i z i hz
      cases h : atI z.cps.toList i with
      | none => rw [h] at e; cases e
      | some cc =>
        rw [h] at e
        cases e
        exact .inr (.inr ⟨z, i, cc, wx.sc_inv rfl, wy.sc_inv rfl, hz, h, q _ (View.sc wx.rel rfl)⟩)
    · cases e
  · cases e
section
variable {X : Cx} {e a b c : Expr} {pos : Pos}
theorem sb_ix {ma mb : MB} (ha : SB X a ma) (hb : SB X b mb) (hs : PlainIx b := by intro _ _; rfl) : SB X (.Subscript a b pos) (bOp ixD ma mb) := pe_imp (pe_ix ix_seq ha hb hs) (tB_op op2_ix)
theorem se_ix {ma mb : ME} (ha : SE X a ma) (hb : SE X b mb) (hs : PlainIx b := by intro _ _; rfl) : SE X (.Subscript a b pos) (eOp ixD ma mb) := pe_imp (pe_ix ix_seq ha hb hs) (tM_op op2_ix)
end
def Views (K : PySem.W.Frag) (S : Sto) (env : Env) (σ : L2.St) (tp : Env) (tv : List (Option V)) (H : Hp) (ds : List D) (vs : List V) : Prop :=
  ds.length = vs.length ∧ ∀ (i : Nat) (d : D), ds[i]? = some d → ∃ x, vs[i]? = some x ∧ View K S env σ tp tv H d x
def PostAB (K : PySem.W.Frag) (env : Env) (S : Sto) (σ : L2.St) (tp : Env) (tv : List (Option V)) (H : Hp) (Q : List V → Hp → Prop) (ds : List D) : Prop := ∀ vs, Views K S env σ tp tv H ds vs → Q vs H
def tAB (K : PySem.W.Frag) (m : MAB) : TA := fun σ H Q => ∃ (env : Env) (S : Sto) (tp : Env) (tv : List (Option V)) (ds : List D), Rel K S env σ tp tv H ∧ m env S = some ds ∧ PostAB K env S σ tp tv H Q ds
abbrev SAB (X : Cx) (es : List Expr) (m : MAB) : Prop := PA X es (tAB X.K m)
def abNil : MAB := fun _ _ => some []
def abCons (m : MB) (ma : MAB) : MAB := fun env S => match m env S, ma env S with
  | some d, some ds => some (d :: ds)
  | _, _ => none
section
variable {X : Cx} {e : Expr} {es : List Expr} {pos p : Pos} {x : Str} {id T : String} {r : List V → Hp → VK → Prop} {f : Sto → List D → Option D}
theorem sab_nil : SAB X [] abNil := by
  refine pa_imp pa_nil ?_
  rintro σ H Q ⟨env, S, tp, tv, ds, h, e, q⟩
  cases e
  exact q [] ⟨rfl, fun i d e => by simp at e⟩
theorem sab_cons {m : MB} {ma : MAB} (h : SB X e m) (hr : SAB X es ma) (hs : starEach (e :: es) X.env = (false, eval e X.env) :: starEach es X.env := by rfl) : SAB X (e :: es) (abCons m ma) := by
  refine pa_imp (pa_cons h hr hs) ?_
  rintro σ H Q ⟨env, S, tp, tv, ds, h, e, q⟩
  unfold abCons at e
  cases z1 : m env S with
  | none => rw [z1] at e; cases e
  | some d =>
    cases z2 : ma env S with
    | none => rw [z1, z2] at e; cases e
    | some ds' =>
      rw [z1, z2] at e
      cases e
      refine ⟨env, S, tp, tv, d, h, z1, fun v w => ⟨env, S, tp, tv, ds', h, z2, fun vs ws => q (v :: vs) ⟨by simp [ws.1], fun i c ei => ?_⟩⟩⟩
      cases i with
      | zero =>
        have : d = c := by simpa using ei
        subst this
        exact ⟨v, rfl, w⟩
      | succ i =>
        obtain ⟨u, h1, h2⟩ := ws.2 i c (by simpa using ei)
        exact ⟨u, by simpa using h1, h2⟩
/-- makes nothing -/
def OpV (K : PySem.W.Frag) (r : List V → Hp → VK → Prop) (f : Sto → List D → Option D) : Prop := ∀ (S : Sto) (env : Env) (σ : L2.St) (tp : Env) (tv : List (Option V)) (H : Hp) (ds : List D) (xs : List V) (c : D) (Q : VK),
  Rel K S env σ tp tv H → Views K S env σ tp tv H ds xs → f S ds = some c → (∀ u, View K S env σ tp tv H c u → Q u H) → r xs H Q
/-- may make something -/
def AlV (K : PySem.W.Frag) (r : List V → Hp → VK → Prop) (f : Sto → List D → Option D) : Prop := ∀ (S : Sto) (env : Env) (σ : L2.St) (tp : Env) (tv : List (Option V)) (H : Hp) (ds : List D) (xs : List V) (c : D) (Q : VK),
  Rel K S env σ tp tv H → Views K S env σ tp tv H ds xs → f S ds = some c → (∀ v H', Rel K S env σ (some c :: tp) (some v :: tv) H' → Q v H') → r xs H Q
def bFn (f : Sto → List D → Option D) (ma : MAB) : MB := fun env S => match ma env S with
  | some ds => f S ds
  | none => none
def eFnB (f : Sto → List D → Option D) (ma : MAB) : ME := fun env S => match ma env S with
  | some ds => match f S ds with
    | some c => .ok c S
    | none => .bad
  | none => .bad
def eFn (f : Sto → List D → Option D) (ma : MA) : ME := fun env S => (ma env S).bind fun ds S1 => match f S1 ds with
  | some c => .ok c S1
  | none => .bad
def frzd (f : Sto → List D → Option D) : Sto → List D → Option D := fun S ds => match f S ds with
  | some c => if c.isF = true then some c else none
  | none => none
theorem AlV.of {K : PySem.W.Frag} (h : OpV K r f) : AlV K r (frzd f) := by
  intro S env σ tp tv H ds xs c Q rl vw e q
  unfold frzd at e
  cases z : f S ds with
  | none => rw [z] at e; cases e
  | some d =>
    rw [z] at e
    simp only at e
    by_cases hf : d.isF = true
    · rw [if_pos hf] at e
      cases e
      exact h S env σ tp tv H ds xs c Q rl vw z fun u hu => q u H (hu.push hf)
    · rw [if_neg hf] at e; cases e
theorem tB_fn {K : PySem.W.Frag} {ma : MAB} (ho : OpV K r f) : ∀ σ H Q, tB K (bFn f ma) σ H Q → tAB K ma σ H (fun vs H1 => r vs H1 Q) := by
  rintro σ H Q ⟨env, S, tp, tv, c, h, e, q⟩
  unfold bFn at e
  cases z : ma env S with
  | none => rw [z] at e; cases e
  | some ds =>
    rw [z] at e
    exact ⟨env, S, tp, tv, ds, h, z, fun vs ws => ho S env σ tp tv H ds vs c Q h ws e q⟩
theorem tM_fnB {K : KT} {ma : MAB} (ho : AlV K r f) : ∀ σ H Q, tM K (eFnB f ma) σ H Q → tAB K ma σ H (fun vs H1 => r vs H1 Q) := by
  rintro σ H Q ⟨env, S, tp, tv, h, q⟩
  unfold eFnB at q
  cases z : ma env S with
  | none => rw [z] at q; exact q.elim
  | some ds =>
    rw [z] at q
    cases z2 : f S ds with
    | none => simp only [z2] at q; exact q.elim
    | some c =>
      simp only [z2] at q
      exact ⟨env, S, tp, tv, ds, h, z, fun vs ws => ho S env σ tp tv H ds vs c Q h ws z2 q⟩
theorem RelO.popU {K : PySem.W.Frag} {S : List (Option D)} {env : Env} {σ : L2.St} {H : Hp} {d : D} {v : V} : ∀ {ds : List D} {vs : List V} {tp : Env} {tv : List (Option V)}, ds.length = vs.length → RelO K S env σ (some d :: (ds.map some ++ tp)) (some v :: (vs.map some ++ tv)) H → RelO K S env σ (some d :: tp) (some v :: tv) H
  | [], [], _, _, _, h => h
  | [], _ :: _, _, _, l, _ => by simp at l
  | _ :: _, [], _, _, l, _ => by simp at l
  | c :: ds, w :: vs, tp, tv, l, h => RelO.popU (ds := ds) (vs := vs) (by simpa using l) (RelO.pop2 h)
theorem tM_fn {K : KT} {ma : MA} (ho : AlV K r f) : ∀ σ H Q, tM K (eFn f ma) σ H Q → tMA K ma σ H (fun vs H1 => r vs H1 Q) := by
  rintro σ H Q ⟨env, S, tp, tv, h, q⟩
  refine ⟨env, S, tp, tv, h, ?_⟩
  unfold eFn at q
  cases z : ma env S with
  | bad => rw [z] at q; exact q.elim
  | exn _ _ => rw [z] at q; first | exact q | exact PostX.pop q | exact PostX.pop (PostX.pop q) | exact PostX.popA (by assumption) q | exact PostXS.toX q | exact PostX.pop (PostXS.toX q) | exact PostX.popA (by assumption) (PostXS.toX q) | exact PostXS.pop q | exact False.elim q
  | ok ds S1 =>
    rw [z] at q
    intro vs H1 l r1
    simp only [R.bind] at q
    cases z2 : f S1 ds with
    | none => rw [z2] at q; exact q.elim
    | some c =>
      rw [z2] at q
      exact ho S1 env σ _ _ H1 ds vs c Q r1 ⟨l, fun i d ei => View.arg l r1 ei⟩ z2 fun v H' r' => q v H' (RelO.popU l r')
section
variable (hc : CallR X (.builtin id) r) (hm : X.mg x = none) (hv : bootBuiltins x = some (.builtin id))
include hc hm hv
theorem sb_fn {ma : MAB} (ho : OpV X.K r f) (ha : SAB X (e :: es) ma) (hg : Gl X x := by rfl) (hn : x ≠ "__name__" := by decide) (hdb : (x == ("__debug__" : Str)) = false := by decide)
    (he : starEach (e :: es) X.env = (false, eval e X.env) :: starEach es X.env := by rfl) (hpl : (backTo pos (starEach es X.env)).any (·.1) = false := by rfl) : SB X (.Call (.Name x p) (e :: es) [] pos) (bFn f ma) :=
  pe_imp (pe_callB hc hg hm hv ha hn hdb he hpl) (tB_fn ho)
theorem se_fn {ma : MA} (ho : AlV X.K r f) (ha : SA X (e :: es) ma) (hg : Gl X x := by rfl) (hn : x ≠ "__name__" := by decide) (hdb : (x == ("__debug__" : Str)) = false := by decide)
    (he : starEach (e :: es) X.env = (false, eval e X.env) :: starEach es X.env := by rfl) (hpl : (backTo pos (starEach es X.env)).any (·.1) = false := by rfl) : SE X (.Call (.Name x p) (e :: es) [] pos) (eFn f ma) :=
  pe_imp (pe_callB hc hg hm hv ha hn hdb he hpl) (tM_fn ho)
end
section
variable (hc : CallR X (.type T) r) (hm : X.mg x = none) (hv : bootBuiltins x = some (.type T))
include hc hm hv
theorem se_tyB {ma : MAB} (ho : AlV X.K r f) (ha : SAB X (e :: es) ma) (hg : Gl X x := by rfl) (hn : x ≠ "__name__" := by decide) (hdb : (x == ("__debug__" : Str)) = false := by decide)
    (he : starEach (e :: es) X.env = (false, eval e X.env) :: starEach es X.env := by rfl) (hpl : (backTo pos (starEach es X.env)).any (·.1) = false := by rfl) : SE X (.Call (.Name x p) (e :: es) [] pos) (eFnB f ma) :=
  pe_imp (pe_callTy hc hg hm hv ha hn hdb he hpl) (tM_fnB ho)
theorem se_ty {ma : MA} (ho : AlV X.K r f) (ha : SA X (e :: es) ma) (hg : Gl X x := by rfl) (hn : x ≠ "__name__" := by decide) (hdb : (x == ("__debug__" : Str)) = false := by decide)
    (he : starEach (e :: es) X.env = (false, eval e X.env) :: starEach es X.env := by rfl) (hpl : (backTo pos (starEach es X.env)).any (·.1) = false := by rfl) : SE X (.Call (.Name x p) (e :: es) [] pos) (eFn f ma) :=
  pe_imp (pe_callTy hc hg hm hv ha hn hdb he hpl) (tM_fn ho)
end
end
end N1
end
section
namespace PySem
open Sem (wp)
open AutoSeq1 (wpAny_loadPart')
theorem meets_enumerate_newTup (l : Addr) (items : Array Value) (n : Nat) (dct : Option Addr) (sl : Array (Option Value)) :
    Meets (Builtin.«enumerate.__new__» ⟨[.type "enumerate", .ref l], []⟩) (fun _ R s => s.heap.get? l = some { cls := .type "tuple", dict := dct, data := .seq items n, slots := sl } ∧
      R (.ok (.ret (.ref (s.heap.push { cls := .type "tuple_iterator", data := .fields #[.ref l, .int 0 0] }).objs.size)))
        { s with heap := (s.heap.push { cls := .type "tuple_iterator", data := .fields #[.ref l, .int 0 0] }).push { cls := .type "enumerate", data := .fields #[.none, .bool false, .ref s.heap.objs.size, rawInt 0, .none, .none] } }) :=
  .of_wp fun prog w A R s h => by
    obtain ⟨hp, g, d, tk, os⟩ := s; obtain ⟨hl, h⟩ := h
    have hsub := sub_enumerate
    have hL : Heap.IsTuple (Shared.heap ⟨hp, g, d, tk, os⟩) l items := ⟨_, hl, rfl, n, rfl⟩
    wp_walk using wpAny_loadPart' hl
    refine wpAny_stack_any fun st => wpAny_pure ?_
    split
    · rename_i c _ _ _ _ _
      cases (c == Value.type "enumerate")
      · wp_walk using wpAny_loadPart' hl, wpAny_pyIter_tuple hL
        exact ⟨_, rfl, h⟩
      · wp_walk using wpAny_loadPart' hl, wpAny_pyIter_tuple hL
        exact ⟨_, rfl, h⟩
    · wp_walk using wpAny_loadPart' hl, wpAny_pyIter_tuple hL
      exact ⟨_, rfl, h⟩
section
variable {prog : Program} {w : World} {A : Around} {E : Value → Shared → Prop} {s : Shared}
theorem call_enumerate_tuple {l : Addr} {items : Array Value} {Q : Value → Shared → Prop} (hL : s.heap.IsTuple l items)
    (h : ∀ h', IsEnum h' (s.heap.objs.size + 1) s.heap.objs.size 0 .none → h'.IsTupleIter s.heap.objs.size l 0 → h'.objs.size = s.heap.objs.size + 2 →
      (∀ b o, s.heap.get? b = some o → h'.get? b = some o) → Q (.ref (s.heap.objs.size + 1)) { s with heap := h' }) :
    wpAny (model prog w) A (call (.type "enumerate") [.ref l]) Q E s := by
  obtain ⟨⟨c, dct, dt, sl⟩, hl, hc, n, hd⟩ := hL
  replace hc : c = .type "tuple" := hc
  replace hd : dt = .seq items n := hd
  subst hc hd
  refine callType_new F.called_enumerate (by decide) (F.typeCall_enumerate_1 _) (F.newCall_enumerate_1 _) (fun obj => F.args_object_init_2 obj _) F.entry_enumerate_new
    (meets_enumerate_newTup l items n dct sl) ⟨hl, ?_⟩
  have hz : (s.heap.push { cls := .type "tuple_iterator", data := .fields #[.ref l, .int 0 0] }).objs.size = s.heap.objs.size + 1 := Heap.size_push ..
  show _ ∧ _
  rw [hz]
  have he : IsEnum ((s.heap.push { cls := .type "tuple_iterator", data := .fields #[.ref l, .int 0 0] }).push
      { cls := .type "enumerate", data := .fields #[.none, .bool false, .ref s.heap.objs.size, rawInt 0, .none, .none] }) (s.heap.objs.size + 1) s.heap.objs.size 0 .none := by
    have := Heap.get?_push_size (s.heap.push { cls := .type "tuple_iterator", data := .fields #[.ref l, .int 0 0] })
      (o := { cls := .type "enumerate", data := .fields #[.none, .bool false, .ref s.heap.objs.size, rawInt 0, .none, .none] }) rfl
    rw [hz] at this; exact this
  refine ⟨⟨_, he, rfl⟩, h _ he ⟨_, Heap.get?_push_of_some _ (Heap.get?_push_size _ rfl), rfl, rfl⟩ (by rw [Heap.size_push, hz]) fun b o x => Heap.get?_push_of_some _ (Heap.get?_push_of_some _ x)⟩
end
end PySem
namespace N1
open PySem PySem.Spec PyProof.Rows L2
def IteT (K : PySem.W.Frag) (a : Addr) : It :=
  ⟨fun i H => ∃ (xs : List V) (x : V), SqT K H a xs ∧ xs[i]? = some x, fun i H v H' => ∃ T x, v = .ref T ∧ H T = none ∧ H' = upd H T (.tup [.int (i : Nat), x]) ∧ ∀ xs, SqT K H a xs → xs[i]? = some x, fun i H => ∃ xs : List V, SqT K H a xs ∧ xs.length ≤ i⟩
theorem turn_enumT {P : Program} {w : World} {K : PySem.W.Frag} {elts : List Expr} {kk : Nat} {tpos : Pos} (a e it : Addr) (hai : a ≠ it) (hea : e ≠ a) :
    Turn P w K (.Tuple elts kk tpos) (IteT K a) [e, it] e (fun i h => (∃ old, IsEnum h e it ((i : Nat) : Int) old) ∧ h.IsTupleIter it a i ∧ e ≠ it) where
  mem := by simp
  obj := fun i h st b hb => by
    obtain ⟨⟨old, he⟩, ⟨o, ho, hc, hd⟩, _⟩ := st
    have e' : b = e ∨ b = it := by simpa using hb
    rcases e' with z | z
    · rw [z]; exact ⟨_, he, fun v q => nomatch q⟩
    · rw [z]; exact ⟨o, ho, fun v q => by rw [hd] at q; cases q⟩
  keep := fun i h h' st k => let ⟨⟨old, he⟩, hi, hne⟩ := st; ⟨⟨old, k e (by simp) _ he⟩, hi.at fun o q => k it (by simp) o q, hne⟩
  item := by
    intro X hP hw hK hc i pins s σ H E I hf st hg
    subst hP hw hK
    obtain ⟨⟨old, he⟩, hit, hne⟩ := st
    obtain ⟨xs, x, hq, hx⟩ := hg
    obtain ⟨its, rv, p, hz⟩ := I.tuple hq
    obtain ⟨u, hu, ru⟩ := rv.get hx
    have hel : e < s.heap.objs.size := Heap.lt_size he
    have hil : it < s.heap.objs.size := by obtain ⟨_, q, _⟩ := hit; exact Heap.lt_size q
    have hii : i < its.toArray.size := by
      have := (List.getElem?_eq_some_iff.mp hu).1
      simpa using this
    refine wpAny_pyNext_enum_itemD (Draws.tuple (prog := X.prog) (w := X.w) (A := X.A.in1) (I.ok.hd hc) it a hai its.toArray) he ⟨hit, p⟩ hii hne (by simp [hne, hea]) fun y h' tk hy ho hst' hT hsz hk => ?_
    have hyu : y = u := by
      have h1 : its.toArray[i]? = some u := by simpa using hu
      rw [h1] at hy
      exact (Option.some.inj hy).symm
    subst hyu
    refine ⟨_, rfl, wpAny_letOwnedTupleGo_enum (s := { s with heap := h', toks := tk + 1 }) ho fun h'' he' sb => ?_⟩
    have hT2 : h''.get? s.heap.objs.size = some { cls := .type "tuple", data := .seq #[.int i tk, y] } := (sb.2 _ (Nat.ne_of_gt hel)).trans hT
    have new : ObjOk X.prog X.w (upd H s.heap.objs.size (.tup [.int (i : Nat), x])) h'' s.heap.objs.size (.tup [.int (i : Nat), x]) :=
      ⟨by show 2 ≤ sizeLine; decide, [.int i tk, y], .cons ⟨_, rfl⟩ (.cons ru .nil), ⟨_, hT2, rfl, _, rfl⟩⟩
    have I1 : Inv X pins σ (upd H s.heap.objs.size (.tup [.int (i : Nat), x])) { s with heap := h'', toks := tk + 1 } :=
      I.turnedNew (ch := [e, it]) (fun b ob hb q => (sb.2 b (fun z => hb (by simp [z]))).trans (hk b ob (fun z => hb (by simp [z])) (fun z => hb (by simp [z])) q)) hf (Nat.le_refl _) new
    refine ⟨.ref s.heap.objs.size, _, I1, rfl, ⟨_, x, rfl, I.hok.fresh (Nat.le_refl _), rfl, fun ys hy => by rw [I.tuple_inj hy hq]; exact hx⟩, ⟨⟨y, ?_⟩, hst'.1.at fun o q => (sb.2 it (Ne.symm hne)).trans q, hne⟩, fun b hb => ?_⟩
    · have e1 : ((i + 1 : Nat) : Int) = (i : Int) + 1 := by omega
      rw [e1]; exact he'
    · have hb' : b < s.heap.objs.size := by
        have e' : b = e ∨ b = it := by simpa using hb
        rcases e' with z | z
        · rw [z]; exact hel
        · rw [z]; exact hil
      rw [upd_ne (Nat.ne_of_lt hb')]
      exact (hf b hb).1
  done := by
    intro X hP hw hK hc i pins s σ H E I hf st hg
    subst hP hw hK
    obtain ⟨⟨old, he⟩, hit, hne⟩ := st
    obtain ⟨xs, hq, hx⟩ := hg
    obtain ⟨its, rv, p, hz⟩ := I.tuple hq
    obtain ⟨f0, f1, f2, f3, f4, f5⟩ := hf it (by simp)
    have hl := rv.length
    have hT : s.TypeIs (.ref e) "enumerate" := ⟨_, he, rfl⟩
    unfold pyNext
    refine wpAny_bind (wpAny_attempt (wpAny_callSpecial?_slot (name := Str.ofString "__next__") hT F.slot_enumerate_next
      (wpAny_call_entry F.slot_enumerate_next hT F.entry_enumerate_next ?_ (F.args_enumerate_next_1 _))))
    show wpAny _ _ (field (.ref e) 2 >>= _) _ _ _
    refine wpAny_bind (wpAny_field he rfl (x := .ref it) rfl ?_)
    have nox : its.toArray[i]? = none := by
      rw [List.getElem?_toArray]
      exact List.getElem?_eq_none_iff.mpr (by omega)
    refine wpAny_bind (wpAny_nextOf_tuple_end (I.ok.hd hc) hit p nox fun h' x he' hx' => ?_)
    obtain ⟨o, ho, hcc⟩ := hx'
    refine wpAny_bind (wpAny_isInstance (T := "StopIteration") (b := true) ⟨o, ho, hcc⟩ isSubtype_stop ?_)
    exact wpAny_pure ⟨rfl, I.turned (t' := s.toks) (fun b o hb q => he' b o hb q) f0 f1 f3 f4 f5⟩
  self := fun A i s Q E st h => let ⟨⟨_, he⟩, _⟩ := st; wpAny_pyIter_enum he h
/-- enumerate of a list or a tuple -/
def iEnumA (K : PySem.W.Frag) (ta : TA) : TI := fun σ H R => ta σ H fun vs H1 => ∃ a xs, vs = [.ref a] ∧ ((SqL K H1 a xs ∧ R (Ite K a) H1) ∨ (SqT K H1 a xs ∧ R (IteT K a) H1))
theorem pi_enumA {X : Cx} {e : Expr} {ta : TA} {p pos tpos : Pos} {elts : List Expr} {kk : Nat} (hg : Gl X "enumerate") (hm : X.mg "enumerate" = none) (ha : PA X [e] ta) (hs : starEach [e] X.env = [(false, eval e X.env)] := by rfl) :
    PI X (.Tuple elts kk tpos) (.Call (.Name "enumerate" p) [e] [] pos) (iEnumA X.K ta) := by
  refine ⟨fun pins s σ H R I h => ?_⟩
  refine Call_ (ld_blt I hg hm boot_enumerate (PyProof.Rows.callWith_type1 (thn (ha.run pos pins s σ H _ I h) fun us s1 ⟨vs, H1, I1, r1, q1⟩ => ?_) hs rfl))
  obtain ⟨a, xs, ex, q1⟩ := q1
  subst ex
  cases r1 with
  | cons r rr =>
    cases rr
    cases r
    have fin : ∀ {b : Addr}, b ∈ [s1.heap.objs.size + 1, s1.heap.objs.size] → FpOk X pins H1 b := fun {b} hb => by
      have e' : b = s1.heap.objs.size + 1 ∨ b = s1.heap.objs.size := by simpa using hb
      have hle : s1.heap.objs.size ≤ b := by
        rcases e' with z | z
        · rw [z]; exact Nat.le_add_right _ _
        · rw [z]; exact Nat.le_refl _
      exact I1.fpOk hle (I1.hok.fresh hle)
    rcases q1 with ⟨hq, q⟩ | ⟨hq, q⟩
    · obtain ⟨its, rv, p', hz⟩ := I1.list hq
      refine call_enumerate_list p'.isList fun h' he hit hsz hk => wpAny_pyIter_enum he ?_
      have I2 : Inv X pins σ H1 { s1 with heap := h' } := I1.kept (t' := s1.toks) hk
      exact ⟨s1.heap.objs.size + 1, [s1.heap.objs.size + 1, s1.heap.objs.size], _, _, H1, rfl, I2, turn_enum a (s1.heap.objs.size + 1) s1.heap.objs.size, ⟨⟨.none, he⟩, hit, Nat.succ_ne_self _⟩, fun b hb => fin hb, q⟩
    · obtain ⟨its, rv, p', hz⟩ := I1.tuple hq
      have hlt : a < s1.heap.objs.size := by obtain ⟨o, q', _⟩ := p'; exact Heap.lt_size q'
      refine call_enumerate_tuple (show s1.heap.IsTuple a its.toArray from p') fun h' he hit hsz hk => wpAny_pyIter_enum he ?_
      have I2 : Inv X pins σ H1 { s1 with heap := h' } := I1.kept (t' := s1.toks) hk
      exact ⟨s1.heap.objs.size + 1, [s1.heap.objs.size + 1, s1.heap.objs.size], _, _, H1, rfl, I2, turn_enumT a (s1.heap.objs.size + 1) s1.heap.objs.size (Nat.ne_of_lt hlt) (Nat.ne_of_gt (Nat.lt_succ_of_lt hlt)), ⟨⟨.none, he⟩, hit, Nat.succ_ne_self _⟩, fun b hb => fin hb, q⟩
/-- a list, a tuple or a text, walked -/
def iSeq (K : PySem.W.Frag) (tl : TE) : TI := fun σ H R => tl σ H fun x H1 => (∃ a, x = .ref a ∧ (((∃ xs, SqL K H1 a xs) ∧ R (Itl K a) H1) ∨ ((∃ xs, SqT K H1 a xs) ∧ R (Itt K a) H1))) ∨ ∃ z, x = .str z ∧ R (Its z) H1
theorem pi_seq {X : Cx} {tg l : Expr} {tl : TE} (hl : PE X l tl) : PI X tg l (iSeq X.K tl) := by
  refine ⟨fun pins s σ H R I h => ?_⟩
  refine thn (hl.run pins s σ H _ I h) fun v s1 ⟨x, H1, I1, r1, q1⟩ => ?_
  rcases q1 with ⟨a, e, ⟨⟨xs, hq⟩, q⟩ | ⟨⟨xs, hq⟩, q⟩⟩ | ⟨z, e, q⟩
  · subst e
    cases r1
    obtain ⟨its, rv, p, hz⟩ := I1.list hq
    refine wpAny_pyIter_list p.isList ?_
    refine ⟨s1.heap.objs.size, [s1.heap.objs.size], _, _, H1, rfl, I1.kept (t' := s1.toks) fun b o e => Heap.get?_push_of_some _ e, turn_list a _, ⟨_, Heap.get?_push_size _ rfl, rfl, rfl⟩, fun b hb => ?_, q⟩
    have e : b = s1.heap.objs.size := by simpa using hb
    subst e
    exact I1.fpOk (Nat.le_refl _) (I1.hok.fresh (Nat.le_refl _))
  · subst e
    cases r1
    obtain ⟨its, rv, p, hz⟩ := I1.tuple hq
    refine wpAny_pyIter_tuple (show s1.heap.IsTuple a its.toArray from p) ?_
    refine ⟨s1.heap.objs.size, [s1.heap.objs.size], _, _, H1, rfl, I1.kept (t' := s1.toks) fun b o e => Heap.get?_push_of_some _ e, turn_tuple a _, ⟨_, Heap.get?_push_size _ rfl, rfl, rfl⟩, fun b hb => ?_, q⟩
    have e : b = s1.heap.objs.size := by simpa using hb
    subst e
    exact I1.fpOk (Nat.le_refl _) (I1.hok.fresh (Nat.le_refl _))
  · subst e
    obtain ⟨t, rfl⟩ := r1
    cases ha : z.cps.all (· < 128)
    · exact wpAny_pyIter_wide ha (pi_one (tk := s1.toks) I1 _ (turn_str _ z t "str_iterator" (.inr rfl)) ⟨_, Heap.get?_push_size _ rfl, rfl, rfl⟩ q)
    · exact wpAny_pyIter_ascii ha (pi_one (tk := s1.toks) I1 _ (turn_str _ z t "str_ascii_iterator" (.inl rfl)) ⟨_, Heap.get?_push_size _ rfl, rfl, rfl⟩ q)
end N1
end
section
namespace N1
open PySem PySem.Spec PyProof.Rows L2
def wipeE (env : Env) : List Nat → Env
  | [] => env
  | v :: vs => (wipeE env vs).set v none
abbrev MG := D → Env → Option Env
abbrev MGs := List D → Env → Option Env
def Wp (sl : List Nat) (env env' : Env) (σ σ' : L2.St) : Prop := ∀ vs : List Nat, (∀ i ∈ sl, i ∈ vs) → wipe σ' vs = wipe σ vs ∧ wipeE env' vs = wipeE env vs
def tG (K : PySem.W.Frag) (sl : List Nat) (m : MG) : TG := fun v σ H Q => ∃ (env : Env) (S : Sto) (tp : Env) (tv : List (Option V)) (d : D) (env' : Env), Rel K S env σ (some d :: tp) (some v :: tv) H ∧ m d env = some env' ∧
  ∀ σ', Rel K S env' σ' tp tv H → Wp sl env env' σ σ' → Q σ' H
def tGs (K : PySem.W.Frag) (sl : List Nat) (m : MGs) : TGs := fun vs σ H Q => ∃ (env : Env) (S : Sto) (tp : Env) (tv : List (Option V)) (ds : List D) (env' : Env), ds.length = vs.length ∧ Rel K S env σ (ds.map some ++ tp) (vs.map some ++ tv) H ∧ m ds env = some env' ∧
  ∀ σ', Rel K S env' σ' tp tv H → Wp sl env env' σ σ' → Q σ' H
abbrev SG (X : Cx) (e : Expr) (sl : List Nat) (m : MG) : Prop := PG X e (tG X.K sl m)
abbrev SGs (X : Cx) (es : List Expr) (sl : List Nat) (m : MGs) : Prop := PGs X es (tGs X.K sl m)
def gVar (i : Nat) : MG := fun d env => if i < env.length then some (env.set i (some d)) else none
def gsNil : MGs := fun ds env => match ds with
  | [] => some env
  | _ => none
def gsCons (g : MG) (gs : MGs) : MGs := fun ds env => match ds with
  | d :: ds => match g d env with
    | some env1 => gs ds env1
    | none => none
  | [] => none
def gTupM (n : Nat) (gs : MGs) : MG := fun d env => match d with
  | .tup ds => if ds.length = n then gs ds env else none
  | _ => none
theorem set_wipe {a : Type} (f : List (Option a) → List Nat → List (Option a)) (h0 : ∀ l, f l [] = l) (h1 : ∀ l v vs, f l (v :: vs) = (f l vs).set v none) : ∀ (vs : List Nat) (l : List (Option a)) (i : Nat) (x : Option a), i ∈ vs → f (l.set i x) vs = f l vs
  | [], _, _, _, h => nomatch h
  | v :: vs, l, i, x, h => by
    rw [h1, h1]
    by_cases e : i = v
    · subst e
      by_cases hm : i ∈ vs
      · rw [set_wipe f h0 h1 vs l i x hm]
      · -- the place is set once more
        have go : ∀ (ws : List Nat), i ∉ ws → f (l.set i x) ws = (f l ws).set i x := by
          intro ws
          induction ws with
          | nil => intro _; rw [h0, h0]
          | cons w ws ih =>
            intro hw
            have hw' : i ≠ w ∧ i ∉ ws := by simpa using hw
            rw [h1, h1, ih hw'.2, List.set_comm _ _ hw'.1]
        rw [go vs hm, List.set_set]
    · have hm : i ∈ vs := by
        rcases List.mem_cons.mp h with z | z
        · exact absurd z e
        · exact z
      rw [set_wipe f h0 h1 vs l i x hm]
theorem Wp.set {env : Env} {σ : L2.St} (i : Nat) (x : Option D) (y : Option V) : Wp [i] env (env.set i x) σ (σ.set i y) := fun vs h =>
  ⟨set_wipe wipe (fun _ => rfl) (fun _ _ _ => rfl) vs σ i y (h i (by simp)), set_wipe wipeE (fun _ => rfl) (fun _ _ _ => rfl) vs env i x (h i (by simp))⟩
theorem Wp.refl {env : Env} {σ : L2.St} (sl : List Nat) : Wp sl env env σ σ := fun _ _ => ⟨rfl, rfl⟩
theorem Wp.trans {sl sl' : List Nat} {e1 e2 e3 : Env} {s1 s2 s3 : L2.St} (h : Wp sl e1 e2 s1 s2) (h' : Wp sl' e2 e3 s2 s3) : Wp (sl ++ sl') e1 e3 s1 s3 := fun vs hv => by
  obtain ⟨a, b⟩ := h vs fun i hi => hv i (List.mem_append_left _ hi)
  obtain ⟨c, d⟩ := h' vs fun i hi => hv i (List.mem_append_right _ hi)
  exact ⟨c.trans a, d.trans b⟩
section
variable {K : PySem.W.Frag} {S : List (Option D)} {env : Env} {σ : L2.St} {tp : Env} {tv : List (Option V)} {H : Hp} {d : D} {v : V}
/-- a tuple that is held, as its items -/
theorem RelO.untup {ds : List D} (h : RelO K S env σ (some (.tup ds) :: tp) (some v :: tv) H) : ∃ a xs, v = .ref a ∧ SqT K H a xs ∧ ds.length = xs.length ∧ RelO K S env σ (ds.map some ++ tp) (xs.map some ++ tv) H := by
  obtain ⟨F, mu, oS, oE, oT, h1, h2, h3, h4⟩ := h
  obtain ⟨x, p1, p2, ev, eo, hc, h3'⟩ := h3.cons_inv
  injection ev with ev
  subst ev; subst eo
  unfold Rp at hc
  obtain ⟨a, xs, e, hs, r⟩ := hc
  exact ⟨a, xs, e, .inl (.inl hs), r.len, F, mu, oS, oE, p1 ++ p2, h1, h2, RpO.app (RpO.of_all r) h3', h4⟩
/-- several held values are forgotten -/
theorem RelO.popX {pd : Env} {pv : List (Option V)} (l : pd.length = pv.length) (h : RelO K S env σ (pd ++ tp) (pv ++ tv) H) : RelO K S env σ tp tv H := by
  obtain ⟨F, mu, oS, oE, oT, h1, h2, h3, h4⟩ := h
  obtain ⟨p1, p2, eo, ha, h3'⟩ := RpO.split l h3
  subst eo
  refine ⟨F, mu, oS, oE, p2, h1, h2, h3', h4.sub ?_ ?_⟩
  · exact h4.nd.sublist ((List.Sublist.refl _).append ((List.Sublist.refl _).append (List.sublist_append_right _ _)))
  · intro a ha
    simp only [List.mem_append] at ha ⊢
    rcases ha with z | z | z <;> simp [z]
theorem RelO.popM {pd : Env} {pv : List (Option V)} (l : pd.length = pv.length) (h : RelO K S env σ (some d :: (pd ++ tp)) (some v :: (pv ++ tv)) H) : RelO K S env σ (some d :: tp) (some v :: tv) H :=
  RelO.popX l (RelO.swap (as := [some d]) (xs := [some v]) rfl l h)
/-- a slot is forgotten, whatever stands there -/
theorem RelO.unset (i : Nat) (w : Option V) (h : RelO K S env σ tp tv H) : RelO K S (env.set i none) (σ.set i w) tp tv H := by
  obtain ⟨F, mu, oS, oE, oT, h1, h2, h3, h4⟩ := h
  obtain ⟨o', h2', o1, o2, o3, e1, e2⟩ := RpO.unset i w h2
  subst e1; subst e2
  refine ⟨F, mu, oS, _, oT, h1, h2', h3, h4.sub ?_ ?_⟩
  · refine h4.nd.sublist ((List.Sublist.refl _).append (List.Sublist.append ?_ (List.Sublist.refl _)))
    rw [List.append_assoc]
    exact (List.Sublist.refl _).append (List.sublist_append_right _ _)
  · intro a ha
    simp only [List.mem_append] at ha ⊢
    rcases ha with z | (z | z) | z <;> simp [z]
theorem RelO.wipe (vs : List Nat) (h : RelO K S env σ tp tv H) : RelO K S (wipeE env vs) (L2.wipe σ vs) tp tv H := by
  induction vs with
  | nil => exact h
  | cons v vs ih => exact RelO.unset v none ih
theorem RpO.resig {F : Addr → Prop} {mu : List Addr} : ∀ {env : Env} {σ σ' : L2.St} {o : List Addr}, σ'.length = σ.length → (∀ i : Nat, i < env.length → env[i]? = some none ∨ σ'[i]? = σ[i]?) → RpO K F mu H env σ o → RpO K F mu H env σ' o
  | [], σ, σ', o, l, _, h => by
    unfold RpO at h ⊢
    refine ⟨?_, h.2⟩
    rw [h.1] at l
    exact List.length_eq_zero_iff.mp l
  | none :: env, σ, σ', o, l, k, h => by
    unfold RpO at h ⊢
    obtain ⟨w, vs', e, h⟩ := h
    subst e
    cases σ' with
    | nil => simp at l
    | cons w' σ' => exact ⟨w', σ', rfl, RpO.resig (by simpa using l) (fun i hi => by simpa using k (i + 1) (by simpa using hi)) h⟩
  | some c :: env, σ, σ', o, l, k, h => by
    unfold RpO at h ⊢
    obtain ⟨w, vs', o1, o2, e, eo, hc, h⟩ := h
    subst e
    cases σ' with
    | nil => simp at l
    | cons w' σ' =>
      have e0 : w' = some w := by
        have := k 0 (by simp)
        simpa using this
      subst e0
      exact ⟨w, σ', o1, o2, rfl, eo, hc, RpO.resig (by simpa using l) (fun i hi => by simpa using k (i + 1) (by simpa using hi)) h⟩
theorem RelO.resig {σ' : L2.St} (l : σ'.length = σ.length) (k : ∀ i : Nat, i < env.length → env[i]? = some none ∨ σ'[i]? = σ[i]?) (h : RelO K S env σ tp tv H) : RelO K S env σ' tp tv H := by
  obtain ⟨F, mu, oS, oE, oT, h1, h2, h3, h4⟩ := h
  exact ⟨F, mu, oS, oE, oT, h1, RpO.resig l k h2, h3, h4⟩
/-- a list that is held takes an item -/
theorem RelO.app {ds : List D} {w : V} (h : RelO K S env σ (some d :: some (.lst true ds) :: tp) (some v :: some w :: tv) H) : ∃ a xs, w = .ref a ∧ H a = some (.lst xs) ∧ ds.length = xs.length ∧
    RelO K S env σ (some (.lst true (ds ++ [d])) :: tp) (some w :: tv) (upd H a (.lst (xs ++ [v]))) := by
  obtain ⟨F, mu, oS, oE, oT, h1, h2, h3, h4⟩ := h
  obtain ⟨x, p1, p2, ev, eo, hc, h3'⟩ := h3.cons_inv
  obtain ⟨y, q1, q2, ew, eo', hc', h3''⟩ := h3'.cons_inv
  injection ev with ev
  injection ew with ew
  subst ev; subst ew; subst eo'; subst eo
  unfold Rp at hc'
  obtain ⟨a, xs, o', e, r, q⟩ := hc'
  have q' : H a = some (.lst xs) ∧ q1 = a :: o' := by
    rcases q with ⟨_, q, e2⟩ | ⟨e1, _⟩
    · exact ⟨q, e2⟩
    · cases e1
  obtain ⟨qa, e2⟩ := q'
  subst e2
  refine ⟨a, xs, e, qa, r.len, ?_⟩
  have ha : a ∈ oS ++ (oE ++ (p1 ++ (a :: o' ++ q2))) := by simp
  have m : Mv F F mu mu H (upd H a (.lst (xs ++ [v]))) (fun b => b = a) := mv_put h4 ha
  have nd := h4.nd
  have na : ∀ b ∈ oS ++ (oE ++ (p1 ++ (o' ++ q2))), ¬ b = a := fun b hb e => by
    subst e
    have nd' : (b :: (oS ++ (oE ++ (p1 ++ (o' ++ q2))))).Nodup := ((show (oS ++ (oE ++ (p1 ++ ([b] ++ (o' ++ q2))))).Perm ([b] ++ (oS ++ (oE ++ (p1 ++ (o' ++ q2))))) from
      (((perm2 p1 [b] (o' ++ q2)).append_left oE).append_left oS).trans (perm3 oE [b] oS (p1 ++ (o' ++ q2)))).nodup_iff).mp (by simpa using nd)
    exact (List.nodup_cons.mp nd').1 hb
  refine ⟨F, mu, oS, oE, (a :: (o' ++ p1)) ++ q2, h1.mv m _ _ _ (fun b z => na b (by simp [z])), h2.mv m _ _ _ (fun b z => na b (by simp [z])), RpO.cons_mk ?_ (h3''.mv m _ _ _ (fun b z => na b (by simp [z]))), (h4.put (u := .lst (xs ++ [v])) ha trivial).perm ?_⟩
  · unfold Rp
    refine ⟨a, xs ++ [v], o' ++ p1, e, ?_, .inl ⟨rfl, upd_same, rfl⟩⟩
    have := Rps.app (r.mv m _ _ _ (fun b z => na b (by simp [z]))) (Rps.cons_mk (hc.mv m _ _ _ (fun b z => na b (by simp [z]))) Rps.nil_mk)
    simpa using this
  · show (oS ++ (oE ++ (a :: (o' ++ p1) ++ q2))).Perm _
    refine List.Perm.append_left oS (List.Perm.append_left oE ?_)
    have := perm2 ([a] ++ o') p1 q2
    simpa using this
end
section
variable {X : Cx} {pos : Pos}
theorem sg_var {i : Nat} {x : Str} (hN : X.N.Nodup) (hi : X.N[i]? = some x := by rfl) (hx : Loc X.env.scope x := by first | exact Or.inl rfl | exact Or.inr rfl)
    (hf : X.fn x = true ∨ X.env.scope.names.lookup x = some .local := by first | exact .inl rfl | exact .inr rfl | assumption) : SG X (.Name x pos) [i] (gVar i) := by
  refine ⟨fun pins s σ H v u Q I r h => (pg_name hN hi hx hf).run pins s σ H v u Q I r ?_⟩
  obtain ⟨env, S, tp, tv, d, env', rl, e, q⟩ := h
  unfold gVar at e
  split at e
  · rename_i hl
    cases e
    exact q _ (rl.set hl) (Wp.set i (some d) (some v))
  · cases e
theorem sgs_nil : SGs X [] [] gsNil := by
  refine ⟨fun pins s σ H vs us Q I r h => pgs_nil.run pins s σ H vs us Q I r ?_⟩
  obtain ⟨env, S, tp, tv, ds, env', l, rl, e, q⟩ := h
  unfold gsNil at e
  cases ds with
  | nil =>
    cases e
    cases vs with
    | nil => exact ⟨rfl, q σ rl (Wp.refl _)⟩
    | cons _ _ => simp at l
  | cons _ _ => cases e
theorem sgs_cons {e : Expr} {es : List Expr} {sl sls : List Nat} {m : MG} {ms : MGs} (h1 : SG X e sl m) (h2 : SGs X es sls ms) (hs : (assignEach (e :: es) X.env).map (·.2) = assign e X.env :: (assignEach es X.env).map (·.2) := by rfl) : SGs X (e :: es) (sl ++ sls) (gsCons m ms) := by
  refine ⟨fun pins s σ H vs us Q I r h => (pgs_cons h1 h2 hs).run pins s σ H vs us Q I r ?_⟩
  obtain ⟨env, S, tp, tv, ds, env', l, rl, e, q⟩ := h
  unfold gsCons at e
  cases ds with
  | nil => cases e
  | cons d ds =>
    cases vs with
    | nil => simp at l
    | cons v vs =>
      simp only at e
      cases z : m d env with
      | none => rw [z] at e; cases e
      | some env1 =>
        rw [z] at e
        refine ⟨v, vs, rfl, env, S, ds.map some ++ tp, vs.map some ++ tv, d, env1, rl, z, fun σ1 r1 w1 => ?_⟩
        exact ⟨env1, S, tp, tv, ds, env', by simpa using l, r1, e, fun σ2 r2 w2 => q σ2 r2 (w1.trans w2)⟩
theorem sg_tup {es : List Expr} {k : Nat} {sl : List Nat} {m : MGs} {n : Nat} (hc : X.calm = true) (h : SGs X es sl m) (hn : (assignEach es X.env).length = n := by rfl) (hst : (assignEach es X.env).findIdx? (·.1) = none := by rfl) : SG X (.Tuple es k pos) sl (gTupM n m) := by
  refine ⟨fun pins s σ H v u Q I r hw => (pg_tup hc h hn hst).run pins s σ H v u Q I r ?_⟩
  obtain ⟨env, S, tp, tv, d, env', rl, e, q⟩ := hw
  unfold gTupM at e
  cases d with
  | tup ds =>
    simp only at e
    split at e
    · rename_i hl
      obtain ⟨a, xs, e1, hs, l, r1⟩ := RelO.untup rl
      exact ⟨a, xs, e1, hs, by rw [← l]; exact hl, env, S, tp, tv, ds, env', l, r1, e, q⟩
    · cases e
  | _ => cases e
/-- a target takes a value -/
def sAsg (me : ME) (g : MG) : MS := fun env S => (me env S).bind fun d S1 => match g d env with
  | some env' => .ok (.nx env') S1
  | none => .bad
theorem s_asg {tg e : Expr} {me : ME} {sl : List Nat} {g : MG} (he : SE X e me) (hg : SG X tg sl g) (hs : swapsWithSole [tg] e pos.line X.env = pure false := by rfl) (hw : swappedStores [tg] e X.env = pure none := by rfl)
    (h1 : (assignEach [tg] X.env).map (·.2) = [assign tg X.env] := by rfl) : SS X (.Assign [tg] e pos) (sAsg me g) := by
  refine ps_imp (ps_asg he hg hs hw h1) ?_
  rintro D σ H ⟨env, S, tp, tv, h, q⟩
  refine ⟨env, S, tp, tv, h, ?_⟩
  unfold sAsg at q
  cases z1 : me env S with
  | bad => rw [z1] at q; exact q.elim
  | exn _ _ => rw [z1] at q; first | exact q | exact PostX.pop q | exact PostX.pop (PostX.pop q) | exact PostX.popA (by assumption) q | exact PostXS.toX q | exact PostX.pop (PostXS.toX q) | exact PostX.popA (by assumption) (PostXS.toX q) | exact PostXS.pop q | exact False.elim q
  | ok d S1 =>
    rw [z1] at q
    intro v H1 r1
    simp only [R.bind] at q
    cases z2 : g d env with
    | none => rw [z2] at q; exact q.elim
    | some env' =>
      rw [z2] at q
      exact ⟨env, S1, tp, tv, d, env', r1, z2, fun σ' r' _ => q σ' H1 r'⟩
/-- a, b = x, y -/
def sPar (i j : Nat) (ma : MA) : MS := fun env S => (ma env S).bind fun ds S1 => match ds with
  | [a, b] => if i < env.length ∧ j < env.length then .ok (.nx ((env.set i (some a)).set j (some b))) S1 else .bad
  | _ => .bad
theorem s_par {i j : Nat} {x y : Str} {a b : Expr} {ma : MA} {px py pt : Pos} {kt k2 pt2} (hc : X.calm = true) (hN : X.N.Nodup) (ha : SA X [a, b] ma) (hij : i ≠ j := by decide) (hi : X.N[i]? = some x := by rfl) (hj : X.N[j]? = some y := by rfl)
    (hx : X.env.scope.names.lookup x = some .local := by rfl) (hy : X.env.scope.names.lookup y = some .local := by rfl)
    (hw : swappedStores [.Tuple [.Name x px, .Name y py] kt pt] (.Tuple [a, b] k2 pt2) X.env = pure (some [x, y]) := by rfl)
    (hs : swapsWithSole [.Tuple [.Name x px, .Name y py] kt pt] (.Tuple [a, b] k2 pt2) pos.line X.env = pure false := by rfl) :
    SS X (.Assign [.Tuple [.Name x px, .Name y py] kt pt] (.Tuple [a, b] k2 pt2) pos) (sPar i j ma) := by
  refine ps_imp (ps_par hc hN hi hj hij hx hy ha hw hs) ?_
  rintro D σ H ⟨env, S, tp, tv, h, q⟩
  refine ⟨env, S, tp, tv, h, ?_⟩
  unfold sPar at q
  cases z1 : ma env S with
  | bad => rw [z1] at q; exact q.elim
  | exn _ _ => rw [z1] at q; first | exact q | exact PostX.pop q | exact PostX.pop (PostX.pop q) | exact PostX.popA (by assumption) q | exact PostXS.toX q | exact PostX.pop (PostXS.toX q) | exact PostX.popA (by assumption) (PostXS.toX q) | exact PostXS.pop q | exact False.elim q
  | ok ds S1 =>
    rw [z1] at q
    intro vs H1 l r1
    simp only [R.bind] at q
    match ds, vs, l, r1, q with
    | [c, d], [v, w], _, r1, q =>
      simp only at q
      by_cases hh : i < env.length ∧ j < env.length
      · rw [if_pos hh] at q
        refine ⟨v, w, rfl, q _ H1 ?_⟩
        have r2 := RelO.set hh.1 r1
        exact RelO.set (by rw [List.length_set]; exact hh.2) r2
      · rw [if_neg hh] at q
        exact q.elim
    | [], _, _, _, q => exact q.elim
    | [_], _, _, _, q => exact q.elim
    | _ :: _ :: _ :: _, _, _, _, q => exact q.elim
end
end N1
end
section
namespace N1
open PySem PySem.Spec PyProof.Rows L2
structure IterOk (K : PySem.W.Frag) (J : It) (items : List D) (pd : Env) (pv : List (Option V)) : Prop where
  len : pd.length = pv.length
  go : ∀ (S : Sto) (env : Env) (σ : L2.St) (tp : Env) (tv : List (Option V)) (H : Hp) (i : Nat) (d : D), Rel K S env σ (pd ++ tp) (pv ++ tv) H → items[i]? = some d →
    J.go i H ∧ ∀ x H', J.yld i H x H' → Rel K S env σ (some d :: (pd ++ tp)) (some x :: (pv ++ tv)) H'
  stop : ∀ (S : Sto) (env : Env) (σ : L2.St) (tp : Env) (tv : List (Option V)) (H : Hp) (i : Nat), Rel K S env σ (pd ++ tp) (pv ++ tv) H → items.length ≤ i → J.stop i H
abbrev MI := Env → Sto → R (List D)
def PostI (K : KT) (env : Env) (σ : L2.St) (tp : Env) (tv : List (Option V)) (Q : It → Hp → Prop) : R (List D) → Prop
  | .ok items S' => ∀ J pd pv H', IterOk K J items pd pv → Rel K S' env σ (pd ++ tp) (pv ++ tv) H' → Q J H'
  | .exn e S' => PostX K env σ tp tv e S'
  | .bad => False
def tI (K : KT) (m : MI) : TI := fun σ H Q => ∃ (env : Env) (S : Sto) (tp : Env) (tv : List (Option V)), Rel K S env σ tp tv H ∧ PostI K env σ tp tv Q (m env S)
abbrev SI (X : Cx) (tg iter : Expr) (m : MI) : Prop := PI X tg iter (tI (kt X) m)
theorem pi_imp {X : Cx} {tg iter : Expr} {t t' : TI} (h : PI X tg iter t) (k : ∀ σ H Q, t' σ H Q → t σ H Q) : PI X tg iter t' := ⟨fun pins s σ H Q I hq => h.run pins s σ H Q I (k σ H Q hq)⟩
/-- a list, a tuple (that stand still), the signs of a text -/
def seqOf : D → Option (List D)
  | .lst false ds => if isFs ds = true then some ds else none
  | .tup ds => if isFs ds = true then some ds else none
  | .str z => some (z.cps.toList.map fun c => .str ⟨#[c]⟩)
  | _ => none
def iSeqM (m : ME) : MI := fun env S => (m env S).bind fun d S1 => match seqOf d with
  | some ds => .ok ds S1
  | none => .bad
theorem isFs_at {ds : List D} (h : isFs ds = true) {i : Nat} {d : D} (e : ds[i]? = some d) : d.isF = true := by
  rw [isFs_all] at h
  exact List.all_eq_true.mp h d (List.mem_of_getElem? e)
theorem iterOk_list {K : PySem.W.Frag} {ds : List D} {a : Addr} (hf : isFs ds = true) : IterOk K (Itl K a) ds [some (.lst false ds)] [some (.ref a)] where
  len := rfl
  go := fun S env σ tp tv H i d r e => by
    obtain ⟨a', xs, e1, hs, _, l, it⟩ := (View.top r).lst
    cases e1
    obtain ⟨x, h1, h2⟩ := it i d e
    refine ⟨⟨xs, x, hs, h1⟩, fun y H' ⟨e2, h3⟩ => ?_⟩
    subst e2
    have e3 := h3 xs hs
    rw [h1] at e3
    cases e3
    exact h2.push (isFs_at hf e)
  stop := fun S env σ tp tv H i r hi => by
    obtain ⟨a', xs, e1, hs, _, l, it⟩ := (View.top r).lst
    cases e1
    exact ⟨xs, hs, by omega⟩
theorem iterOk_tup {K : PySem.W.Frag} {ds : List D} {a : Addr} (hf : isFs ds = true) : IterOk K (Itt K a) ds [some (.tup ds)] [some (.ref a)] where
  len := rfl
  go := fun S env σ tp tv H i d r e => by
    obtain ⟨a', xs, e1, hs, l, it⟩ := (View.top r).tup
    cases e1
    obtain ⟨x, h1, h2⟩ := it i d e
    refine ⟨⟨xs, x, hs, h1⟩, fun y H' ⟨e2, h3⟩ => ?_⟩
    subst e2
    have e3 := h3 xs hs
    rw [h1] at e3
    cases e3
    exact h2.push (isFs_at hf e)
  stop := fun S env σ tp tv H i r hi => by
    obtain ⟨a', xs, e1, hs, l, it⟩ := (View.top r).tup
    cases e1
    exact ⟨xs, hs, by omega⟩
theorem iterOk_str {K : PySem.W.Frag} {z : Str} : IterOk K (Its z) (z.cps.toList.map fun c => .str ⟨#[c]⟩) [] [] where
  len := rfl
  go := fun S env σ tp tv H i d r e => by
    rw [List.getElem?_map] at e
    cases h : z.cps.toList[i]? with
    | none => rw [h] at e; cases e
    | some c =>
      rw [h] at e
      cases e
      have hi : i < z.cps.size := by
        have := (List.getElem?_eq_some_iff.mp h).1
        simpa using this
      refine ⟨hi, fun y H' ⟨e2, c', h1, h2⟩ => ?_⟩
      subst e2
      have : c' = c := by
        have h3 : z.cps.toList[i]? = some c' := by simpa using h1
        rw [h] at h3
        exact (Option.some.inj h3).symm
      subst this
      subst h2
      exact RelO.sc r rfl
  stop := fun S env σ tp tv H i r hi => by
    show z.cps.size ≤ i
    simpa using hi
theorem iterOk_rng {K : PySem.W.Frag} {lo : Int} {n : Nat} : IterOk K (Itr lo n) ((List.range n).map fun i => .int (lo + (i : Nat))) [] [] where
  len := rfl
  go := fun S env σ tp tv H i d r e => by
    rw [List.getElem?_map] at e
    by_cases hi : i < n
    · rw [List.getElem?_range hi] at e
      cases e
      refine ⟨hi, fun y H' ⟨e2, e3⟩ => ?_⟩
      subst e2
      subst e3
      exact RelO.sc r rfl
    · rw [List.getElem?_eq_none (by simpa using hi)] at e
      cases e
  stop := fun S env σ tp tv H i r hi => by
    show n ≤ i
    simpa using hi
/-- pairs (i, item) of a list, a tuple -/
def enumD (ds : List D) : List D := ds.zipIdx.map fun p => .tup [.int (p.2 : Nat), p.1]
theorem enumD_at {ds : List D} {i : Nat} {d : D} (e : (enumD ds)[i]? = some d) : ∃ c, ds[i]? = some c ∧ d = .tup [.int (i : Nat), c] := by
  unfold enumD at e
  rw [List.getElem?_map, List.getElem?_zipIdx] at e
  cases h : ds[i]? with
  | none => rw [h] at e; cases e
  | some c => rw [h] at e; cases e; exact ⟨c, rfl, by simp⟩
theorem enumD_len (ds : List D) : (enumD ds).length = ds.length := by unfold enumD; simp
theorem pair_new {K : PySem.W.Frag} {S : Sto} {env : Env} {σ : L2.St} {tp : Env} {tv : List (Option V)} {H : Hp} {T : Addr} {a b : D} {x y : V} (r : Rel K S env σ (some b :: tp) (some y :: tv) H) (ha : a.sc = some x) (hT : H T = none) :
    Rel K S env σ (some (.tup [a, b]) :: tp) (some (.ref T) :: tv) (upd H T (.tup [x, y])) :=
  RelO.mkTup (ds := [a, b]) (vs := [x, y]) rfl (RelO.sc r ha) hT
theorem iterOk_enumL {K : PySem.W.Frag} {ds : List D} {a : Addr} (hf : isFs ds = true) : IterOk K (Ite K a) (enumD ds) [some (.lst false ds)] [some (.ref a)] where
  len := rfl
  go := fun S env σ tp tv H i d r e => by
    obtain ⟨c, e0, e1⟩ := enumD_at e
    subst e1
    obtain ⟨a', xs, e1, hs, _, l, it⟩ := (View.top r).lst
    cases e1
    obtain ⟨x, h1, h2⟩ := it i c e0
    refine ⟨⟨xs, x, hs, h1⟩, fun y H' ⟨T, x', e2, hT, e3, h3⟩ => ?_⟩
    have e4 := h3 xs hs
    rw [h1] at e4
    cases e4
    subst e2; subst e3
    exact pair_new (h2.push (isFs_at hf e0)) rfl hT
  stop := fun S env σ tp tv H i r hi => by
    obtain ⟨a', xs, e1, hs, _, l, it⟩ := (View.top r).lst
    cases e1
    rw [enumD_len] at hi
    exact ⟨xs, hs, by omega⟩
theorem iterOk_enumT {K : PySem.W.Frag} {ds : List D} {a : Addr} (hf : isFs ds = true) : IterOk K (IteT K a) (enumD ds) [some (.tup ds)] [some (.ref a)] where
  len := rfl
  go := fun S env σ tp tv H i d r e => by
    obtain ⟨c, e0, e1⟩ := enumD_at e
    subst e1
    obtain ⟨a', xs, e1, hs, l, it⟩ := (View.top r).tup
    cases e1
    obtain ⟨x, h1, h2⟩ := it i c e0
    refine ⟨⟨xs, x, hs, h1⟩, fun y H' ⟨T, x', e2, hT, e3, h3⟩ => ?_⟩
    have e4 := h3 xs hs
    rw [h1] at e4
    cases e4
    subst e2; subst e3
    exact pair_new (h2.push (isFs_at hf e0)) rfl hT
  stop := fun S env σ tp tv H i r hi => by
    obtain ⟨a', xs, e1, hs, l, it⟩ := (View.top r).tup
    cases e1
    rw [enumD_len] at hi
    exact ⟨xs, hs, by omega⟩
def zipD (as bs : List D) : List D := (as.zip bs).map fun p => .tup [p.1, p.2]
theorem View.tmp {K : PySem.W.Frag} {S : Sto} {env : Env} {σ : L2.St} {tp : Env} {tv : List (Option V)} {H : Hp} {d : D} {k : Nat} (h : Rel K S env σ tp tv H) (e : tp[k]? = some (some d)) : ∃ v, tv[k]? = some (some v) ∧ View K S env σ tp tv H d v := by
  obtain ⟨F, mu, oS, oE, oT, h⟩ := h
  obtain ⟨v, q, e1, r, s⟩ := RpO.at_ h.2.2.1 e
  exact ⟨v, e1, F, mu, oS, oE, oT, q, h, r, fun a z => by simp [s a z]⟩
/-- the pairs that enumerate, zip yield -/
def enumOf : List D → Option (List D)
  | [.lst false ds] => if isFs ds = true then some (enumD ds) else none
  | [.tup ds] => if isFs ds = true then some (enumD ds) else none
  | _ => none
def zipOf : List D → Option (List D)
  | [.lst false ds, .lst false es] => if isFs ds = true ∧ isFs es = true then some (zipD ds es) else none
  | [.tup ds, .tup es] => if isFs ds = true ∧ isFs es = true then some (zipD ds es) else none
  | _ => none
def rngOf1 : List D → Option (List D)
  | [.int n] => if -(2 ^ 62) ≤ n ∧ n < 2 ^ 62 then some ((List.range n.toNat).map fun i => .int (0 + (i : Nat))) else none
  | _ => none
def rngOf2 : List D → Option (List D)
  | [.int lo, .int hi] => if -(2 ^ 62) ≤ lo ∧ lo < 2 ^ 62 ∧ -(2 ^ 62) ≤ hi ∧ hi < 2 ^ 62 then some ((List.range (hi - lo).toNat).map fun i => .int (lo + (i : Nat))) else none
  | _ => none
theorem len1 {vs : List V} (l : 1 = vs.length) : ∃ v, vs = [v] := by
  cases vs with
  | nil => simp at l
  | cons v vs =>
    cases vs with
    | nil => exact ⟨v, rfl⟩
    | cons _ _ => simp at l
theorem len2 {vs : List V} (l : 2 = vs.length) : ∃ v w, vs = [v, w] := by
  cases vs with
  | nil => simp at l
  | cons v vs =>
    obtain ⟨w, e⟩ := len1 (vs := vs) (by simp at l; omega)
    exact ⟨v, w, by rw [e]⟩
def iArgs (f : List D → Option (List D)) (ma : MA) : MI := fun env S => (ma env S).bind fun ds S1 => match f ds with
  | some items => .ok items S1
  | none => .bad
theorem tI_args {K : KT} {f : List D → Option (List D)} {ma : MA} {r : List V → Hp → (It → Hp → Prop) → Prop}
    (h : ∀ (S : Sto) (env : Env) (σ : L2.St) (tp : Env) (tv : List (Option V)) (H : Hp) (ds items : List D) (vs : List V) (Q : It → Hp → Prop), ds.length = vs.length → Rel K S env σ (ds.map some ++ tp) (vs.map some ++ tv) H → f ds = some items →
      (∀ J pd pv, IterOk K J items pd pv → Rel K S env σ (pd ++ tp) (pv ++ tv) H → Q J H) → r vs H Q) : ∀ σ H Q, tI K (iArgs f ma) σ H Q → tMA K ma σ H (fun vs H1 => r vs H1 Q) := by
  rintro σ H Q ⟨env, S, tp, tv, rl, q⟩
  refine ⟨env, S, tp, tv, rl, ?_⟩
  unfold iArgs at q
  cases z : ma env S with
  | bad => rw [z] at q; exact q.elim
  | exn _ _ => rw [z] at q; first | exact q | exact PostX.pop q | exact PostX.pop (PostX.pop q) | exact PostX.popA (by assumption) q | exact PostXS.toX q | exact PostX.pop (PostXS.toX q) | exact PostX.popA (by assumption) (PostXS.toX q) | exact PostXS.pop q | exact False.elim q
  | ok ds S1 =>
    rw [z] at q
    simp only [R.bind] at q
    intro vs H1 l r1
    cases z2 : f ds with
    | none => rw [z2] at q; exact q.elim
    | some items =>
      rw [z2] at q
      exact h S1 env σ tp tv H1 ds items vs Q l r1 z2 fun J pd pv hi hr => q J pd pv H1 hi hr
section
variable {X : Cx} {tg e a b : Expr} {p pos tpos : Pos} {m : ME} {ma : MA}
theorem si_seq (h : SE X e m) : SI X tg e (iSeqM m) := by
  refine pi_imp (pi_seq h) ?_
  rintro σ H Q ⟨env, S, tp, tv, rl, q⟩
  refine ⟨env, S, tp, tv, rl, ?_⟩
  unfold iSeqM at q
  cases z : m env S with
  | bad => rw [z] at q; exact q.elim
  | exn _ _ => rw [z] at q; first | exact q | exact PostX.pop q | exact PostX.pop (PostX.pop q) | exact PostX.popA (by assumption) q | exact PostXS.toX q | exact PostX.pop (PostXS.toX q) | exact PostX.popA (by assumption) (PostXS.toX q) | exact PostXS.pop q | exact False.elim q
  | ok d S1 =>
    rw [z] at q
    simp only [R.bind] at q
    intro v H1 r1
    cases z2 : seqOf d with
    | none => rw [z2] at q; exact q.elim
    | some items =>
      rw [z2] at q
      have q : ∀ J pd pv H', IterOk X.K J items pd pv → Rel X.K S1 env σ (pd ++ tp) (pv ++ tv) H' → Q J H' := q
      unfold seqOf at z2
      split at z2
      · rename_i ds
        split at z2
        · rename_i hf
          cases z2
          obtain ⟨a, xs, e1, hs, _, _⟩ := (View.top r1).lst
          subst e1
          exact .inl ⟨a, rfl, .inl ⟨⟨xs, hs⟩, q _ _ _ H1 (iterOk_list hf) r1⟩⟩
        · cases z2
      · rename_i ds
        split at z2
        · rename_i hf
          cases z2
          obtain ⟨a, xs, e1, hs, _⟩ := (View.top r1).tup
          subst e1
          exact .inl ⟨a, rfl, .inr ⟨⟨xs, hs⟩, q _ _ _ H1 (iterOk_tup hf) r1⟩⟩
        · cases z2
      · rename_i zz
        cases z2
        exact .inr ⟨zz, (View.top r1).sc_inv rfl, q _ [] [] H1 iterOk_str r1.pop⟩
      · cases z2
theorem si_range1 (hm : X.mg "range" = none) (h : SA X [a] ma) (hg : Gl X "range" := by rfl) (hs : starEach [a] X.env = [(false, eval a X.env)] := by rfl) : SI X tg (.Call (.Name "range" p) [a] [] pos) (iArgs rngOf1 ma) := by
  refine pi_imp (pi_range1 hg hm h hs) (tI_args fun S env σ tp tv H ds items vs Q l r e q => ?_)
  unfold rngOf1 at e
  split at e
  · rename_i n
    obtain ⟨v, ev⟩ := len1 l
    subst ev
    split at e
    · rename_i hh
      cases e
      refine ⟨n, by rw [(View.top r).sc_inv rfl], hh.1, hh.2, q _ [] [] iterOk_rng (RelO.pop r)⟩
    · cases e
  · cases e
theorem si_enum {elts : List Expr} {kk : Nat} (hm : X.mg "enumerate" = none) (h : SA X [e] ma) (hg : Gl X "enumerate" := by rfl) (hs : starEach [e] X.env = [(false, eval e X.env)] := by rfl) : SI X (.Tuple elts kk tpos) (.Call (.Name "enumerate" p) [e] [] pos) (iArgs enumOf ma) := by
  refine pi_imp (pi_enumA hg hm h hs) (tI_args fun S env σ tp tv H ds items vs Q l r e q => ?_)
  unfold enumOf at e
  split at e
  · rename_i ds
    obtain ⟨v, ev⟩ := len1 l
    subst ev
    split at e
    · rename_i hf
      cases e
      obtain ⟨a, xs, e1, hs, _, _⟩ := (View.top r).lst
      subst e1
      exact ⟨a, xs, rfl, .inl ⟨hs, q _ _ _ (iterOk_enumL hf) r⟩⟩
    · cases e
  · rename_i ds
    obtain ⟨v, ev⟩ := len1 l
    subst ev
    split at e
    · rename_i hf
      cases e
      obtain ⟨a, xs, e1, hs, _⟩ := (View.top r).tup
      subst e1
      exact ⟨a, xs, rfl, .inr ⟨hs, q _ _ _ (iterOk_enumT hf) r⟩⟩
    · cases e
  · cases e
end
def loopF (g : MG) (body : MS) : List D → MS
  | [] => fun env S => .ok (.nx env) S
  | d :: ds => fun env S => match g d env with
    | none => .bad
    | some env1 => (body env1 S).bind fun f S1 => match f with
      | .nx env2 => loopF g body ds env2 S1
      | .ct env2 => loopF g body ds env2 S1
      | .bk env2 => .ok (.nx env2) S1
      | .rt d => .ok (.rt d) S1
def sFor (mi : MI) (g : MG) (body : MS) : MS := fun env S => (mi env S).bind fun items S1 => loopF g body items env S1
theorem PostS.popX {K : KT} {tp pd : Env} {tv pv : List (Option V)} {D : Ends} (l : pd.length = pv.length) : ∀ {r : R Fl}, PostS K tp tv D r → PostS K (pd ++ tp) (pv ++ tv) D r
  | .ok (.nx _) _, q => fun σ' H' r => q σ' H' (RelO.popX l r)
  | .ok (.rt _) _, q => fun v H' r => q v H' (RelO.popM l r)
  | .ok (.bk _) _, q => fun σ' H' r => q σ' H' (RelO.popX l r)
  | .ok (.ct _) _, q => fun σ' H' r => q σ' H' (RelO.popX l r)
  | .exn _ _, q => PostXS.popO l q
  | .bad, q => q.elim
section
variable {X : Cx} {tg iter : Expr} {body : List Stmt} {pos : Pos} {mi : MI} {sl : List Nat} {g : MG} {mb : MS}
theorem tMS_for {K : KT} : ∀ D σ H, tMS K (sFor mi g mb) D σ H → tFor (tI K mi) (tG K sl g) (tMS K mb) D σ H := by
  rintro D σ H ⟨env, S, tp, tv, rl, q⟩
  refine ⟨env, S, tp, tv, rl, ?_⟩
  unfold sFor at q
  cases z : mi env S with
  | bad => rw [z] at q; exact q.elim
  | exn _ _ => rw [z] at q; first | exact q | exact PostX.pop q | exact PostX.pop (PostX.pop q) | exact PostX.popA (by assumption) q | exact PostXS.toX q | exact PostX.pop (PostXS.toX q) | exact PostX.popA (by assumption) (PostXS.toX q) | exact PostXS.pop q | exact False.elim q
  | ok items S1 =>
    rw [z] at q
    simp only [R.bind] at q
    intro J pd pv H1 hi r1
    refine ⟨fun i m σ H => i + m = items.length ∧ ∃ (env : Env) (S : Sto), Rel K S env σ (pd ++ tp) (pv ++ tv) H ∧ PostS K (pd ++ tp) (pv ++ tv) D (loopF g mb (items.drop i) env S), ⟨items.length, by omega, env, S1, r1, q.popX hi.len⟩, ?_⟩
    rintro i m σ' H' ⟨hm, env', S', r', q'⟩
    cases m with
    | zero =>
      have hd : items.drop i = [] := List.drop_eq_nil_of_le (by omega)
      rw [hd] at q'
      exact .inl ⟨hi.stop S' env' σ' tp tv H' i r' (by omega), q' σ' H' r'⟩
    | succ m =>
      have hlt : i < items.length := by omega
      have hd : items.drop i = items[i] :: items.drop (i + 1) := List.drop_eq_getElem_cons hlt
      rw [hd] at q'
      obtain ⟨hgo, hy⟩ := hi.go S' env' σ' tp tv H' i items[i] r' (List.getElem?_eq_getElem hlt)
      refine .inr ⟨hgo, fun σ2 H2 => (i + 1) + m = items.length ∧ ∃ (env : Env) (S : Sto), Rel K S env σ2 (pd ++ tp) (pv ++ tv) H2 ∧ PostS K (pd ++ tp) (pv ++ tv) D (loopF g mb (items.drop (i + 1)) env S),
        fun σ2 H2 n2 => ⟨m, by omega, n2⟩, fun x H2 y2 => ?_⟩
      have r2 := hy x H2 y2
      unfold loopF at q'
      cases z2 : g items[i] env' with
      | none => simp only [z2] at q'; exact q'.elim
      | some env1 =>
        simp only [z2] at q'
        refine ⟨env', S', pd ++ tp, pv ++ tv, items[i], env1, r2, z2, fun σ3 r3 _ => ?_⟩
        refine ⟨env1, S', pd ++ tp, pv ++ tv, r3, ?_⟩
        cases z3 : mb env1 S' with
        | bad => rw [z3] at q'; exact q'.elim
        | exn _ _ => rw [z3] at q'; first | exact q' | exact PostX.pop q' | exact PostX.pop (PostX.pop q') | exact PostX.popA (by assumption) q' | exact PostXS.toX q' | exact PostX.pop (PostXS.toX q') | exact PostX.popA (by assumption) (PostXS.toX q') | exact PostXS.pop q' | exact False.elim q'
        | ok f S3 =>
          rw [z3] at q'
          simp only [R.bind] at q'
          cases f with
          | nx env2 => exact fun σ4 H4 r4 => ⟨by omega, env2, S3, r4, q'⟩
          | ct env2 => exact fun σ4 H4 r4 => ⟨by omega, env2, S3, r4, q'⟩
          | bk env2 => exact fun σ4 H4 r4 => q' σ4 H4 r4
          | rt d => exact fun v H4 r4 => q' v H4 r4
theorem s_for (hp : PassesOwn (model X.prog X.w) X.A X.env X.xe) (hc : X.calm = true) (hi : SI X tg iter mi) (hg : SG X tg sl g) (hb : SSs X body mb)
    (hs : ∀ x, foldedSetIterable iter X.env x = pure x := by intro _; rfl) : SS X (.For tg iter body [] pos) (sFor mi g mb) := ps_imp (ps_for hp hc hi hg hb hs) tMS_for
def loopW (c : MT) (body : MS) : Nat → MS
  | 0 => fun _ _ => .bad
  | n + 1 => fun env S => (c env S).bind fun b S1 => if b = true then (body env S1).bind fun f S2 => match f with
      | .nx env2 => loopW c body n env2 S2
      | .ct env2 => loopW c body n env2 S2
      | .bk env2 => .ok (.nx env2) S2
      | .rt d => .ok (.rt d) S2
    else .ok (.nx env) S1
variable {c : Expr} {mt : MT}
theorem tMS_while {K : KT} {n : Nat} : ∀ D σ H, tMS K (loopW mt mb n) D σ H → tWhile (tMT K mt) (tMS K mb) D σ H := by
  rintro D σ H ⟨env, S, tp, tv, rl, q⟩
  refine ⟨fun m σ H => ∃ (env : Env) (S : Sto), Rel K S env σ tp tv H ∧ PostS K tp tv D (loopW mt mb m env S), ⟨n, env, S, rl, q⟩, ?_⟩
  rintro m σ' H' ⟨env', S', r', q'⟩
  cases m with
  | zero => exact q'.elim
  | succ m =>
    refine ⟨env', S', tp, tv, r', ?_⟩
    unfold loopW at q'
    cases z : mt env' S' with
    | bad => rw [z] at q'; exact q'.elim
    | exn _ _ => rw [z] at q'; first | exact q' | exact PostX.pop q' | exact PostX.pop (PostX.pop q') | exact PostX.popA (by assumption) q' | exact PostXS.toX q' | exact PostX.pop (PostXS.toX q') | exact PostX.popA (by assumption) (PostXS.toX q') | exact PostXS.pop q' | exact False.elim q'
    | ok b S1 =>
      rw [z] at q'
      simp only [R.bind] at q'
      intro H1 r1
      cases b with
      | false =>
        rw [if_neg Bool.false_ne_true] at q' ⊢
        exact q' σ' H1 r1
      | true =>
        rw [if_pos rfl] at q' ⊢
        refine ⟨fun σ2 H2 => ∃ (env : Env) (S : Sto), Rel K S env σ2 tp tv H2 ∧ PostS K tp tv D (loopW mt mb m env S), fun σ2 H2 n2 => ⟨m, by omega, n2⟩, env', S1, tp, tv, r1, ?_⟩
        cases z3 : mb env' S1 with
        | bad => rw [z3] at q'; exact q'.elim
        | exn _ _ => rw [z3] at q'; first | exact q' | exact PostX.pop q' | exact PostX.pop (PostX.pop q') | exact PostX.popA (by assumption) q' | exact PostXS.toX q' | exact PostX.pop (PostXS.toX q') | exact PostX.popA (by assumption) (PostXS.toX q') | exact PostXS.pop q' | exact False.elim q'
        | ok f S3 =>
          rw [z3] at q'
          simp only at q'
          cases f with
          | nx env2 => exact fun σ4 H4 r4 => ⟨env2, S3, r4, q'⟩
          | ct env2 => exact fun σ4 H4 r4 => ⟨env2, S3, r4, q'⟩
          | bk env2 => exact fun σ4 H4 r4 => q' σ4 H4 r4
          | rt d => exact fun v H4 r4 => q' v H4 r4
theorem s_while (n : Nat) (hp : PassesOwn (model X.prog X.w) X.A X.env X.xe) (hc : ST X c mt) (hb : SSs X body mb) : SS X (.While c body [] pos) (loopW mt mb n) := ps_imp (ps_while hp hc hb) tMS_while
end
end N1
end
section
namespace N1
open PySem PySem.Spec PyProof.Rows L2
def tYesM : MT := fun _ S => .ok true S
abbrev STs (X : Cx) (ifs : List Expr) (m : MT) : Prop := PTs X ifs (tMT (kt X) m)
section
variable {X : Cx} {c : Expr} {mt : MT}
theorem sts_nil : STs X [] tYesM := by
  refine ⟨fun pins s σ H Q I h => pts_nil.run pins s σ H Q I ?_⟩
  obtain ⟨env, S, tp, tv, r, q⟩ := h
  exact q H r
theorem sts_one (h : ST X c mt) : STs X [c] mt := pts_one h
theorem sts_low {ifs : List Expr} (h : STs X ifs mt) : PTs X ifs (tMT (k0 X.K) mt) := ⟨fun pins s σ H Q I q => h.run pins s σ H Q I (tMT_low (K := kt X) _ _ _ q)⟩
end
def freeAt (vs : List Nat) (env : Env) : Bool := vs.all fun i => match env[i]? with
  | some none => true
  | _ => false
theorem set_none {env : Env} {i : Nat} (h : env[i]? = some none) : env.set i none = env := by
  apply List.ext_getElem?
  intro j
  by_cases e : j = i
  · subst e
    rw [h, List.getElem?_set_self (List.getElem?_eq_some_iff.mp h).1]
  · rw [List.getElem?_set_ne (fun z => e z.symm)]
theorem wipeE_free {env : Env} : ∀ {vs : List Nat}, freeAt vs env = true → wipeE env vs = env
  | [], _ => rfl
  | v :: vs, h => by
    unfold freeAt at h
    rw [List.all_cons, Bool.and_eq_true] at h
    have ih : wipeE env vs = env := wipeE_free h.2
    unfold wipeE
    rw [ih]
    refine set_none ?_
    have h1 := h.1
    split at h1
    · assumption
    · cases h1
theorem freeAt_mem {vs : List Nat} {env : Env} (h : freeAt vs env = true) {i : Nat} (hi : i ∈ vs) : env[i]? = some none := by
  have h1 := List.all_eq_true.mp h i hi
  split at h1
  · assumption
  · cases h1
theorem wipe_ne {σ : L2.St} {i : Nat} : ∀ {vs : List Nat}, i ∉ vs → (L2.wipe σ vs)[i]? = σ[i]?
  | [], _ => rfl
  | v :: vs, h => by
    have h' : i ≠ v ∧ i ∉ vs := by simpa using h
    show ((L2.wipe σ vs).set v none)[i]? = σ[i]?
    rw [List.getElem?_set_ne (Ne.symm h'.1)]
    exact wipe_ne h'.2
def loopC (g : MG) (mt : MT) (me : ME) (env : Env) : List D → Sto → R (List D)
  | [], S => .ok [] S
  | d :: ds, S => match g d env with
    | none => .bad
    | some env1 => (mt env1 S).bind fun b S1 => if b = true then (me env1 S1).bind fun y S2 => (loopC g mt me env ds S2).bind fun ys S3 => .ok (y :: ys) S3
      else loopC g mt me env ds S1
def eLc (vs : List Nat) (mi : MI) (g : MG) (mt : MT) (me : ME) : ME := fun env S => if freeAt vs env = true then (mi env S).bind fun items S1 => if items.length ≤ 16777216 then (loopC g mt me env items S1).bindN fun ys S2 => .ok (.lst true ys) S2 else .bad
  else .bad
section
variable {K : KT} {vs : List Nat} {mi : MI} {g : MG} {mt : MT} {me : ME} {sl : List Nat}
def PostC (K : KT) (env : Env) (σ : L2.St) (tp : Env) (tv : List (Option V)) (acc : List D) (Q : VK) : R (List D) → Prop
  | .ok ys S' => ∀ v H', Rel K S' env σ (some (.lst true (acc ++ ys)) :: tp) (some v :: tv) H' → Q v H'
  | _ => False
theorem PostC.cons {env : Env} {σ : L2.St} {tp : Env} {tv : List (Option V)} {acc : List D} {Q : VK} {y : D} {r : R (List D)} (h : PostC K env σ tp tv acc Q (r.bind fun ys S3 => .ok (y :: ys) S3)) : PostC K env σ tp tv (acc ++ [y]) Q r := by
  cases r with
  | ok ys S' =>
    intro v H' q
    exact h v H' (by simpa using q)
  | exn _ _ => exact h.elim
  | bad => exact h.elim
theorem tM_lc (hsl : ∀ i ∈ sl, i ∈ vs) : ∀ σ H Q, tM K (eLc vs mi g mt me) σ H Q → tLc (tI K mi) (tG K sl g) (tMT (k0 K) mt) (tM (k0 K) me) vs σ H Q := by
  rintro σ H Q ⟨env, S, tp, tv, rl, q⟩
  unfold eLc at q
  by_cases hf : freeAt vs env = true
  · rw [if_pos hf] at q
    refine ⟨env, S, tp, tv, rl, ?_⟩
    cases z : mi env S with
    | bad => rw [z] at q; exact q.elim
    | exn _ _ => rw [z] at q; first | exact q | exact PostX.pop q | exact PostX.pop (PostX.pop q) | exact PostX.popA (by assumption) q | exact PostXS.toX q | exact PostX.pop (PostXS.toX q) | exact PostX.popA (by assumption) (PostXS.toX q) | exact PostXS.pop q | exact False.elim q
    | ok items S1 =>
      rw [z] at q
      simp only [R.bind] at q
      intro J pd pv H1 hi r1 La hD
      by_cases hz : items.length ≤ 16777216
      · rw [if_pos hz] at q
        have hw : wipeE env vs = env := wipeE_free hf
        -- the state ahead of each turn: the new list is held
        have back : ∀ {S : Sto} {tp' : Env} {tv' : List (Option V)} {H : Hp}, Rel K S env (L2.wipe σ vs) tp' tv' H → Rel K S env σ tp' tv' H := fun {S tp' tv' H} r =>
          RelO.resig (by rw [wipe_length]) (fun i hi => by
            by_cases hm : i ∈ vs
            · exact .inl (freeAt_mem hf hm)
            · exact .inr (wipe_ne hm).symm) r
        have q0 : PostC K env σ (pd ++ tp) (pv ++ tv) [] Q (loopC g mt me env items S1) := by
          cases z2 : loopC g mt me env items S1 with
          | bad => rw [z2] at q; exact q.elim
          | exn _ _ => rw [z2] at q; first | exact q | exact PostX.pop q | exact PostX.pop (PostX.pop q) | exact PostX.popA (by assumption) q | exact PostXS.toX q | exact PostX.pop (PostXS.toX q) | exact PostX.popA (by assumption) (PostXS.toX q) | exact PostXS.pop q | exact False.elim q
          | ok ys S2 =>
            rw [z2] at q
            intro v H' r'
            exact q v H' (RelO.popM hi.len r')
        have r0 : Rel K S1 env (L2.wipe σ vs) (some (.lst true []) :: (pd ++ tp)) (some (.ref La) :: (pv ++ tv)) (upd H1 La (.lst [])) := by
          have := RelO.wipe vs (RelO.mkLst (ds := []) (vs := []) (p := La) rfl r1 hD)
          rw [hw] at this
          exact this
        refine ⟨fun i m H => i + m = items.length ∧ ∃ (S : Sto) (acc : List D), acc.length ≤ i ∧ Rel K S env (L2.wipe σ vs) (some (.lst true acc) :: (pd ++ tp)) (some (.ref La) :: (pv ++ tv)) H ∧
          PostC K env σ (pd ++ tp) (pv ++ tv) acc Q (loopC g mt me env (items.drop i) S), ⟨items.length, by omega, S1, [], by simp, r0, q0⟩, ?_⟩
        rintro i m H' ⟨hm, S', acc, hacc, r', q'⟩
        -- the walked thing is seen behind the new list
        have rsw : ∀ {S : Sto} {acc : List D} {e : Env} {s : L2.St} {H : Hp}, Rel K S e s (some (.lst true acc) :: (pd ++ tp)) (some (.ref La) :: (pv ++ tv)) H → Rel K S e s (pd ++ (some (.lst true acc) :: tp)) (pv ++ (some (.ref La) :: tv)) H := fun r =>
          RelO.swap (as := [_]) (xs := [_]) rfl hi.len r
        have rsb : ∀ {S : Sto} {acc : List D} {d : D} {x : V} {e : Env} {s : L2.St} {H : Hp}, Rel K S e s (some d :: (pd ++ (some (.lst true acc) :: tp))) (some x :: (pv ++ (some (.ref La) :: tv))) H → Rel K S e s (some d :: some (.lst true acc) :: (pd ++ tp)) (some x :: some (.ref La) :: (pv ++ tv)) H := fun {S acc d x e s H} r => by
          have r2 := RelO.swap (as := some d :: pd) (bs := [some (.lst true acc)]) (xs := some x :: pv) (ys := [some (.ref La)]) (by simp [hi.len]) rfl r
          exact RelO.swap (as := [some (.lst true acc)]) (bs := [some d]) (xs := [some (.ref La)]) (ys := [some x]) rfl rfl r2
        cases m with
        | zero =>
          have hd : items.drop i = [] := List.drop_eq_nil_of_le (by omega)
          rw [hd] at q'
          refine .inl ⟨hi.stop S' env _ _ _ H' i (rsw r') (by omega), q' _ H' ?_⟩
          rw [List.append_nil]
          exact back r'
        | succ m =>
          have hlt : i < items.length := by omega
          have hd : items.drop i = items[i] :: items.drop (i + 1) := List.drop_eq_getElem_cons hlt
          rw [hd] at q'
          obtain ⟨hgo, hy⟩ := hi.go S' env _ _ _ H' i items[i] (rsw r') (List.getElem?_eq_getElem hlt)
          refine .inr ⟨hgo, fun H2 => (i + 1) + m = items.length ∧ ∃ (S : Sto) (acc : List D), acc.length ≤ i + 1 ∧ Rel K S env (L2.wipe σ vs) (some (.lst true acc) :: (pd ++ tp)) (some (.ref La) :: (pv ++ tv)) H2 ∧
            PostC K env σ (pd ++ tp) (pv ++ tv) acc Q (loopC g mt me env (items.drop (i + 1)) S), fun H2 n2 => ⟨m, by omega, n2⟩, fun x H2 y2 => ?_⟩
          have r2 := rsb (hy x H2 y2)
          unfold loopC at q'
          cases z2 : g items[i] env with
          | none => simp only [z2] at q'; exact q'.elim
          | some env1 =>
            simp only [z2] at q'
            refine ⟨env, S', _, _, items[i], env1, r2, z2, fun σ2 r3 w3 => ?_⟩
            obtain ⟨ws, we⟩ := w3 vs hsl
            have wb : L2.wipe σ2 vs = L2.wipe σ vs := by
              rw [ws]
              -- wiped twice
              have : ∀ us : List Nat, (∀ i ∈ us, i ∈ vs) → L2.wipe (L2.wipe σ vs) us = L2.wipe σ vs := by
                intro us
                induction us with
                | nil => intro _; rfl
                | cons u us ih =>
                  intro hu
                  show (L2.wipe (L2.wipe σ vs) us).set u none = _
                  rw [ih fun i hi => hu i (List.mem_cons_of_mem _ hi)]
                  have hg : ∀ (ws : List Nat), u ∈ ws → (L2.wipe σ ws).set u none = L2.wipe σ ws := by
                    intro ws
                    induction ws with
                    | nil => intro z; cases z
                    | cons w ws ih2 =>
                      intro z
                      show ((L2.wipe σ ws).set w none).set u none = (L2.wipe σ ws).set w none
                      by_cases e : u = w
                      · subst e; rw [List.set_set]
                      · rw [List.set_comm _ _ (fun z => e z.symm), ih2 (by
                          rcases List.mem_cons.mp z with z | z
                          · exact absurd z e
                          · exact z)]
                  exact hg vs (hu u List.mem_cons_self)
              exact this vs fun i hi => hi
            have we' : wipeE env1 vs = env := we.trans hw
            refine ⟨wb, env1, S', _, _, r3, ?_⟩
            -- behind a turn the block's names are forgotten
            have undo : ∀ {S : Sto} {tp' : Env} {tv' : List (Option V)} {H : Hp}, Rel K S env1 σ2 tp' tv' H → Rel K S env (L2.wipe σ vs) tp' tv' H := fun {S tp' tv' H} r => by
              have := RelO.wipe vs r
              rw [we', wb] at this
              exact this
            cases z3 : mt env1 S' with
            | bad => rw [z3] at q'; exact q'.elim
            | exn _ _ => rw [z3] at q'; first | exact q' | exact PostX.pop q' | exact PostX.pop (PostX.pop q') | exact PostX.popA (by assumption) q' | exact PostXS.toX q' | exact PostX.pop (PostXS.toX q') | exact PostX.popA (by assumption) (PostXS.toX q') | exact PostXS.pop q' | exact False.elim q'
            | ok b S3 =>
              rw [z3] at q'
              simp only [R.bind] at q'
              intro H3 r4
              cases b with
              | false =>
                rw [if_neg Bool.false_ne_true] at q' ⊢
                exact ⟨by omega, S3, acc, by omega, undo r4, q'⟩
              | true =>
                rw [if_pos rfl] at q' ⊢
                refine ⟨env1, S3, _, _, r4, ?_⟩
                cases z4 : me env1 S3 with
                | bad => rw [z4] at q'; exact q'.elim
                | exn _ _ => rw [z4] at q'; first | exact q' | exact PostX.pop q' | exact PostX.pop (PostX.pop q') | exact PostX.popA (by assumption) q' | exact PostXS.toX q' | exact PostX.pop (PostXS.toX q') | exact PostX.popA (by assumption) (PostXS.toX q') | exact PostXS.pop q' | exact False.elim q'
                | ok y S4 =>
                  rw [z4] at q'
                  intro v H4 r5
                  obtain ⟨a, xs, e1, e2, l, r6⟩ := RelO.app (undo r5)
                  cases e1
                  refine ⟨xs, e2, ?_, by omega, S4, acc ++ [y], by simp; omega, r6, PostC.cons q'⟩
                  show xs.length < 16777216
                  omega
      · rw [if_neg hz] at q
        exact q.elim
  · rw [if_neg hf] at q
    exact q.elim
end
section
variable {X : Cx} {elt tg iter : Expr} {ifs : List Expr} {scope : Scope} {own : List (Str × Nat)} {pos : Pos} {mi : MI} {g : MG} {mt : MT} {me : ME} {sl : List Nat}
theorem se_lc (hc : X.calm = true) (hN : X.N.Nodup) (hi : SI X tg iter mi) (ok : BlkOk X.N X.env.scope scope own)
    (hg : ∀ (s : Shared) (H : Hp) (C : Addr) (cl : List (Str × Addr)) (fp : List Addr), SG (X.blk s H scope (compEnvC scope cl C X.env) fp) tg sl g) (ht : ∀ (s : Shared) (H : Hp) (C : Addr) (cl : List (Str × Addr)) (fp : List Addr), STs (X.blk s H scope (compEnvC scope cl C X.env) fp) ifs mt)
    (he : ∀ (s : Shared) (H : Hp) (C : Addr) (cl : List (Str × Addr)) (fp : List Addr), SE (X.blk s H scope (compEnvC scope cl C X.env) fp) elt me) (hsl : ∀ i ∈ sl, i ∈ own.map (·.2) := by decide) (hs : ∀ x, foldedSetIterable iter X.env x = pure x := by intro _; rfl) :
    SE X (.ListComp elt [⟨tg, iter, ifs, 0⟩] scope pos) (eLc (own.map (·.2)) mi g mt me) := pe_imp (pe_lc hc hN hi ok hg (fun s H C cl fp => sts_low (ht s H C cl fp)) (fun s H C cl fp => se_low (he s H C cl fp)) hs) (tM_lc hsl)
theorem s_setLc {i : Nat} {y : Str} {py spos : Pos} (hc : X.calm = true) (hN : X.N.Nodup) (hy : X.N[i]? = some y) (hyl : X.env.scope.names.lookup y = some .local)
    (hsw : swapsWith (.ListComp elt [⟨tg, iter, ifs, 0⟩] scope pos) (some (.Name y py)) spos.line X.env = pure true) (hi : SI X tg iter mi) (ok : BlkOk X.N X.env.scope scope own)
    (hg : ∀ (s : Shared) (H : Hp) (C : Addr) (cl : List (Str × Addr)) (fp : List Addr), SG (X.blk s H scope (compEnvC scope cl C X.env) fp) tg sl g) (ht : ∀ (s : Shared) (H : Hp) (C : Addr) (cl : List (Str × Addr)) (fp : List Addr), STs (X.blk s H scope (compEnvC scope cl C X.env) fp) ifs mt)
    (he : ∀ (s : Shared) (H : Hp) (C : Addr) (cl : List (Str × Addr)) (fp : List Addr), SE (X.blk s H scope (compEnvC scope cl C X.env) fp) elt me) (hsl : ∀ i ∈ sl, i ∈ own.map (·.2) := by decide) (hs : ∀ x, foldedSetIterable iter X.env x = pure x := by intro _; rfl) :
    SS X (.Assign [.Name y py] (.ListComp elt [⟨tg, iter, ifs, 0⟩] scope pos) spos) (sSet i (eLc (own.map (·.2)) mi g mt me)) :=
  ps_imp (ps_setLc hc hN hy hyl hsw hi ok hg (fun s H C cl fp => sts_low (ht s H C cl fp)) (fun s H C cl fp => se_low (he s H C cl fp)) hs) fun D σ H h => tM_lc hsl σ H _ (tMS_set D σ H h)
end
end N1
end
section
namespace N1
open PySem PySem.Spec PyProof.Rows L2
def mulOk (i j : Int) : Bool := big i || big j || decide (i.natAbs.log2 + j.natAbs.log2 < 1000000)
def CMulX (i j : Int) : Prop := CMul i j ∨ CMulW i j
theorem mulOk_x {i j : Int} (h : mulOk i j = true) : CMulX i j := by
  unfold mulOk at h
  rcases Bool.or_eq_true_iff.mp h with h | h
  · exact .inl (cmul_of h)
  · exact .inr (show i.natAbs.log2 + j.natAbs.log2 < 1000000 from of_decide_eq_true h)
def CPowX (i j : Int) : Prop := 0 ≤ j ∧ (Builtin.Int.intBits i : Int) * j ≤ 2 ^ 27
def powOk (i j : Int) : Bool := decide (0 ≤ j ∧ (Builtin.Int.intBits i : Int) * j ≤ 2 ^ 27)
section
variable {X : Cx}
theorem op_mulX : OpR X (binaryOp .Mult) (rI CMulX fun i j => .int (i * j)) := opI fun _ _ _ _ _ _ _ hc q => by
  rcases hc with hc | hc
  · exact mul_int q hc.ok
  · exact mul_int q hc.ok
theorem op_powX : OpR X (binaryOp .Pow) (rI CPowX fun i j => .int (i ^ j.toNat)) := opI fun _ _ _ _ _ _ _ hc q => pow_int hc.1 hc.2 q
end
def fAddI := fI (fun _ _ => true) fun i j => i + j
def fSubI := fI (fun _ _ => true) fun i j => i - j
def fMulI := fI mulOk fun i j => i * j
def fDivI := fI (fun _ j => decide (0 < j ∧ j < 1073741824)) fun i j => i / j
def fModI := fI (fun _ j => decide (0 < j)) fun i j => i % j
def fPowI := fI powOk fun i j => i ^ j.toNat
def fLtI := fC fun i j => decide (i < j)
def fLeI := fC fun i j => decide (i ≤ j)
def fGtI := fC fun i j => decide (j < i)
def fGeI := fC fun i j => decide (j ≤ i)
section
variable {X : Cx} {a b : Expr} {pos : Pos} {ma mb : MB} {na nb : ME}
theorem sb_add (ha : SB X a ma) (hb : SB X b mb) : SB X (.BinOp a .Add b pos) (bOp fAddI ma mb) := sb_bin op_add op2_I0 ha hb
theorem se_add (ha : SE X a na) (hb : SE X b nb) : SE X (.BinOp a .Add b pos) (eOp fAddI na nb) := se_bin op_add op2_I0 ha hb
theorem sb_mul (ha : SB X a ma) (hb : SB X b mb) : SB X (.BinOp a .Mult b pos) (bOp fMulI ma mb) := sb_bin op_mulX (op2_I fun _ _ => mulOk_x) ha hb
theorem sb_div (ha : SB X a ma) (hb : SB X b mb) : SB X (.BinOp a .FloorDiv b pos) (bOp fDivI ma mb) := sb_bin op_fdiv (op2_I fun _ j h => show 0 < j ∧ j < 1073741824 from of_decide_eq_true h) ha hb
theorem sb_mod (ha : SB X a ma) (hb : SB X b mb) : SB X (.BinOp a .Mod b pos) (bOp fModI ma mb) := sb_bin op_mod (op2_I fun _ _ h => of_decide_eq_true h) ha hb
theorem sb_pow (ha : SB X a ma) (hb : SB X b mb) : SB X (.BinOp a .Pow b pos) (bOp fPowI ma mb) := sb_bin op_powX (op2_I fun i j h => show 0 ≤ j ∧ (Builtin.Int.intBits i : Int) * j ≤ 2 ^ 27 from of_decide_eq_true h) ha hb
theorem sb_lt (ha : SB X a ma) (hb : SB X b mb) : SB X (.Compare a [.Lt] [b] pos) (bOp fLtI ma mb) := sb_cmp op_lt op2_C ha hb (nomark _)
theorem st_ltB (ha : SB X a ma) (hb : SB X b mb) : ST X (.Compare a [.Lt] [b] pos) (tE (eB (bOp fLtI ma mb))) := st_cmpB op_lt op2_C ha hb (nomark _)
theorem st_leB (ha : SB X a ma) (hb : SB X b mb) : ST X (.Compare a [.LtE] [b] pos) (tE (eB (bOp fLeI ma mb))) := st_cmpB op_le op2_C ha hb (nomark _)
theorem st_gtB (ha : SB X a ma) (hb : SB X b mb) : ST X (.Compare a [.Gt] [b] pos) (tE (eB (bOp fGtI ma mb))) := st_cmpB op_gt op2_C ha hb (nomark _)
theorem st_geB (ha : SB X a ma) (hb : SB X b mb) : ST X (.Compare a [.GtE] [b] pos) (tE (eB (bOp fGeI ma mb))) := st_cmpB op_ge op2_C ha hb (nomark _)
def negD : D → Option D
  | .int i => some (.int (-i))
  | _ => none
def bNeg (ma : MB) : MB := fun env S => match ma env S with
  | some a => negD a
  | none => none
end
mutual
def toPy : D → Option PyData
  | .non => some .none
  | .bl b => some (.bool b)
  | .int i => some (.int i)
  | .str x => some (.str x)
  | .tup ds => match toPys ds with
    | some ps => some (.tuple ps)
    | none => none
  | .lst _ ds => match toPys ds with
    | some ps => some (.list ps)
    | none => none
  | .dct _ _ _ => none
  | .ref _ => none
  | .dtt _ _ _ => none
  | .lck _ _ _ => none
  | .obj _ _ _ _ => none
  | .exc _ _ _ => none
  | .lam _ _ _ => none
  | .tab _ => none
def toPys : List D → Option (List PyData)
  | [] => some []
  | d :: ds => match toPy d, toPys ds with
    | some p, some ps => some (p :: ps)
    | _, _ => none
end
section
variable {K : PySem.W.Frag} {F : Addr → Prop} {mu : List Addr} {H : Hp}
mutual
theorem Rp.dp : ∀ (d : D) (v : V) (o : List Addr) (p : PyData), Rp K F mu H d v o → toPy d = some p → Dp K H v p
  | .non, v, o, p, h, e => by unfold Rp at h; unfold toPy at e; cases e; rw [h.1]; exact .non
  | .bl b, v, o, p, h, e => by unfold Rp at h; unfold toPy at e; cases e; rw [h.1]; exact .bl b
  | .int i, v, o, p, h, e => by unfold Rp at h; unfold toPy at e; cases e; rw [h.1]; exact .int i
  | .str x, v, o, p, h, e => by unfold Rp at h; unfold toPy at e; cases e; rw [h.1]; exact .str x
  | .tup ds, v, o, p, h, e => by
    unfold Rp at h
    unfold toPy at e
    obtain ⟨a, xs, e1, hs, r⟩ := h
    subst e1
    cases z : toPys ds with
    | none => rw [z] at e; cases e
    | some ps => rw [z] at e; cases e; exact .tup (.inl (.inl hs)) (Rps.dp ds xs o ps r z)
  | .lst b ds, v, o, p, h, e => by
    unfold Rp at h
    unfold toPy at e
    obtain ⟨a, xs, o', e1, r, q⟩ := h
    subst e1
    cases z : toPys ds with
    | none => rw [z] at e; cases e
    | some ps =>
      rw [z] at e
      cases e
      refine .lst ?_ (Rps.dp ds xs o' ps r z)
      rcases q with ⟨_, q, _⟩ | ⟨_, q, _⟩
      · exact .inl (.inl q)
      · exact q.seq
  | .dct _ _ _, _, _, _, _, e => by unfold toPy at e; cases e
  | .ref _, _, _, _, _, e => by unfold toPy at e; cases e
  | .dtt _ _ _, _, _, _, _, e => by unfold toPy at e; cases e
  | .lck _ _ _, _, _, _, _, e => by unfold toPy at e; cases e
  | .obj _ _ _ _, _, _, _, _, e => by unfold toPy at e; cases e
  | .exc _ _ _, _, _, _, _, e => by unfold toPy at e; cases e
  | .lam _ _ _, _, _, _, _, e => by unfold toPy at e; cases e
  | .tab _, _, _, _, _, e => by unfold toPy at e; cases e
theorem Rps.dp : ∀ (ds : List D) (vs : List V) (o : List Addr) (ps : List PyData), Rps K F mu H ds vs o → toPys ds = some ps → DpAll K H vs ps
  | [], vs, o, ps, h, e => by unfold Rps at h; unfold toPys at e; cases e; rw [h.1]; exact .nil
  | d :: ds, vs, o, ps, h, e => by
    unfold Rps at h
    unfold toPys at e
    obtain ⟨x, xs, o1, o2, e1, e2, r, rs⟩ := h
    subst e1
    cases z : toPy d with
    | none => rw [z] at e; cases e
    | some p =>
      cases z2 : toPys ds with
      | none => rw [z, z2] at e; cases e
      | some ps' =>
        rw [z, z2] at e
        cases e
        exact .cons (Rp.dp d x o1 p r z) (Rps.dp ds xs o2 ps' rs z2)
end
end
theorem View.dp {K : PySem.W.Frag} {S : Sto} {env : Env} {σ : L2.St} {tp : Env} {tv : List (Option V)} {H : Hp} {d : D} {v : V} {p : PyData} (h : View K S env σ tp tv H d v) (e : toPy d = some p) : Dp K H v p := by
  obtain ⟨F, mu, oS, oE, oT, o, _, r, _⟩ := h
  exact Rp.dp d v o p r e
def eqD (a b : D) : Option Bool := match toPy a, toPy b with
  | some p, some q => if SeqAt.shaped p = true ∧ SeqAt.shaped q = true then some (PyData.eqv p q) else none
  | _, _ => none
def fEq : Sto → D → D → Option D := fun _ a b => (eqD a b).map .bl
def fNe : Sto → D → D → Option D := fun _ a b => (eqD a b).map fun k => .bl (!k)
/-- the items of a list, a tuple; what a reference holds -/
def itemsOf : Sto → D → Option (List D) := fun S d => match d with
  | .tup ds => some ds
  | .lst _ ds => some ds
  | .ref n => match S[n]? with
    | some (.lst _ ds) => some ds
    | _ => none
  | _ => none
def inD (S : Sto) (a b : D) : Option Bool := match b with
  | .str z => match a with
    | .str x => if x.cps.size = 1 then some (decide (x.cps.getD 0 0 ∈ z.cps.toList)) else none
    | _ => none
  | _ => match itemsOf S b with
    | some ds => match toPy a, toPys ds with
      | some p, some ps => if SeqAt.shaped p = true ∧ SeqAt.shaped (.list ps) = true then some (ps.any fun z => PyData.eqv z p) else none
      | _, _ => none
    | none => none
def fIn : Sto → D → D → Option D := fun S a b => (inD S a b).map fun k => .bl (false ^^ k)
def fNotIn : Sto → D → D → Option D := fun S a b => (inD S a b).map fun k => .bl (true ^^ k)
section
variable {K : PySem.W.Frag}
theorem eqD_at {a b : D} {k : Bool} (h : eqD a b = some k) : ∃ p q, toPy a = some p ∧ toPy b = some q ∧ SeqAt.shaped p = true ∧ SeqAt.shaped q = true ∧ k = PyData.eqv p q := by
  unfold eqD at h
  split at h
  · rename_i p q h1 h2
    split at h
    · rename_i hs
      cases h
      exact ⟨p, q, h1, h2, hs.1, hs.2, rfl⟩
    · cases h
  · cases h
theorem op2_eq : Op2 K (rEqD K) fEq := by
  intro S env σ tp tv H a b c x y Q wx wy e q
  unfold fEq at e
  cases z : eqD a b with
  | none => rw [z] at e; cases e
  | some k =>
    rw [z] at e
    cases e
    obtain ⟨p, p', h1, h2, h3, h4, h5⟩ := eqD_at z
    subst h5
    exact ⟨p, p', wx.dp h1, wy.dp h2, h3, h4, q _ (View.sc wx.rel rfl)⟩
theorem op2_ne : Op2 K (rNeD K) fNe := by
  intro S env σ tp tv H a b c x y Q wx wy e q
  unfold fNe at e
  cases z : eqD a b with
  | none => rw [z] at e; cases e
  | some k =>
    rw [z] at e
    cases e
    obtain ⟨p, p', h1, h2, h3, h4, h5⟩ := eqD_at z
    subst h5
    exact ⟨p, p', wx.dp h1, wy.dp h2, h3, h4, q _ (View.sc wx.rel rfl)⟩
/-- in a text, a list, a tuple -/
def rInA (K : PySem.W.Frag) (neg : Bool) : R2 := fun x y H Q => (∃ d ds, Dp K H x d ∧ (Dp K H y (.list ds) ∨ Dp K H y (.tuple ds)) ∧ SeqAt.shaped d = true ∧ SeqAt.shaped (.list ds) = true ∧ Q (.bl (neg ^^ ds.any fun z => PyData.eqv z d)) H) ∨
  ∃ (c : Nat) (z : Str), x = .str ⟨#[c]⟩ ∧ y = .str z ∧ Q (.bl (neg ^^ decide (c ∈ z.cps.toList))) H
theorem op_inA {X : Cx} (hu : X.A.units + 65 < cLine) : OpR X (compareOp .In) (rInA X.K false) := by
  intro pins s σ H x y v u Q I rx ry h
  rcases h with ⟨d, ds, hd, he, sd, se, q⟩ | ⟨c, z, e1, e2, q⟩
  · obtain ⟨as, r1⟩ := Dp.reads I d x v hd rx
    have q' : Q (.bl (ds.any fun z => PyData.eqv z d)) H := by simpa using q
    rcases he with he | he
    · obtain ⟨bs, r2⟩ := Dp.reads I (.list ds) y u he ry
      exact SeqAt.in_list_reads r2 r1 (SeqAt.canLay_of_shaped se) (SeqAt.canLay_of_shaped sd) (room_in_shaped sd hu) ⟨.bl _, H, I, rfl, q'⟩
    · obtain ⟨bs, r2⟩ := Dp.reads I (.tuple ds) y u he ry
      exact SeqAt.in_tuple_reads r2 r1 (SeqAt.canLay_of_shaped se) (SeqAt.canLay_of_shaped sd) (room_in_shaped sd hu) ⟨.bl _, H, I, rfl, q'⟩
  · exact op_in_sign pins s σ H x y v u Q I rx ry ⟨c, z, e1, e2, by simpa using q⟩
theorem View.seqDp {S : Sto} {env : Env} {σ : L2.St} {tp : Env} {tv : List (Option V)} {H : Hp} {d : D} {v : V} {ds : List D} {ps : List PyData} (h : View K S env σ tp tv H d v) (e : itemsOf S d = some ds) (ep : toPys ds = some ps) : Dp K H v (.list ps) ∨ Dp K H v (.tuple ps) := by
  unfold itemsOf at e
  split at e
  · cases e
    exact .inr (h.dp (by unfold toPy; rw [ep]))
  · cases e
    exact .inl (h.dp (by unfold toPy; rw [ep]))
  · split at e
    · rename_i hh
      cases e
      exact .inl ((h.deref hh).dp (by unfold toPy; rw [ep]))
    · cases e
  · cases e
theorem op2_inG {neg : Bool} : Op2 K (rInA K neg) fun S a b => (inD S a b).map fun k => .bl (neg ^^ k) := by
  intro S env σ tp tv H a b c x y Q wx wy e q
  cases z : inD S a b with
  | none => simp only [z] at e; cases e
  | some k =>
    simp only [z] at e
    cases e
    unfold inD at z
    split at z
    · split at z
      · rename_i xx
        split at z
        · rename_i h1
          cases z
          have ex : xx = ⟨#[xx.cps.getD 0 0]⟩ := by
            obtain ⟨⟨l⟩⟩ := xx
            match l, h1 with
            | [c], _ => rfl
          exact .inr ⟨xx.cps.getD 0 0, _, by rw [wx.sc_inv rfl, ← ex], wy.sc_inv rfl, q _ (View.sc wx.rel rfl)⟩
        · cases z
      · cases z
    · split at z
      · rename_i ds hd
        split at z
        · rename_i p ps h1 h2
          split at z
          · rename_i hs
            cases z
            exact .inl ⟨p, ps, wx.dp h1, wy.seqDp hd h2, hs.1, hs.2, q _ (View.sc wx.rel rfl)⟩
          · cases z
        · cases z
      · cases z
theorem op2_in : Op2 K (rInA K false) fIn := op2_inG
/-- is None -/
def isNon : D → Bool
  | .non => true
  | _ => false
def fIsN : Sto → D → D → Option D := fun _ a b => if isNon b = true then some (.bl (isNon a)) else none
def fNotN : Sto → D → D → Option D := fun _ a b => if isNon b = true then some (.bl (!isNon a)) else none
end
section
variable {X : Cx} {a b : Expr} {pos : Pos} {ma mb : MB} {na nb : ME}
theorem st_eq (hu : X.A.units + 65 < cLine) (ha : SE X a na) (hb : SE X b nb) : ST X (.Compare a [.Eq] [b] pos) (tE (eOp fEq na nb)) := st_cmp (op_eqD (by omega)) op2_eq ha hb (nomark _)
theorem st_eqB (hu : X.A.units + 65 < cLine) (ha : SB X a ma) (hb : SB X b mb) : ST X (.Compare a [.Eq] [b] pos) (tE (eB (bOp fEq ma mb))) := st_cmpB (op_eqD (by omega)) op2_eq ha hb (nomark _)
theorem st_ne (hu : X.A.units + 65 < cLine) (ha : SE X a na) (hb : SE X b nb) : ST X (.Compare a [.NotEq] [b] pos) (tE (eOp fNe na nb)) := st_cmp (op_neD (by omega)) op2_ne ha hb (nomark _)
theorem st_neB (hu : X.A.units + 65 < cLine) (ha : SB X a ma) (hb : SB X b mb) : ST X (.Compare a [.NotEq] [b] pos) (tE (eB (bOp fNe ma mb))) := st_cmpB (op_neD (by omega)) op2_ne ha hb (nomark _)
theorem se_in (hu : X.A.units + 65 < cLine) (ha : SE X a na) (hb : SE X b nb) (hm : behindInMarks .In b = false := by rfl) : SE X (.Compare a [.In] [b] pos) (eOp fIn na nb) := se_cmp (op_inA hu) op2_in ha hb hm
theorem sb_in (hu : X.A.units + 65 < cLine) (ha : SB X a ma) (hb : SB X b mb) (hm : behindInMarks .In b = false := by rfl) : SB X (.Compare a [.In] [b] pos) (bOp fIn ma mb) := sb_cmp (op_inA hu) op2_in ha hb hm
theorem st_inB (hu : X.A.units + 65 < cLine) (ha : SB X a ma) (hb : SB X b mb) (hm : behindInMarks .In b = false := by rfl) : ST X (.Compare a [.In] [b] pos) (tE (eB (bOp fIn ma mb))) := st_cmpB (op_inA hu) op2_in ha hb hm
end
end N1
end
section
namespace N1
open PySem PySem.Spec PyProof.Rows L2
/-- the items of a list or tuple that stand still, all held at once -/
theorem View.spread {K : PySem.W.Frag} {S : Sto} {env : Env} {σ : L2.St} {tp : Env} {tv : List (Option V)} {H : Hp} {d : D} {v : V} {ds : List D} (h : View K S env σ tp tv H d v) (e : itemsOf S d = some ds) (hf : isFs ds = true) :
    ∃ a xs, v = .ref a ∧ (SqL K H a xs ∨ SqT K H a xs) ∧ ((∀ es, d ≠ .tup es) → SqL K H a xs) ∧ ((∃ es, d = .tup es) → SqT K H a xs) ∧ ds.length = xs.length ∧ Rel K S env σ (ds.map some ++ tp) (xs.map some ++ tv) H := by
  have fin : ∀ {F : Addr → Prop} {mu oS oE oT o : List Addr} {xs : List V}, RelW K F mu oS oE oT (S.map some) env σ tp tv H → Rps K F mu H ds xs o → Rel K S env σ (ds.map some ++ tp) (xs.map some ++ tv) H := fun {F mu oS oE oT o xs} w r => by
    have n := Rps.noown ds xs o hf r
    subst n
    exact ⟨F, mu, oS, oE, oT, w.1, w.2.1, RpO.app (o1 := []) (RpO.of_all r) w.2.2.1, w.2.2.2⟩
  have lst : ∀ {b : Bool} {v : V}, View K S env σ tp tv H (.lst b ds) v → ∃ a xs, v = .ref a ∧ SqL K H a xs ∧ ds.length = xs.length ∧ Rel K S env σ (ds.map some ++ tp) (xs.map some ++ tv) H := fun {b v} h => by
    obtain ⟨F, mu, oS, oE, oT, o, w, r, s⟩ := h
    unfold Rp at r
    obtain ⟨a, xs, o', e1, r, q⟩ := r
    refine ⟨a, xs, e1, ?_, r.len, fin w r⟩
    rcases q with ⟨_, q, _⟩ | ⟨_, q, _⟩
    · exact .inl (.inl q)
    · exact q.seq
  unfold itemsOf at e
  split at e
  · cases e
    obtain ⟨F, mu, oS, oE, oT, o, w, r, s⟩ := h
    unfold Rp at r
    obtain ⟨a, xs, e1, hs, r⟩ := r
    exact ⟨a, xs, e1, .inr (.inl (.inl hs)), fun z => absurd rfl (z _), fun _ => .inl (.inl hs), r.len, fin w r⟩
  · cases e
    obtain ⟨a, xs, e1, hs, l, r⟩ := lst h
    exact ⟨a, xs, e1, .inl hs, fun _ => hs, (fun ⟨es, z⟩ => by cases z), l, r⟩
  · split at e
    · rename_i hh
      cases e
      obtain ⟨a, xs, e1, hs, l, r⟩ := lst (h.deref hh)
      exact ⟨a, xs, e1, .inl hs, fun _ => hs, (fun ⟨es, z⟩ => by cases z), l, r⟩
    · cases e
  · cases e
/-- an item seen, its list or tuple too -/
theorem View.seq {K : PySem.W.Frag} {S : Sto} {env : Env} {σ : L2.St} {tp : Env} {tv : List (Option V)} {H : Hp} {d : D} {v : V} {ds : List D} (h : View K S env σ tp tv H d v) (e : itemsOf S d = some ds) :
    ∃ a xs, v = .ref a ∧ (SqL K H a xs ∨ SqT K H a xs) ∧ ((∀ es, d ≠ .tup es) → SqL K H a xs) ∧ ds.length = xs.length ∧ ∀ (i : Nat) (c : D), ds[i]? = some c → ∃ x, xs[i]? = some x ∧ View K S env σ tp tv H c x := by
  unfold itemsOf at e
  split at e
  · cases e
    obtain ⟨a, xs, e1, hs, l, it⟩ := h.tup
    exact ⟨a, xs, e1, .inr hs, fun z => absurd rfl (z _), l, it⟩
  · cases e
    obtain ⟨a, xs, e1, hs, _, l, it⟩ := h.lst
    exact ⟨a, xs, e1, .inl hs, fun _ => hs, l, it⟩
  · split at e
    · rename_i hh
      cases e
      obtain ⟨a, xs, e1, hs, _, l, it⟩ := (h.deref hh).lst
      exact ⟨a, xs, e1, .inl hs, fun _ => hs, l, it⟩
    · cases e
  · cases e
theorem Views.one {K : PySem.W.Frag} {S : Sto} {env : Env} {σ : L2.St} {tp : Env} {tv : List (Option V)} {H : Hp} {d : D} {xs : List V} (h : Views K S env σ tp tv H [d] xs) : ∃ x, xs = [x] ∧ View K S env σ tp tv H d x := by
  obtain ⟨x, e⟩ := len1 (vs := xs) (by simpa using h.1)
  obtain ⟨y, h1, h2⟩ := h.2 0 d rfl
  subst e
  cases h1
  exact ⟨_, rfl, h2⟩
theorem Views.two {K : PySem.W.Frag} {S : Sto} {env : Env} {σ : L2.St} {tp : Env} {tv : List (Option V)} {H : Hp} {c d : D} {xs : List V} (h : Views K S env σ tp tv H [c, d] xs) : ∃ x y, xs = [x, y] ∧ View K S env σ tp tv H c x ∧ View K S env σ tp tv H d y := by
  obtain ⟨x, y, e⟩ := len2 (vs := xs) (by simpa using h.1)
  obtain ⟨y', h1, h2⟩ := h.2 0 c rfl
  obtain ⟨y'', h3, h4⟩ := h.2 1 d rfl
  subst e
  cases h1; cases h3
  exact ⟨_, _, rfl, h2, h4⟩
def lenD (S : Sto) : D → Option Nat
  | .str z => if z.length ≤ 16777216 then some z.length else none
  | d => (itemsOf S d).map List.length
def fLen : Sto → List D → Option D := fun S ds => match ds with
  | [d] => (lenD S d).map fun n => .int n
  | _ => none
def fAbs : Sto → List D → Option D := fun _ ds => match ds with
  | [.int i] => some (.int (if i < 0 then -i else i))
  | _ => none
def fMax2 : Sto → List D → Option D := fun _ ds => match ds with
  | [.int i, .int j] => some (.int (if j > i then j else i))
  | _ => none
def fMin2 : Sto → List D → Option D := fun _ ds => match ds with
  | [.int i, .int j] => some (.int (if j < i then j else i))
  | _ => none
def fInt : Sto → List D → Option D := fun _ ds => match ds with
  | [.int i] => some (.int i)
  | [.bl b] => some (.int (if b = true then 1 else 0))
  | _ => none
def blsOf : List D → Option (List Bool)
  | [] => some []
  | .bl b :: ds => (blsOf ds).map fun bs => b :: bs
  | _ :: _ => none
def intsOf : List D → Option (List Int)
  | [] => some []
  | .int b :: ds => (intsOf ds).map fun bs => b :: bs
  | _ :: _ => none
theorem blsOf_sc : ∀ {ds : List D} {bs : List Bool}, blsOf ds = some bs → ds.map D.sc = (bs.map V.bl).map some
  | [], bs, e => by unfold blsOf at e; cases e; rfl
  | d :: ds, bs, e => by
    cases d with
    | bl b =>
      unfold blsOf at e
      cases z : blsOf ds with
      | none => rw [z] at e; cases e
      | some bs' =>
        rw [z] at e
        cases e
        show D.sc (.bl b) :: ds.map D.sc = some (V.bl b) :: (bs'.map V.bl).map some
        rw [blsOf_sc z]
        rfl
    | _ => unfold blsOf at e; cases e
theorem intsOf_sc : ∀ {ds : List D} {bs : List Int}, intsOf ds = some bs → ds.map D.sc = (bs.map V.int).map some
  | [], bs, e => by unfold intsOf at e; cases e; rfl
  | d :: ds, bs, e => by
    cases d with
    | int b =>
      unfold intsOf at e
      cases z : intsOf ds with
      | none => rw [z] at e; cases e
      | some bs' =>
        rw [z] at e
        cases e
        show D.sc (.int b) :: ds.map D.sc = some (V.int b) :: (bs'.map V.int).map some
        rw [intsOf_sc z]
        rfl
    | _ => unfold intsOf at e; cases e
theorem intsOf_map : ∀ ns : List Int, intsOf (ns.map D.int) = some ns
  | [] => rfl
  | n :: ns => by show (intsOf (ns.map D.int)).map _ = _; rw [intsOf_map ns]; rfl
theorem blsOf_map : ∀ ns : List Bool, blsOf (ns.map D.bl) = some ns
  | [] => rfl
  | n :: ns => by show (blsOf (ns.map D.bl)).map _ = _; rw [blsOf_map ns]; rfl
theorem intsOf_inv : ∀ {ds : List D} {ns : List Int}, intsOf ds = some ns → ds = ns.map D.int
  | [], ns, e => by unfold intsOf at e; cases e; rfl
  | d :: ds, ns, e => by
    cases d with
    | int b =>
      unfold intsOf at e
      cases z : intsOf ds with
      | none => rw [z] at e; cases e
      | some bs' =>
        rw [z] at e
        cases e
        rw [intsOf_inv z]
        rfl
    | _ => unfold intsOf at e; cases e
/-- a list (no tuple) -/
def listOfD (S : Sto) : D → Option (List D)
  | .tup _ => none
  | d => itemsOf S d
theorem listOfD_items {S : Sto} {d : D} {ds : List D} (h : listOfD S d = some ds) : itemsOf S d = some ds ∧ ∀ es, d ≠ .tup es := by
  unfold listOfD at h
  split at h
  · cases h
  · rename_i hn
    exact ⟨h, fun es e => hn es e⟩
def fAll : Sto → List D → Option D := fun S ds => match ds with
  | [d] => match listOfD S d with
    | some es => (blsOf es).map fun bs => .bl (bs.all id)
    | none => none
  | _ => none
def fAny : Sto → List D → Option D := fun S ds => match ds with
  | [d] => match listOfD S d with
    | some es => (blsOf es).map fun bs => .bl (bs.any id)
    | none => none
  | _ => none
def fSum : Sto → List D → Option D := fun S ds => match ds with
  | [d] => match listOfD S d with
    | some es => (intsOf es).map fun bs => .int bs.sum
    | none => none
  | _ => none
section
variable {K : PySem.W.Frag}
theorem opv_len : OpV K (fun xs H Q => (∃ p ys, xs = [.ref p] ∧ (SqL K H p ys ∨ SqT K H p ys) ∧ Q (.int ys.length) H) ∨ ∃ z, xs = [.str z] ∧ z.length ≤ sizeLine ∧ Q (.int z.length) H) fLen := by
  intro S env σ tp tv H ds xs c Q r vw e q
  unfold fLen at e
  split at e
  · rename_i d
    obtain ⟨x, ex, w⟩ := vw.one
    cases z : lenD S d with
    | none => rw [z] at e; cases e
    | some n =>
      rw [z] at e
      cases e
      unfold lenD at z
      split at z
      · split at z
        · rename_i hz
          cases z
          exact .inr ⟨_, by rw [ex, w.sc_inv rfl], hz, q _ (View.sc r rfl)⟩
        · cases z
      · cases hi : itemsOf S d with
        | none => rw [hi] at z; cases z
        | some es =>
          rw [hi] at z
          cases z
          obtain ⟨a, ys, e1, hs, _, l, _⟩ := w.seq hi
          subst e1
          exact .inl ⟨a, ys, ex, hs, by rw [← l]; exact q _ (View.sc r rfl)⟩
  · cases e
theorem opv_abs : OpV K (fun xs H Q => ∃ i, xs = [.int i] ∧ Q (.int (if i < 0 then -i else i)) H) fAbs := by
  intro S env σ tp tv H ds xs c Q r vw e q
  unfold fAbs at e
  split at e
  · cases e
    obtain ⟨x, ex, w⟩ := vw.one
    exact ⟨_, by rw [ex, w.sc_inv rfl], q _ (View.sc r rfl)⟩
  · cases e
theorem opv_max2 : OpV K (fun xs H Q => ∃ i j, xs = [.int i, .int j] ∧ Q (.int (if j > i then j else i)) H) fMax2 := by
  intro S env σ tp tv H ds xs c Q r vw e q
  unfold fMax2 at e
  split at e
  · cases e
    obtain ⟨x, y, ex, w, w'⟩ := vw.two
    exact ⟨_, _, by rw [ex, w.sc_inv rfl, w'.sc_inv rfl], q _ (View.sc r rfl)⟩
  · cases e
theorem opv_min2 : OpV K (fun xs H Q => ∃ i j, xs = [.int i, .int j] ∧ Q (.int (if j < i then j else i)) H) fMin2 := by
  intro S env σ tp tv H ds xs c Q r vw e q
  unfold fMin2 at e
  split at e
  · cases e
    obtain ⟨x, y, ex, w, w'⟩ := vw.two
    exact ⟨_, _, by rw [ex, w.sc_inv rfl, w'.sc_inv rfl], q _ (View.sc r rfl)⟩
  · cases e
theorem opv_lists {A : Type} {g : A → V} {of : List D → Option (List A)} {ans : List A → D} {rr : List V → Hp → VK → Prop} {f : Sto → List D → Option D}
    (hof : ∀ {ds : List D} {bs : List A}, of ds = some bs → ds.map D.sc = (bs.map g).map some) (hf : f = fun S ds => match ds with
      | [d] => match listOfD S d with
        | some es => (of es).map ans
        | none => none
      | _ => none)
    (hr : ∀ (xs : List V) (H : Hp) (Q : VK) (a : Addr) (bs : List A), xs = [.ref a] → SqL K H a (bs.map g) → (∀ u, (ans bs).sc = some u → Q u H) → rr xs H Q) : OpV K rr f := by
  intro S env σ tp tv H ds xs c Q r vw e q
  rw [hf] at e
  simp only at e
  split at e
  · rename_i d
    obtain ⟨x, ex, w⟩ := vw.one
    split at e
    · rename_i es hl
      cases z : of es with
      | none => rw [z] at e; cases e
      | some bs =>
        rw [z] at e
        cases e
        obtain ⟨hi, hn⟩ := listOfD_items hl
        obtain ⟨a, ys, e1, _, hs, l, it⟩ := w.seq hi
        have ey := View.scs l it (hof z)
        subst e1; subst ey
        exact hr xs H Q a bs ex (hs hn) fun u hu => q u (View.sc r hu)
    · cases e
  · cases e
theorem opv_all : OpV K (rAll K) fAll := opv_lists (g := V.bl) (of := blsOf) (ans := fun bs => .bl (bs.all id)) blsOf_sc rfl fun xs H Q a bs ex hs q => ⟨a, bs, ex, hs, q _ rfl⟩
end
def fTup : Sto → List D → Option D := fun S ds => match ds with
  | [d] => match itemsOf S d with
    | some es => if isFs es = true then some (.tup es) else none
    | none => none
  | _ => none
def fLst : Sto → List D → Option D := fun S ds => match ds with
  | [d] => match itemsOf S d with
    | some es => if isFs es = true then some (.lst true es) else none
    | none => none
  | _ => none
section
variable {K : PySem.W.Frag}
theorem alv_tup : AlV K (fun xs H Q => ∃ p ys, xs = [.ref p] ∧ ((SqL K H p ys ∧ ∀ l, H l = none → Q (.ref l) (upd H l (.tup ys))) ∨ (SqT K H p ys ∧ Q (.ref p) H))) fTup := by
  intro S env σ tp tv H ds xs c Q r vw e q
  unfold fTup at e
  split at e
  · rename_i d
    obtain ⟨x, ex, w⟩ := vw.one
    split at e
    · rename_i es hi
      split at e
      · rename_i hf
        cases e
        obtain ⟨a, ys, e1, _, hL, hT, l, r1⟩ := w.spread hi hf
        subst e1
        refine ⟨a, ys, ex, ?_⟩
        by_cases ht : ∃ es', d = .tup es'
        · refine .inr ⟨hT ht, q _ _ ?_⟩
          obtain ⟨es', et⟩ := ht
          subst et
          have : es' = es := by
            unfold itemsOf at hi
            exact Option.some.inj hi
          subst this
          exact w.push (by unfold D.isF; exact hf)
        · exact .inl ⟨hL fun es' z => ht ⟨es', z⟩, fun p hp => q _ _ (r1.mkTup l hp)⟩
      · cases e
    · cases e
  · cases e
theorem alv_lst : AlV K (fun xs H Q => ∃ p ys, xs = [.ref p] ∧ (SqL K H p ys ∨ SqT K H p ys) ∧ ∀ l, H l = none → Q (.ref l) (upd H l (.lst ys))) fLst := by
  intro S env σ tp tv H ds xs c Q r vw e q
  unfold fLst at e
  split at e
  · rename_i d
    obtain ⟨x, ex, w⟩ := vw.one
    split at e
    · rename_i es hi
      split at e
      · rename_i hf
        cases e
        obtain ⟨a, ys, e1, hs, _, _, l, r1⟩ := w.spread hi hf
        subst e1
        exact ⟨a, ys, ex, hs, fun p hp => q _ _ (r1.mkLst l hp)⟩
      · cases e
    · cases e
  · cases e
/-- a list of ints, sorted -/
def insI (n : Int) : List Int → List Int
  | [] => [n]
  | m :: ms => if n ≤ m then n :: m :: ms else m :: insI n ms
def sortI : List Int → List Int
  | [] => []
  | n :: ns => insI n (sortI ns)
theorem insI_perm (n : Int) : ∀ ms : List Int, (insI n ms).Perm (n :: ms)
  | [] => .refl _
  | m :: ms => by
    unfold insI
    split
    · exact .refl _
    · exact ((insI_perm n ms).cons m).trans (.swap n m ms)
theorem sortI_perm : ∀ ns : List Int, (sortI ns).Perm ns
  | [] => .refl _
  | n :: ns => (insI_perm n (sortI ns)).trans ((sortI_perm ns).cons n)
theorem insI_sorted (n : Int) : ∀ ms : List Int, ms.Pairwise (· ≤ ·) → (insI n ms).Pairwise (· ≤ ·)
  | [], _ => by unfold insI; exact List.pairwise_singleton _ _
  | m :: ms, h => by
    unfold insI
    rw [List.pairwise_cons] at h
    split
    · rename_i hn
      refine List.pairwise_cons.mpr ⟨fun a ha => ?_, List.pairwise_cons.mpr h⟩
      rcases List.mem_cons.mp ha with e | ha
      · rw [e]; exact hn
      · have := h.1 a ha; omega
    · rename_i hn
      refine List.pairwise_cons.mpr ⟨fun a ha => ?_, insI_sorted n ms h.2⟩
      rcases List.mem_cons.mp ((insI_perm n ms).mem_iff.mp ha) with e | ha
      · rw [e]; omega
      · exact h.1 a ha
theorem sortI_sorted : ∀ ns : List Int, (sortI ns).Pairwise (· ≤ ·)
  | [] => .nil
  | n :: ns => insI_sorted n _ (sortI_sorted ns)
theorem sorted_unique : ∀ {as bs : List Int}, as.Perm bs → as.Pairwise (· ≤ ·) → bs.Pairwise (· ≤ ·) → as = bs
  | [], bs, p, _, _ => (List.nil_perm.mp p).symm
  | a :: as, [], p, _, _ => absurd (List.perm_nil.mp p) (by simp)
  | a :: as, b :: bs, p, h1, h2 => by
    rw [List.pairwise_cons] at h1 h2
    have e : a = b := by
      have ha : a ∈ b :: bs := p.mem_iff.mp List.mem_cons_self
      have hb : b ∈ a :: as := p.mem_iff.mpr List.mem_cons_self
      rcases List.mem_cons.mp ha with e | ha
      · exact e
      · rcases List.mem_cons.mp hb with e | hb
        · exact e.symm
        · have := h1.1 b hb
          have := h2.1 a ha
          omega
    subst e
    rw [sorted_unique ((List.perm_cons a).mp p) h1.2 h2.2]
def fSort : Sto → List D → Option D := fun S ds => match ds with
  | [d] => match listOfD S d with
    | some es => (intsOf es).map fun ns => .lst true ((sortI ns).map D.int)
    | none => none
  | _ => none
end
end N1
end
section
namespace N1
open PySem PySem.Spec PyProof.Rows L2
section
variable {K : PySem.W.Frag} {S : List (Option D)} {env : Env} {σ : L2.St} {tp : Env} {tv : List (Option V)} {H : Hp} {d : D} {v : V}
theorem RelO.open_ {ds : List D} {w : V} (h : RelO K S env σ (some (.lst true ds) :: tp) (some w :: tv) H) : ∃ a xs, w = .ref a ∧ H a = some (.lst xs) ∧ ds.length = xs.length ∧
    RelO K S env σ (ds.map some ++ (some (.lst true []) :: tp)) (xs.map some ++ (some w :: tv)) (upd H a (.lst [])) := by
  obtain ⟨F, mu, oS, oE, oT, h1, h2, h3, h4⟩ := h
  obtain ⟨x, p1, p2, ev, eo, hc, h3'⟩ := h3.cons_inv
  injection ev with ev
  subst ev; subst eo
  unfold Rp at hc
  obtain ⟨a, xs, o', e, r, q⟩ := hc
  have q' : H a = some (.lst xs) ∧ p1 = a :: o' := by
    rcases q with ⟨_, q, e2⟩ | ⟨e1, _⟩
    · exact ⟨q, e2⟩
    · cases e1
  obtain ⟨qa, e2⟩ := q'
  subst e2
  refine ⟨a, xs, e, qa, r.len, ?_⟩
  have pp : (oS ++ (oE ++ (o' ++ ([a] ++ p2)))).Perm (oS ++ (oE ++ (a :: o' ++ p2))) := by
    refine List.Perm.append_left oS (List.Perm.append_left oE ?_)
    have := perm2 o' [a] p2
    simpa using this
  have ha : a ∈ oS ++ (oE ++ (a :: o' ++ p2)) := by simp
  have m : Mv F F mu mu H (upd H a (.lst [])) (fun b => b = a) := mv_put h4 ha
  have nd := h4.nd
  have na : ∀ b ∈ oS ++ (oE ++ (o' ++ p2)), ¬ b = a := fun b hb e => by
    subst e
    have nd' : (b :: (oS ++ (oE ++ (o' ++ p2)))).Nodup := ((show (oS ++ (oE ++ ([b] ++ (o' ++ p2)))).Perm ([b] ++ (oS ++ (oE ++ (o' ++ p2)))) from perm3 oE [b] oS (o' ++ p2)).nodup_iff).mp (by simpa using nd)
    exact (List.nodup_cons.mp nd').1 hb
  refine ⟨F, mu, oS, oE, o' ++ ([a] ++ p2), h1.mv m _ _ _ (fun b z => na b (by simp [z])), h2.mv m _ _ _ (fun b z => na b (by simp [z])), ?_, (h4.put (u := .lst []) ha trivial).perm pp⟩
  refine RpO.app (RpO.of_all (r.mv m _ _ _ (fun b z => na b (by simp [z])))) (RpO.cons_mk ?_ (h3'.mv m _ _ _ (fun b z => na b (by simp [z]))))
  unfold Rp
  exact ⟨a, [], [], e, Rps.nil_mk, .inl ⟨rfl, upd_same, rfl⟩⟩
theorem RelO.close {ds : List D} {xs : List V} {a : Addr} (l : ds.length = xs.length) (h : RelO K S env σ (ds.map some ++ (some (.lst true []) :: tp)) (xs.map some ++ (some (.ref a) :: tv)) H) :
    RelO K S env σ (some (.lst true ds) :: tp) (some (.ref a) :: tv) (upd H a (.lst xs)) := by
  obtain ⟨F, mu, oS, oE, oT, h1, h2, h3, h4⟩ := h
  obtain ⟨p1, p2, eo, hi, h3'⟩ := RpO.split (by simpa using l) h3
  subst eo
  obtain ⟨xs', e, r⟩ := RpO.all hi
  have e' := all_map e
  subst e'
  obtain ⟨x, q1, q2, ev, eo, hc, h3''⟩ := h3'.cons_inv
  injection ev with ev
  subst ev; subst eo
  unfold Rp at hc
  obtain ⟨a', ys, o', e1, r0, q⟩ := hc
  injection e1 with e1
  subst e1
  have q' : q1 = a :: o' ∧ o' = [] := by
    rcases q with ⟨_, q, e2⟩ | ⟨e1, _⟩
    · refine ⟨e2, ?_⟩
      unfold Rps at r0
      exact r0.2
    · cases e1
  obtain ⟨e2, e3⟩ := q'
  subst e3; subst e2
  have ha : a ∈ oS ++ (oE ++ (p1 ++ ([a] ++ q2))) := by simp
  have m : Mv F F mu mu H (upd H a (.lst xs)) (fun b => b = a) := mv_put h4 ha
  have nd := h4.nd
  have na : ∀ b ∈ oS ++ (oE ++ (p1 ++ q2)), ¬ b = a := fun b hb e => by
    subst e
    have nd' : (b :: (oS ++ (oE ++ (p1 ++ q2)))).Nodup := ((show (oS ++ (oE ++ (p1 ++ ([b] ++ q2)))).Perm ([b] ++ (oS ++ (oE ++ (p1 ++ q2)))) from
      (((perm2 p1 [b] q2).append_left oE).append_left oS).trans (perm3 oE [b] oS (p1 ++ q2))).nodup_iff).mp (by simpa using nd)
    exact (List.nodup_cons.mp nd').1 hb
  refine ⟨F, mu, oS, oE, (a :: p1) ++ q2, h1.mv m _ _ _ (fun b z => na b (by simp [z])), h2.mv m _ _ _ (fun b z => na b (by simp [z])), RpO.cons_mk ?_ (h3''.mv m _ _ _ (fun b z => na b (by simp [z]))), (h4.put (u := .lst xs) ha trivial).perm ?_⟩
  · unfold Rp
    exact ⟨a, xs, p1, rfl, r.mv m _ _ _ (fun b z => na b (by simp [z])), .inl ⟨rfl, upd_same, rfl⟩⟩
  · refine List.Perm.append_left oS (List.Perm.append_left oE ?_)
    have := perm2 [a] p1 q2
    simpa using this
theorem RelO.ne2 {ds es : List D} {b a : Addr} (h : RelO K S env σ (some (.lst true ds) :: some (.lst true es) :: tp) (some (.ref b) :: some (.ref a) :: tv) H) : b ≠ a := by
  obtain ⟨F, mu, oS, oE, oT, h1, h2, h3, h4⟩ := h
  obtain ⟨x, p1, p2, ev, eo, hc, h3'⟩ := h3.cons_inv
  injection ev with ev
  subst ev; subst eo
  obtain ⟨x, q1, q2, ev, eo, hc', h3''⟩ := h3'.cons_inv
  injection ev with ev
  subst ev; subst eo
  unfold Rp at hc hc'
  obtain ⟨a', xs, o', e, r, q⟩ := hc
  obtain ⟨a'', xs', o'', e', r', q'⟩ := hc'
  injection e with e
  injection e' with e'
  subst e; subst e'
  have k1 : p1 = b :: o' := by
    rcases q with ⟨_, _, e2⟩ | ⟨e1, _⟩
    · exact e2
    · cases e1
  have k2 : q1 = a :: o'' := by
    rcases q' with ⟨_, _, e2⟩ | ⟨e1, _⟩
    · exact e2
    · cases e1
  intro e
  subst e; subst k1; subst k2
  have nd := (List.nodup_append.mp (List.nodup_append.mp h4.nd).2.1).2.1
  have := (List.nodup_cons.mp (show (b :: (o' ++ (b :: o'' ++ q2))).Nodup by simpa using nd)).1
  exact this (by simp)
theorem RelO.takeS {n : Nat} (h : RelO K S env σ (some (.ref n) :: tp) (some v :: tv) H) (e : S[n]? = some (some d)) : RelO K (S.set n none) env σ (some d :: some (.ref n) :: tp) (some v :: some v :: tv) H := by
  obtain ⟨F, mu, oS, oE, oT, h1, h2, h3, h4⟩ := h
  obtain ⟨x, p1, p2, ev, eo, hc, h3'⟩ := h3.cons_inv
  injection ev with ev
  subst ev; subst eo
  have hc' := hc
  unfold Rp at hc'
  obtain ⟨a, e1, e2, e3⟩ := hc'
  subst e3
  obtain ⟨w, q, oL, oR, ew, r, eq, h1', _⟩ := h1.focus e
  subst eq
  have : w = .ref a := by
    rw [List.getElem?_map, e1] at ew
    simpa using ew.symm
  subst this; subst e2
  refine ⟨F, mu, oL ++ oR, oE, q ++ ([] ++ p2), h1', h2, RpO.cons_mk r (RpO.cons_mk hc h3'), h4.perm ?_⟩
  have := (perm4 oE q oR oL p2)
  simp only [List.append_assoc, List.nil_append] at this ⊢
  have k := ((perm2 oE q p2).append_left oR).append_left oL
  have k2 := (perm2 oR q (oE ++ p2)).append_left oL
  exact (k.trans k2)
theorem RelO.putS {n : Nat} (hn : n < S.length) (h : RelO K S env σ (some d :: some (.ref n) :: tp) (some v :: some v :: tv) H) : RelO K (S.set n (some d)) env σ (some (.ref n) :: tp) (some v :: tv) H := by
  obtain ⟨F, mu, oS, oE, oT, h1, h2, h3, h4⟩ := h
  obtain ⟨x, p1, p2, ev, eo, hc, h3'⟩ := h3.cons_inv
  injection ev with ev
  subst ev; subst eo
  obtain ⟨x, q1, q2, ev, eo, hc', h3''⟩ := h3'.cons_inv
  injection ev with ev
  subst ev; subst eo
  have hr := hc'
  unfold Rp at hr
  obtain ⟨a, e1, e2, e3⟩ := hr
  subst e2; subst e3
  obtain ⟨o', h1', o1, o2, o3, e5, e6⟩ := RpO.set (i := n) hn h1 hc
  have em : (mu.map fun a => some (V.ref a)).set n (some (V.ref a)) = mu.map fun a => some (V.ref a) := by
    apply List.ext_getElem?
    intro j
    rw [List.getElem?_set]
    by_cases ej : n = j
    · subst ej
      rw [if_pos rfl, List.getElem?_map, e1]
      have hl : n < mu.length := (List.getElem?_eq_some_iff.mp e1).1
      simp [hl]
    · rw [if_neg ej]
  rw [em] at h1'
  subst e5; subst e6
  refine ⟨F, mu, _, oE, [] ++ q2, h1', h2, RpO.cons_mk hc' h3'', ?_⟩
  have q : Ok F H (o2 ++ ((o1 ++ p1 ++ o3) ++ (oE ++ q2))) := h4.perm (by
    simp only [List.append_assoc, List.nil_append]
    have k1 := perm2 o2 o1 (p1 ++ (o3 ++ (oE ++ q2)))
    refine k1.trans (List.Perm.append_left o1 (List.Perm.append_left o2 ?_))
    refine (perm2 p1 o3 (oE ++ q2)).trans (List.Perm.append_left o3 (perm2 p1 oE q2)))
  have := q.sub ((List.nodup_append.mp q.nd).2.1) fun a ha => List.mem_append_right _ ha
  simpa using this
end
/-- items, arguments, the new items; at the real heap H, told at the heap G where the list is emptied -/
def HM (K : PySem.W.Frag) (P : Hp → Hp → Addr → Prop) (r : V → List V → Hp → VK → Prop) (f : List D → List D → Option (List D)) : Prop :=
  ∀ (S : List (Option D)) (env : Env) (σ : L2.St) (tp : Env) (tv : List (Option V)) (H G : Hp) (a : Addr) (ds as ds' : List D) (xs vs : List V) (Q : VK), P H G a → ds.length = xs.length → as.length = vs.length → H a = some (.lst xs) →
    RelO K S env σ (as.map some ++ (ds.map some ++ (some (.lst true []) :: tp))) (vs.map some ++ (xs.map some ++ (some (.ref a) :: tv))) G → f ds as = some ds' →
    (∀ xs', ds'.length = xs'.length → RelO K S env σ (ds'.map some ++ (some (.lst true []) :: tp)) (xs'.map some ++ (some (.ref a) :: tv)) G → Q .non (upd H a (.lst xs'))) → r (.ref a) vs H Q
def pAny : Hp → Hp → Addr → Prop := fun _ _ _ => True
def pUpd : Hp → Hp → Addr → Prop := fun H G a => G = upd H a (.lst [])
theorem HM.weak {K : PySem.W.Frag} {r : V → List V → Hp → VK → Prop} {f : List D → List D → Option (List D)} (h : HM K pAny r f) : HM K pUpd r f :=
  fun S env σ tp tv H G a ds as ds' xs vs Q _ => h S env σ tp tv H G a ds as ds' xs vs Q trivial
section
variable {K : PySem.W.Frag} {S : List (Option D)} {env : Env} {σ : L2.St} {tp : Env} {tv : List (Option V)} {H : Hp} {r : V → List V → Hp → VK → Prop} {f : List D → List D → Option (List D)}
theorem RelO.mut (ho : HM K pUpd r f) {as ds ds' : List D} {vs : List V} {w : V} (l : as.length = vs.length) (h : RelO K S env σ (as.map some ++ (some (.lst true ds) :: tp)) (vs.map some ++ (some w :: tv)) H) (e : f ds as = some ds') :
    (∃ a xs, w = .ref a ∧ H a = some (.lst xs)) ∧ ∀ Q : VK, (∀ H', RelO K S env σ (some (.lst true ds') :: tp) (some w :: tv) H' → Q .non H') → r w vs H Q := by
  have h1 := RelO.swap (as := as.map some) (bs := [some (.lst true ds)]) (xs := vs.map some) (ys := [some w]) (by simpa using l) rfl h
  obtain ⟨a, xs, ew, ha, lx, h2⟩ := RelO.open_ h1
  subst ew
  refine ⟨⟨a, xs, rfl, ha⟩, fun Q q => ?_⟩
  have h3 := RelO.swap (as := ds.map some ++ [some (.lst true [])]) (bs := as.map some) (tp := tp) (xs := xs.map some ++ [some (.ref a)]) (ys := vs.map some) (tv := tv) (by simp [lx]) (by simpa using l) (by simpa [List.append_assoc] using h2)
  refine ho S env σ tp tv H _ a ds as ds' xs vs Q rfl lx l ha (by simpa [List.append_assoc] using h3) e fun xs' lx' h4 => ?_
  have h5 := RelO.close lx' h4
  rw [upd_upd] at h5
  exact q _ h5
theorem upd_comm {H : Hp} {a b : Addr} {o u : HO} (h : b ≠ a) : upd (upd H a o) b u = upd (upd H b u) a o := by
  funext c
  unfold upd
  by_cases e1 : c = b
  · subst e1; simp [h]
  · by_cases e2 : c = a
    · subst e2; simp [Ne.symm h]
    · simp [e1, e2]
theorem upd_eq {H : Hp} {a : Addr} {o : HO} (h : H a = some o) : upd H a o = H := by
  funext c
  unfold upd
  by_cases e1 : c = a
  · subst e1; simp [h]
  · simp [e1]
theorem split_at {α : Type} {l : List α} {j : Nat} {x : α} (h : l[j]? = some x) : l = l.take j ++ x :: l.drop (j + 1) := by
  have hl := (List.getElem?_eq_some_iff.mp h).1
  have e := (List.getElem?_eq_some_iff.mp h).2
  rw [← e, ← List.drop_eq_getElem_cons hl, List.take_append_drop]
theorem set_split {α : Type} {l : List α} {j : Nat} {x y : α} (h : l[j]? = some x) : l.set j y = l.take j ++ y :: l.drop (j + 1) := by
  have hl := (List.getElem?_eq_some_iff.mp h).1
  rw [List.set_eq_take_append_cons_drop, if_pos hl]
/-- an item of a list of lists -/
theorem RelO.mut1 (ho : HM K pAny r f) {as ds es es' : List D} {vs : List V} {w : V} {j : Nat} (l : as.length = vs.length) (h : RelO K S env σ (as.map some ++ (some (.lst true ds) :: tp)) (vs.map some ++ (some w :: tv)) H) (hj : ds[j]? = some (.lst true es)) (e : f es as = some es') :
    ∃ a xs b ys, w = .ref a ∧ H a = some (.lst xs) ∧ ds.length = xs.length ∧ xs[j]? = some (.ref b) ∧ H b = some (.lst ys) ∧ ∀ Q : VK, (∀ H', RelO K S env σ (some (.lst true (ds.set j (.lst true es'))) :: tp) (some w :: tv) H' → Q .non H') → r (.ref b) vs H Q := by
  have h1 := RelO.swap (as := as.map some) (bs := [some (.lst true ds)]) (xs := vs.map some) (ys := [some w]) (by simpa using l) rfl h
  obtain ⟨a, xs, ew, ha, lx, h2⟩ := RelO.open_ h1
  subst ew
  have hjl : j < xs.length := by rw [← lx]; exact (List.getElem?_eq_some_iff.mp hj).1
  have hjx : xs[j]? = some xs[j] := List.getElem?_eq_getElem hjl
  generalize xs[j] = x at hjx
  have ed := split_at hj
  have ex := split_at hjx
  have lt : (ds.take j).length = (xs.take j).length := by simp [lx]
  have lr : (ds.drop (j + 1)).length = (xs.drop (j + 1)).length := by simp [lx]
  -- the item ahead
  have h3 := RelO.swap (as := (ds.take j).map some) (bs := [some (.lst true es)]) (tp := (ds.drop (j + 1)).map some ++ (some (.lst true []) :: (as.map some ++ tp))) (xs := (xs.take j).map some) (ys := [some x]) (tv := (xs.drop (j + 1)).map some ++ (some (.ref a) :: (vs.map some ++ tv))) (by simp [lx]) rfl
    (by have h2' := h2; rw [ed, ex] at h2'; simpa [List.map_append, List.append_assoc] using h2')
  obtain ⟨b, ys, eb, hb, ly, h4⟩ := RelO.open_ h3
  subst eb
  have hne : b ≠ a := by
    have := RelO.swap (as := some (.lst true es) :: ((ds.take j).map some ++ (ds.drop (j + 1)).map some)) (bs := [some (.lst true [])]) (tp := as.map some ++ tp) (xs := some (.ref b) :: ((xs.take j).map some ++ (xs.drop (j + 1)).map some)) (ys := [some (.ref a)]) (tv := vs.map some ++ tv) (by simp [lx]) rfl
      (by simpa [List.append_assoc] using h3)
    have := RelO.swap (as := [some (.lst true [])]) (bs := [some (.lst true es)]) (xs := [some (.ref a)]) (ys := [some (.ref b)]) rfl rfl (by simpa [List.append_assoc] using this)
    exact RelO.ne2 (K := K) (S := S) (env := env) (σ := σ) (H := upd H a (.lst [])) (ds := es) (es := []) (tp := (ds.take j).map some ++ ((ds.drop (j + 1)).map some ++ (as.map some ++ tp))) (tv := (xs.take j).map some ++ ((xs.drop (j + 1)).map some ++ (vs.map some ++ tv))) (by simpa using this)
  have hb' : H b = some (.lst ys) := by rw [upd_ne hne] at hb; exact hb
  refine ⟨a, xs, b, ys, rfl, ha, lx, hjx, hb', fun Q q => ?_⟩
  -- the arguments ahead
  have h5 := RelO.swap (as := es.map some ++ (some (.lst true []) :: ((ds.take j).map some ++ ((ds.drop (j + 1)).map some ++ [some (.lst true [])])))) (bs := as.map some) (tp := tp)
    (xs := ys.map some ++ (some (.ref b) :: ((xs.take j).map some ++ ((xs.drop (j + 1)).map some ++ [some (.ref a)])))) (ys := vs.map some) (tv := tv) (by simp [lx, ly]) (by simpa using l) (by simpa [List.append_assoc] using h4)
  refine ho S env σ ((ds.take j).map some ++ ((ds.drop (j + 1)).map some ++ (some (.lst true []) :: tp))) ((xs.take j).map some ++ ((xs.drop (j + 1)).map some ++ (some (.ref a) :: tv))) H _ b es as es' ys vs Q trivial ly l hb' (by simpa [List.append_assoc] using h5) e fun ys' ly' h6 => ?_
  have h7 := RelO.close ly' h6
  rw [upd_upd] at h7
  have h8 := RelO.swap (as := [some (.lst true es')]) (bs := (ds.take j).map some) (xs := [some (.ref b)]) (ys := (xs.take j).map some) rfl (by simp [lx]) (by simpa [List.append_assoc] using h7)
  have h9 := RelO.close (ds := ds.set j (.lst true es')) (xs := xs) (a := a) (tp := tp) (tv := tv) (by rw [List.length_set]; exact lx) (by
    rw [set_split hj]
    rw [ex]
    simpa [List.map_append, List.append_assoc] using h8)
  rw [upd_comm hne, upd_upd, ← upd_comm hne, upd_eq ha] at h9
  exact q _ h9
end
end N1
end
section
namespace N1
open PySem PySem.Spec PyProof.Rows L2
def mutE (i : Nat) (g : List D → Option (List D)) : Env → Sto → Option (Env × Sto) := fun env S => match (env[i]?).join with
  | some (.lst true ds) => match g ds with
    | some ds' => some (env.set i (some (.lst true ds')), S)
    | none => none
  | some (.ref n) => match S[n]? with
    | some (.lst true ds) => match g ds with
      | some ds' => some (env, S.set n (.lst true ds'))
      | none => none
    | _ => none
  | _ => none
def isLs (i : Nat) : Env → Sto → Bool := fun env S => match (env[i]?).join with
  | some (.lst _ _) => true
  | some (.ref n) => match S[n]? with
    | some (.lst _ _) => true
    | _ => false
  | _ => false
theorem join_some {α : Type} {x : Option (Option α)} {y : α} (h : x.join = some y) : x = some (some y) := by
  cases x with
  | none => cases h
  | some z => rw [show z = some y from h]
theorem set_same {α : Type} {l : List α} {i : Nat} {x : α} (h : l[i]? = some x) : l.set i x = l := by
  apply List.ext_getElem?
  intro j
  rw [List.getElem?_set]
  by_cases e : i = j
  · subst e
    rw [if_pos rfl, h]
    have := (List.getElem?_eq_some_iff.mp h).1
    simp [this]
  · rw [if_neg e]
section
variable {K : PySem.W.Frag} {S : Sto} {env : Env} {σ : L2.St} {tp : Env} {tv : List (Option V)} {H : Hp} {r : V → List V → Hp → VK → Prop} {f : List D → List D → Option (List D)}
theorem isLs_ty {i : Nat} {x : V} (h : Rel K S env σ tp tv H) (e : isLs i env S = true) (hx : σ[i]? = some (some x)) : tyV K "list" x H := by
  unfold isLs at e
  have fin : ∀ {b : Bool} {ds : List D}, View K S env σ tp tv H (.lst b ds) x → tyV K "list" x H := fun {b ds} w => by
    obtain ⟨a, xs, ex, hs, _⟩ := w.lst
    subst ex
    exact .inl ⟨rfl, xs, hs⟩
  split at e
  · rename_i hh
    obtain ⟨v, e1, w⟩ := View.slot h (join_some hh)
    rw [hx] at e1
    cases e1
    exact fin w
  · rename_i hh
    obtain ⟨v, e1, w⟩ := View.slot h (join_some hh)
    rw [hx] at e1
    cases e1
    split at e
    · rename_i h2
      exact fin (w.deref h2)
    · cases e
  · cases e
theorem isLs_slot {i : Nat} (h : Rel K S env σ tp tv H) (e : isLs i env S = true) : ∃ x, σ[i]? = some (some x) ∧ bVar i env S ≠ none := by
  unfold isLs at e
  split at e
  · rename_i hh
    obtain ⟨v, e1, w⟩ := View.slot h (join_some hh)
    exact ⟨v, e1, by unfold bVar; rw [hh]; simp⟩
  · rename_i hh
    obtain ⟨v, e1, w⟩ := View.slot h (join_some hh)
    exact ⟨v, e1, by unfold bVar; rw [hh]; simp⟩
  · cases e
theorem mutE_rel (ho : HM K pUpd r f) {as : List D} {vs : List V} {i : Nat} {env' : Env} {S' : Sto} (l : as.length = vs.length) (h : Rel K S env σ (as.map some ++ tp) (vs.map some ++ tv) H) (e : mutE i (fun ds => f ds as) env S = some (env', S')) :
    ∃ x, σ[i]? = some (some x) ∧ ∀ Q : VK, (∀ H', Rel K S' env' σ tp tv H' → Q .non H') → r x vs H Q := by
  unfold mutE at e
  split at e
  · rename_i ds hh
    split at e
    · rename_i ds' hf
      cases e
      have hi := join_some hh
      obtain ⟨v, e1, h1⟩ := RelO.take h hi
      have h2 := RelO.swap (as := [some (.lst true ds)]) (bs := as.map some) (xs := [some v]) (ys := vs.map some) rfl (by simpa using l) h1
      obtain ⟨_, k⟩ := RelO.mut ho l h2 hf
      refine ⟨v, e1, fun Q q => k Q fun H' r' => q H' ?_⟩
      have hl : i < env.length := (List.getElem?_eq_some_iff.mp hi).1
      have := RelO.set (i := i) (by rw [List.length_set]; exact hl) r'
      rw [List.set_set, set_same e1] at this
      exact this
    · cases e
  · rename_i n hh
    have hi := join_some hh
    split at e
    · rename_i ds hS
      split at e
      · rename_i ds' hf
        cases e
        obtain ⟨v, e1, w⟩ := View.slot h hi
        have h1 := w.push rfl
        have h2 := RelO.takeS (n := n) h1 (by rw [List.getElem?_map, hS]; rfl)
        have h3 := RelO.swap (as := [some (.lst true ds), some (.ref n)]) (bs := as.map some) (xs := [some v, some v]) (ys := vs.map some) rfl (by simpa using l) h2
        obtain ⟨_, k⟩ := RelO.mut ho l h3 hf
        refine ⟨v, e1, fun Q q => k Q fun H' r' => q H' ?_⟩
        have hl : n < S.length := (List.getElem?_eq_some_iff.mp hS).1
        have r2 := (RelO.putS (n := n) (by simpa using hl) r').pop
        rw [List.set_set, ← List.map_set] at r2
        exact r2
      · cases e
    · cases e
  · cases e
end
theorem RelO.dissolve {K : PySem.W.Frag} {S : List (Option D)} {env : Env} {σ : L2.St} {tp : Env} {tv : List (Option V)} {H : Hp} {ds : List D} {w : V} (h : RelO K S env σ (some (.lst true ds) :: tp) (some w :: tv) H) : ∃ a xs, w = .ref a ∧ H a = some (.lst xs) ∧ ds.length = xs.length ∧
    RelO K S env σ (ds.map some ++ tp) (xs.map some ++ tv) H := by
  obtain ⟨F, mu, oS, oE, oT, h1, h2, h3, h4⟩ := h
  obtain ⟨x, p1, p2, ev, eo, hc, h3'⟩ := h3.cons_inv
  injection ev with ev
  subst ev; subst eo
  unfold Rp at hc
  obtain ⟨a, xs, o', e, r, q⟩ := hc
  have q' : H a = some (.lst xs) ∧ p1 = a :: o' := by
    rcases q with ⟨_, q, e2⟩ | ⟨e1, _⟩
    · exact ⟨q, e2⟩
    · cases e1
  obtain ⟨qa, e2⟩ := q'
  subst e2
  refine ⟨a, xs, e, qa, r.len, F, mu, oS, oE, o' ++ p2, h1, h2, RpO.app (RpO.of_all r) h3', h4.sub ?_ ?_⟩
  · exact h4.nd.sublist ((List.Sublist.refl _).append ((List.Sublist.refl _).append (List.Sublist.append (List.sublist_cons_self _ _) (List.Sublist.refl _))))
  · intro b hb
    simp only [List.mem_append, List.mem_cons] at hb ⊢
    rcases hb with z | z | z | z <;> simp [z]
def wApp : List D → List D → Option (List D) := fun ds as => match as with
  | [d] => if ds.length < 16777216 then some (ds ++ [d]) else none
  | _ => none
def wRem : List D → List D → Option (List D) := fun ds as => match as, intsOf ds with
  | [.int k], some ns => if k ∈ ns then some ((ns.erase k).map D.int) else none
  | _, _ => none
def wExt : List D → List D → Option (List D) := fun ds as => match as with
  | [.lst true es] => if ds.length + es.length ≤ 16777216 then some (ds ++ es) else none
  | _ => none
def wSet : List D → List D → Option (List D) := fun ds as => match as with
  | [.int k, d] => match ixN ds.length k with
    | some j => some (ds.set j d)
    | none => none
  | _ => none
def rSetM : V → List V → Hp → VK → Prop := fun o vs H Q => ∃ i v, vs = [i, v] ∧ rSetL o i v H fun H' => Q .non H'
theorem RelO.ints_top {K : PySem.W.Frag} {S : List (Option D)} {env : Env} {σ : L2.St} {H : Hp} : ∀ {ns : List Int} {xs : List V} {tp : Env} {tv : List (Option V)}, ns.length = xs.length → RelO K S env σ ((ns.map D.int).map some ++ tp) (xs.map some ++ tv) H → xs = ns.map V.int
  | [], [], _, _, _, _ => rfl
  | [], _ :: _, _, _, l, _ => by simp at l
  | _ :: _, [], _, _, l, _ => by simp at l
  | n :: ns, x :: xs, tp, tv, l, h => by
    obtain ⟨F, mu, oS, oE, oT, h1, h2, h3, h4⟩ := id h
    obtain ⟨y, p1, p2, ev, eo, hc, h3'⟩ := RpO.cons_inv (d := .int n) (w := some x) h3
    injection ev with ev
    subst ev
    have := Rp.sc_inv (d := .int n) rfl hc
    rw [this, RelO.ints_top (ns := ns) (xs := xs) (by simpa using l) (RelO.pop h)]
    rfl
theorem RelO.putInts {K : PySem.W.Frag} {S : List (Option D)} {env : Env} {σ : L2.St} {H : Hp} {tp : Env} {tv : List (Option V)} (h : RelO K S env σ tp tv H) : ∀ ns : List Int, RelO K S env σ ((ns.map D.int).map some ++ tp) ((ns.map V.int).map some ++ tv) H
  | [] => h
  | n :: ns => (RelO.putInts h ns).sc rfl
theorem erase_first {k : Int} : ∀ {ns : List Int}, k ∈ ns → ∃ j, ns[j]? = some k ∧ (∀ m : Nat, m < j → ns[m]? ≠ some k) ∧ ns.erase k = ns.eraseIdx j
  | n :: ns, h => by
    by_cases e : n = k
    · subst e
      exact ⟨0, rfl, fun m hm => absurd hm (Nat.not_lt_zero _), by simp⟩
    · have h' : k ∈ ns := by
        rcases List.mem_cons.mp h with z | z
        · exact absurd z.symm e
        · exact z
      obtain ⟨j, h1, h2, h3⟩ := erase_first h'
      refine ⟨j + 1, h1, fun m hm => ?_, ?_⟩
      · cases m with
        | zero => simpa using e
        | succ m => simpa using h2 m (by omega)
      · rw [List.erase_cons_tail (by simpa using e), h3]
        rfl
theorem hm_rem {K : PySem.W.Frag} : HM K pAny rRemI wRem := by
  intro S env σ tp tv H G a ds as ds' xs vs Q _ lx l ha h e q
  unfold wRem at e
  split at e
  · rename_i k ns hns
    split at e
    · rename_i hk
      cases e
      obtain ⟨y, ey⟩ := len1 (vs := vs) l
      subst ey
      have hy : y = .int k := by
        have := RelO.ints_top (ns := [k]) (xs := [y]) rfl h
        simpa using this
      subst hy
      have ed := intsOf_inv hns
      subst ed
      have h2 : RelO K S env σ ((ns.map D.int).map some ++ (some (.lst true []) :: tp)) (xs.map some ++ (some (.ref a) :: tv)) G := RelO.pop h
      have ex := RelO.ints_top (by simpa using lx) h2
      subst ex
      obtain ⟨j, h3, h4, h5⟩ := erase_first hk
      refine ⟨a, ns, k, j, rfl, rfl, ha, h3, h4, ?_⟩
      rw [← h5]
      refine q _ (by simp) ?_
      exact RelO.putInts (RelO.popA (ds := ns.map D.int) (vs := ns.map V.int) (by simp) h2) _
    · cases e
  · cases e
theorem hm_set {K : PySem.W.Frag} : HM K pAny rSetM wSet := by
  intro S env σ tp tv H G a ds as ds' xs vs Q _ lx l ha h e q
  unfold wSet at e
  split at e
  · rename_i k d
    split at e
    · rename_i j hj
      cases e
      obtain ⟨x, y, ey⟩ := len2 (vs := vs) l
      subst ey
      have hy : x = .int k := by
        have := RelO.ints_top (ns := [k]) (xs := [x]) rfl (show RelO K S env σ (([k].map D.int).map some ++ (some d :: (ds.map some ++ (some (.lst true []) :: tp)))) ([x].map some ++ (some y :: (xs.map some ++ (some (.ref a) :: tv)))) G from h)
        simpa using this
      subst hy
      refine ⟨.int k, y, rfl, a, xs, k, j, rfl, rfl, ha, by rw [← lx]; exact hj, ?_⟩
      obtain ⟨_, hjl, _, _⟩ := ixN_seq hj
      have hj1 : ds[j]? = some ds[j] := List.getElem?_eq_getElem hjl
      have hj2 : xs[j]? = some (xs[j]'(lx ▸ hjl)) := List.getElem?_eq_getElem (lx ▸ hjl)
      generalize ds[j] = c at hj1
      generalize (xs[j]'(lx ▸ hjl)) = z at hj2
      refine q _ (by simp [lx]) ?_
      have h2 : RelO K S env σ (some d :: (ds.map some ++ (some (.lst true []) :: tp))) (some y :: (xs.map some ++ (some (.ref a) :: tv))) G := RelO.pop h
      have h3 := RelO.swap (as := some d :: (ds.take j).map some) (bs := [some c]) (tp := (ds.drop (j + 1)).map some ++ (some (.lst true []) :: tp)) (xs := some y :: (xs.take j).map some) (ys := [some z]) (tv := (xs.drop (j + 1)).map some ++ (some (.ref a) :: tv)) (by simp [lx]) rfl
        (by have h2' := h2; rw [split_at hj1, split_at hj2] at h2'; simpa [List.map_append, List.append_assoc] using h2')
      have h4 := RelO.swap (as := [some d]) (bs := (ds.take j).map some) (xs := [some y]) (ys := (xs.take j).map some) rfl (by simp [lx]) (RelO.pop h3)
      rw [set_split hj1, set_split hj2]
      simpa [List.map_append, List.append_assoc] using h4
    · cases e
  · cases e
theorem hm_ext {K : PySem.W.Frag} : HM K pUpd rExtend wExt := by
  intro S env σ tp tv H G a ds as ds' xs vs Q hG lx l ha h e q
  unfold wExt at e
  unfold pUpd at hG
  subst hG
  split at e
  · rename_i es
    split at e
    · rename_i hz
      cases e
      obtain ⟨y, ey⟩ := len1 (vs := vs) l
      subst ey
      have h1 : RelO K S env σ (some (.lst true es) :: (ds.map some ++ (some (.lst true []) :: tp))) (some y :: (xs.map some ++ (some (.ref a) :: tv))) (upd H a (.lst [])) := h
      obtain ⟨b, zs, eb, hb, lz, h2⟩ := RelO.dissolve h1
      subst eb
      have hne : b ≠ a := by
        have h3 := RelO.swap (as := some (.lst true es) :: ds.map some) (bs := [some (.lst true [])]) (tp := tp) (xs := some (.ref b) :: xs.map some) (ys := [some (.ref a)]) (tv := tv) (by simp [lx]) rfl (by simpa using h1)
        have h4 := RelO.swap (as := [some (.lst true [])]) (bs := [some (.lst true es)]) (xs := [some (.ref a)]) (ys := [some (.ref b)]) rfl rfl h3
        exact RelO.ne2 h4
      have hb' : H b = some (.lst zs) := by rw [upd_ne hne] at hb; exact hb
      refine ⟨a, b, xs, zs, rfl, rfl, ha, hb', by rw [sizeLine_eq]; omega, q _ (by simp [lx, lz]) ?_⟩
      have h5 := RelO.swap (as := es.map some) (bs := ds.map some) (xs := zs.map some) (ys := xs.map some) (by simpa using lz) (by simpa using lx) h2
      simpa [List.append_assoc] using h5
    · cases e
  · cases e
/-- xs.m(..) -/
def sMut (i : Nat) (f : List D → List D → Option (List D)) (ma : MA) : MS := fun env S => if isLs i env S = true then (ma env S).bind fun as S1 => match mutE i (fun ds => f ds as) env S1 with
  | some p => .ok (.nx p.1) p.2
  | none => .bad
  else .bad
/-- xs[k] = .. -/
def sPut (i : Nat) (mj : MB) (me : ME) : MS := fun env S => (me env S).bind fun d S1 => match mj env S1 with
  | some (.int k) => match mutE i (fun ds => wSet ds [.int k, d]) env S1 with
    | some p => .ok (.nx p.1) p.2
    | none => .bad
  | _ => .bad
/-- rows[j].m(e) -/
def mut1E (i : Nat) (k : Int) (g : List D → Option (List D)) : Env → Option Env := fun env => match (env[i]?).join with
  | some (.lst true ds) => match ixN ds.length k with
    | some j => match ds[j]? with
      | some (.lst true es) => match g es with
        | some es' => some (env.set i (some (.lst true (ds.set j (.lst true es')))))
        | none => none
      | _ => none
    | none => none
  | _ => none
def sMut1 (i : Nat) (f : List D → List D → Option (List D)) (mj mb : MB) : MS := fun env S => match mj env S, mb env S with
  | some (.int k), some d => if d.isF = true then match mut1E i k (fun ds => f ds [d]) env with
    | some env' => .ok (.nx env') S
    | none => .bad
    else .bad
  | _, _ => .bad
/-- found.append(left.pop(e)) -/
def sAppPop (i j : Nat) (me : ME) : MS := fun env S => (me env S).bindN fun k S1 => match k, (env[i]?).join, (env[j]?).join with
  | .int k, some (.lst true ds), some (.lst true es) => if i = j ∨ ¬ ds.length < 16777216 ∨ ¬ es.length ≤ 16777216 then .bad else match ixN es.length k with
    | some m => match es[m]? with
      | some d => .ok (.nx ((env.set j (some (.lst true (es.eraseIdx m)))).set i (some (.lst true (ds ++ [d]))))) S1
      | none => .bad
    | none => .bad
  | _, _, _ => .bad
section
variable {X : Cx} {o e idx : Expr} {es : List Expr} {pos apos cpos p1 p2 : Pos} {name : Str} {id : String} {r : V → List V → Hp → VK → Prop} {f : List D → List D → Option (List D)}
/-- a name's value, exactly -/
theorem pe_nm (i : Nat) {x : Str} (hN : X.N[i]? = some x := by rfl) (hv : Vis X.env.scope x := by first | exact Or.inl rfl | exact Or.inr (Or.inl rfl) | exact Or.inr (Or.inr rfl))
    (hd : (x == ("__debug__" : Str)) = false := by decide) (hcd : (x == ("__classdict__" : Str)) = false := by decide) : PE X (.Name x pos) (tVar i) := pe_var hN hv hd hcd
theorem s_mut {i : Nat} {ma : MA} (slot : Slot "list" name id) (hty : typeOf (.builtin id) = pure (.type "method_descriptor")) (hm : MtR X id r) (hf : HM X.K pUpd r f) (ho : PE X o (tVar i)) (ha : SA X (e :: es) ma)
    (hbase : attributeBase o name X.env (eval o X.env) = eval o X.env := by rfl)
    (hfew : ((backTo cpos (starEach (e :: es) X.env)).all (fun x => !x.1) && (backToKw cpos (keywordEach [] X.env)).all (fun x => x.1.isSome)
      && decide ((e :: es).length + ([] : List Keyword).length + (if ([] : List Keyword).isEmpty then 0 else 1) < 30)) = true := by rfl)
    (hline : (apos.endLine == cpos.line) = true := by rfl) (hs : starEach (e :: es) X.env = (false, eval e X.env) :: starEach es X.env := by rfl) (hplain : (backTo cpos (starEach es X.env)).any (·.1) = false := by rfl)
    (hsw : swapsWith (.Call (.Attribute o name apos) (e :: es) [] cpos) none pos.line X.env = pure false := by rfl) :
    SS X (.Expr (.Call (.Attribute o name apos) (e :: es) [] cpos) pos) (sMut i f ma) := by
  refine ps_imp (ps_expr (pe_bm PySem.F.plainAttrs_list slot hty hm ho ha hbase hfew hline hs hplain) hsw) ?_
  rintro D σ H ⟨env, S, tp, tv, h, q⟩
  unfold sMut at q
  by_cases hL : isLs i env S = true
  · rw [if_pos hL] at q
    obtain ⟨x, hx, hv⟩ := isLs_slot h hL
    refine ⟨x, hx, isLs_ty h hL hx, env, S, tp, tv, h, ?_⟩
    cases z1 : ma env S with
    | bad => rw [z1] at q; exact q.elim
    | exn _ _ => rw [z1] at q; first | exact q | exact PostX.pop q | exact PostX.pop (PostX.pop q) | exact PostX.popA (by assumption) q | exact PostXS.toX q | exact PostX.pop (PostXS.toX q) | exact PostX.popA (by assumption) (PostXS.toX q) | exact PostXS.pop q | exact False.elim q
    | ok as S1 =>
      rw [z1] at q
      intro vs H1 l r1
      simp only [R.bind] at q
      cases z2 : mutE i (fun ds => f ds as) env S1 with
      | none => rw [z2] at q; exact q.elim
      | some p =>
        rw [z2] at q
        obtain ⟨env', S'⟩ := p
        obtain ⟨y, hy, k⟩ := mutE_rel hf l r1 z2
        rw [hx] at hy
        cases hy
        exact k _ fun H' r' => q σ H' r'
  · rw [if_neg hL] at q
    exact q.elim
theorem s_ext {i : Nat} {m : ME} (ho : PE X o (tVar i)) (ha : SE X e m) 
    (hbase : attributeBase o "extend" X.env (eval o X.env) = eval o X.env := by rfl)
    (hfew : ((backTo cpos (starEach [e] X.env)).all (fun x => !x.1) && (backToKw cpos (keywordEach [] X.env)).all (fun x => x.1.isSome)
      && decide (([e] : List Expr).length + ([] : List Keyword).length + (if ([] : List Keyword).isEmpty then 0 else 1) < 30)) = true := by rfl)
    (hline : (apos.endLine == cpos.line) = true := by rfl) (hs : starEach [e] X.env = (false, eval e X.env) :: starEach [] X.env := by rfl)
    (hsw : swapsWith (.Call (.Attribute o "extend" apos) [e] [] cpos) none pos.line X.env = pure false := by rfl) :
    SS X (.Expr (.Call (.Attribute o "extend" apos) [e] [] cpos) pos) (sMut i wExt (aCons m aNil)) :=
  s_mut PySem.F.slot_list_extend PySem.F.type_list_extend mt_extend hm_ext ho (sa_cons ha sa_nil hs) hbase hfew hline hs rfl hsw
theorem s_put {i : Nat} {mj : MB} {me : ME} (ho : PE X o (tVar i)) (hj : SB X idx mj) (he : SE X e me)
    (ha : ∀ v, assign (.Subscript o idx p1) X.env v = (do
      let ov ← holding [v] (eval o X.env)
      let iv ← holding [v, ov] (eval idx X.env)
      standAt p1
      holding [v, ov, iv] (setItem ov iv v)
      release [v, ov, iv] []) := by intro _; rfl) (hs : swapsWithSole [.Subscript o idx p1] e pos.line X.env = pure false := by rfl) (hw : swappedStores [.Subscript o idx p1] e X.env = pure none := by rfl)
    (h1 : (assignEach [.Subscript o idx p1] X.env).map (·.2) = [assign (.Subscript o idx p1) X.env] := by rfl) : SS X (.Assign [.Subscript o idx p1] e pos) (sPut i mj me) := by
  refine ps_imp (ps_asg he (pg_sub ho hj set_list ha) hs hw h1) ?_
  rintro D σ H ⟨env, S, tp, tv, h, q⟩
  refine ⟨env, S, tp, tv, h, ?_⟩
  unfold sPut at q
  cases z1 : me env S with
  | bad => rw [z1] at q; exact q.elim
  | exn _ _ => rw [z1] at q; first | exact q | exact PostX.pop q | exact PostX.pop (PostX.pop q) | exact PostX.popA (by assumption) q | exact PostXS.toX q | exact PostX.pop (PostXS.toX q) | exact PostX.popA (by assumption) (PostXS.toX q) | exact PostXS.pop q | exact False.elim q
  | ok d S1 =>
    rw [z1] at q
    intro v H1 r1
    simp only [R.bind] at q
    cases z2 : mj env S1 with
    | none => rw [z2] at q; exact q.elim
    | some kd =>
      rw [z2] at q
      cases kd with
      | int k =>
        simp only at q
        cases z3 : mutE i (fun ds => wSet ds [.int k, d]) env S1 with
        | none => rw [z3] at q; exact q.elim
        | some p =>
          rw [z3] at q
          obtain ⟨env', S'⟩ := p
          obtain ⟨x, hx, kk⟩ := mutE_rel (as := [.int k, d]) (vs := [.int k, v]) hm_set.weak rfl (show Rel X.K S1 env σ (some (.int k) :: some d :: tp) (some (.int k) :: some v :: tv) H1 from r1.sc rfl) z3
          refine ⟨x, hx, env, S1, some d :: tp, some v :: tv, .int k, r1, z2, fun u w => ?_⟩
          have := w.sc_inv rfl
          subst this
          obtain ⟨i', v', e1, k2⟩ := kk (fun _ H' => D.nx σ H') fun H' r' => q σ H' r'
          cases e1
          exact k2
      | _ => exact q.elim
end
end N1
end
section
namespace N1
open PySem PySem.Spec PyProof.Rows L2
section
variable {K : PySem.W.Frag} {S : Sto} {env : Env} {σ : L2.St} {tp : Env} {tv : List (Option V)} {H : Hp}
/-- an owned list of a slot: its object and the values -/
theorem RelO.own {S : List (Option D)} {i : Nat} {ds : List D} (h : RelO K S env σ tp tv H) (e : env[i]? = some (some (.lst true ds))) : ∃ a xs, σ[i]? = some (some (.ref a)) ∧ H a = some (.lst xs) ∧ ds.length = xs.length := by
  obtain ⟨v, e1, h1⟩ := RelO.take h e
  obtain ⟨a, xs, ew, ha, lx, _⟩ := RelO.open_ h1
  subst ew
  exact ⟨a, xs, e1, ha, lx⟩
theorem RelO.appPop {S : List (Option D)} {i j m : Nat} {ds es : List D} {d : D} (hij : i ≠ j) (h : RelO K S env σ tp tv H) (ei : env[i]? = some (some (.lst true ds))) (ej : env[j]? = some (some (.lst true es))) (em : es[m]? = some d) :
    ∃ a xs b ys y, σ[i]? = some (some (.ref a)) ∧ σ[j]? = some (some (.ref b)) ∧ H a = some (.lst xs) ∧ H b = some (.lst ys) ∧ a ≠ b ∧ ds.length = xs.length ∧ es.length = ys.length ∧ ys[m]? = some y ∧
      RelO K S ((env.set j (some (.lst true (es.eraseIdx m)))).set i (some (.lst true (ds ++ [d])))) σ tp tv (upd (upd H b (.lst (ys.eraseIdx m))) a (.lst (xs ++ [y]))) := by
  obtain ⟨v, e1, h1⟩ := RelO.take h ej
  obtain ⟨b, ys, ew, hb, ly, h2⟩ := RelO.open_ h1
  subst ew
  have hml : m < ys.length := by rw [← ly]; exact (List.getElem?_eq_some_iff.mp em).1
  have hmy : ys[m]? = some ys[m] := List.getElem?_eq_getElem hml
  generalize ys[m] = y at hmy
  have h3 := RelO.swap (as := (es.take m).map some) (bs := [some d]) (tp := (es.drop (m + 1)).map some ++ (some (.lst true []) :: tp)) (xs := (ys.take m).map some) (ys := [some y]) (tv := (ys.drop (m + 1)).map some ++ (some (.ref b) :: tv)) (by simp [ly]) rfl
    (by have h2' := h2; rw [split_at em, split_at hmy] at h2'; simpa [List.map_append, List.append_assoc] using h2')
  have h4 := RelO.swap (as := [some d]) (bs := (es.eraseIdx m).map some) (tp := some (.lst true []) :: tp) (xs := [some y]) (ys := (ys.eraseIdx m).map some) (tv := some (.ref b) :: tv) rfl (by simp [List.length_eraseIdx, ly]) (by
    rw [List.eraseIdx_eq_take_drop_succ, List.eraseIdx_eq_take_drop_succ]; simpa [List.map_append, List.append_assoc] using h3)
  have h5 := RelO.swap (as := (es.eraseIdx m).map some) (bs := [some d]) (tp := some (.lst true []) :: tp) (xs := (ys.eraseIdx m).map some) (ys := [some y]) (tv := some (.ref b) :: tv) (by simp [List.length_eraseIdx, ly]) rfl h4
  have h6 : RelO K S (env.set j none) σ ((es.eraseIdx m).map some ++ (some (.lst true []) :: some d :: tp)) ((ys.eraseIdx m).map some ++ (some (.ref b) :: some y :: tv)) (upd H b (.lst [])) := by
    have q1 := RelO.swap (as := [some d]) (bs := (es.eraseIdx m).map some ++ [some (.lst true [])]) (tp := tp) (xs := [some y]) (ys := (ys.eraseIdx m).map some ++ [some (.ref b)]) (tv := tv) rfl (by simp [List.length_eraseIdx, ly]) (by simpa using h5)
    simpa using q1
  have h7 := RelO.close (by simp [List.length_eraseIdx, ly]) h6
  rw [upd_upd] at h7
  have hjl : j < env.length := (List.getElem?_eq_some_iff.mp ej).1
  have h8 := RelO.set (i := j) (by rw [List.length_set]; exact hjl) h7
  rw [List.set_set, set_same e1] at h8
  obtain ⟨w, e2, h9⟩ := RelO.take (i := i) h8 (by rw [List.getElem?_set_ne (Ne.symm hij)]; exact ei)
  have h10 := RelO.swap (as := [some (.lst true ds)]) (bs := [some d]) (xs := [some w]) (ys := [some y]) rfl rfl h9
  obtain ⟨a, xs, ew, ha, lx, h11⟩ := RelO.app h10
  subst ew
  have hil : i < env.length := (List.getElem?_eq_some_iff.mp ei).1
  have h12 := RelO.set (i := i) (by rw [List.length_set, List.length_set]; exact hil) h11
  rw [List.set_set, set_same e2] at h12
  -- the two objects differ
  obtain ⟨w', e3, k1⟩ := RelO.take h ei
  obtain ⟨v', e4, k2⟩ := RelO.take (i := j) k1 (by rw [List.getElem?_set_ne hij]; exact ej)
  rw [e2] at e3
  cases e3
  rw [e1] at e4
  cases e4
  have hne : b ≠ a := RelO.ne2 k2
  rw [upd_ne (Ne.symm hne)] at ha
  exact ⟨a, xs, b, ys, y, e2, e1, ha, hb, Ne.symm hne, lx, ly, hmy, h12⟩
end
section
variable {X : Cx} {o o' e idx : Expr} {es : List Expr} {pos apos cpos apos' cpos' p1 p2 : Pos} {name : Str} {id : String} {r : V → List V → Hp → VK → Prop} {f : List D → List D → Option (List D)}
theorem s_appPop {i j : Nat} {me : ME} (ho : PE X o (tVar i)) (ho' : PE X o' (tVar j)) (he : SE X e me)
    (hbase : attributeBase o "append" X.env (eval o X.env) = eval o X.env := by rfl) (hbase' : attributeBase o' "pop" X.env (eval o' X.env) = eval o' X.env := by rfl)
    (hfew : ((backTo cpos (starEach [.Call (.Attribute o' "pop" apos') [e] [] cpos'] X.env)).all (fun x => !x.1) && (backToKw cpos (keywordEach [] X.env)).all (fun x => x.1.isSome)
      && decide (([.Call (.Attribute o' "pop" apos') [e] [] cpos'] : List Expr).length + ([] : List Keyword).length + (if ([] : List Keyword).isEmpty then 0 else 1) < 30)) = true := by rfl)
    (hfew' : ((backTo cpos' (starEach [e] X.env)).all (fun x => !x.1) && (backToKw cpos' (keywordEach [] X.env)).all (fun x => x.1.isSome)
      && decide (([e] : List Expr).length + ([] : List Keyword).length + (if ([] : List Keyword).isEmpty then 0 else 1) < 30)) = true := by rfl)
    (hline : (apos.endLine == cpos.line) = true := by rfl) (hline' : (apos'.endLine == cpos'.line) = true := by rfl) (hs' : starEach [e] X.env = (false, eval e X.env) :: starEach [] X.env := by rfl)
    (hs : starEach [.Call (.Attribute o' "pop" apos') [e] [] cpos'] X.env = (false, eval (.Call (.Attribute o' "pop" apos') [e] [] cpos') X.env) :: starEach [] X.env := by rfl)
    (hsw : swapsWith (.Call (.Attribute o "append" apos) [.Call (.Attribute o' "pop" apos') [e] [] cpos'] [] cpos) none pos.line X.env = pure false := by rfl) :
    SS X (.Expr (.Call (.Attribute o "append" apos) [.Call (.Attribute o' "pop" apos') [e] [] cpos'] [] cpos) pos) (sAppPop i j me) := by
  refine ps_imp (ps_expr (pe_bm PySem.F.plainAttrs_list PySem.F.slot_list_append PySem.F.type_list_append mt_append ho (pa_cons (pe_bm PySem.F.plainAttrs_list PySem.F.slot_list_pop PySem.F.type_list_pop mt_popAt ho' (pa_cons he pa_nil hs') hbase' hfew' hline' hs' rfl) pa_nil hs) hbase hfew hline hs rfl) hsw) ?_
  rintro D0 σ H ⟨env, S, tp, tv, h, q⟩
  unfold sAppPop at q
  cases z1 : me env S with
  | bad => rw [z1] at q; exact q.elim
  | exn _ _ => rw [z1] at q; first | exact q | exact PostX.pop q | exact PostX.pop (PostX.pop q) | exact PostX.popA (by assumption) q | exact PostXS.toX q | exact PostX.pop (PostXS.toX q) | exact PostX.popA (by assumption) (PostXS.toX q) | exact PostXS.pop q | exact False.elim q
  | ok k S1 =>
    rw [z1] at q
    simp only [R.bindN] at q
    split at q
    · rename_i k ds es ei ej
      have ei := join_some ei
      have ej := join_some ej
      split at q
      · exact q.elim
      · rename_i hn
        have hij : i ≠ j := fun z => hn (.inl z)
        have hz : ds.length < 16777216 := Classical.not_not.mp fun z => hn (.inr (.inl z))
        have hl : es.length ≤ 16777216 := Classical.not_not.mp fun z => hn (.inr (.inr z))
        split at q
        · rename_i m hm
          split at q
          · rename_i d em
            obtain ⟨a, xs, e1, h1, l1⟩ := RelO.own h ei
            obtain ⟨b, ys, e2, h2, l2⟩ := RelO.own h ej
            refine ⟨_, e1, .inl ⟨rfl, xs, .inl (.inl h1)⟩, _, e2, .inl ⟨rfl, ys, .inl (.inl h2)⟩, env, S, tp, tv, h, ?_⟩
            rw [z1]
            intro v H1 r1
            obtain ⟨a', xs', b', ys', y, e1', e2', ha, hb, hne, lx, ly, hy, hr⟩ := RelO.appPop hij r1 ei ej em
            rw [e1] at e1'
            rw [e2] at e2'
            cases e1'
            cases e2'
            have ev : v = .int k := by
              have w := View.top r1
              exact w.sc_inv rfl
            subst ev
            obtain ⟨s1, s2, s3, s4⟩ := ixN_seq hm
            refine ⟨b, ys', k, m, y, rfl, rfl, hb, by omega, by omega, by rw [← ly]; exact s1, hy, ?_⟩
            refine ⟨a, xs', y, rfl, rfl, by rw [upd_ne hne]; exact ha, by rw [sizeLine_eq]; omega, ?_⟩
            exact q σ _ hr.pop
          · exact q.elim
        · exact q.elim
    · exact q.elim
theorem hm_id {K : PySem.W.Frag} : HM K pAny (fun _ _ _ _ => True) (fun es _ => some es) := fun _ _ _ _ _ _ _ _ _ _ _ _ _ _ _ _ _ _ _ _ _ => trivial
/-- rows[j].m(e) -/
theorem s_mut1 {i : Nat} {mj mb : MB} (slot : Slot "list" name id) (hty : typeOf (.builtin id) = pure (.type "method_descriptor")) (hm : MtR X id r) (hf : HM X.K pAny r f) (ho : PE X o (tVar i)) (hj : SB X idx mj) (ha : SB X e mb)
    (hpl : PlainIx idx := by intro _ _; rfl) (hbase : attributeBase (.Subscript o idx p1) name X.env (eval (.Subscript o idx p1) X.env) = eval (.Subscript o idx p1) X.env := by rfl)
    (hfew : ((backTo cpos (starEach [e] X.env)).all (fun x => !x.1) && (backToKw cpos (keywordEach [] X.env)).all (fun x => x.1.isSome)
      && decide (([e] : List Expr).length + ([] : List Keyword).length + (if ([] : List Keyword).isEmpty then 0 else 1) < 30)) = true := by rfl)
    (hline : (apos.endLine == cpos.line) = true := by rfl) (hs : starEach [e] X.env = (false, eval e X.env) :: starEach [] X.env := by rfl)
    (hsw : swapsWith (.Call (.Attribute (.Subscript o idx p1) name apos) [e] [] cpos) none pos.line X.env = pure false := by rfl) :
    SS X (.Expr (.Call (.Attribute (.Subscript o idx p1) name apos) [e] [] cpos) pos) (sMut1 i f mj mb) := by
  refine ps_imp (ps_expr (pe_bm PySem.F.plainAttrs_list slot hty hm (pe_ix ix_seq ho hj hpl) (pa_cons ha pa_nil hs) hbase hfew hline hs rfl) hsw) ?_
  rintro D0 σ H ⟨env, S, tp, tv, h, q⟩
  unfold sMut1 at q
  split at q
  · rename_i k d z1 z2
    split at q
    · rename_i hF
      cases z3 : mut1E i k (fun ds => f ds [d]) env with
      | none => rw [z3] at q; exact q.elim
      | some env' =>
        rw [z3] at q
        unfold mut1E at z3
        split at z3
        · rename_i ds hh
          have ei := join_some hh
          split at z3
          · rename_i j hj1
            split at z3
            · rename_i es hes
              split at z3
              · rename_i es' hes'
                cases z3
                obtain ⟨v0, ev0, h1⟩ := RelO.take h ei
                obtain ⟨a, xs, b, ys, ew, hxs, lx, hjx, hys, _⟩ := RelO.mut1 (as := []) (vs := []) (hm_id (K := X.K)) rfl h1 hes rfl
                subst ew
                refine ⟨_, ev0, env, S, tp, tv, .int k, h, z1, fun y wy => ?_⟩
                have := wy.sc_inv rfl
                subst this
                refine .inl ⟨a, xs, k, .ref b, rfl, rfl, .inl (.inl hxs), at_atI (lx.symm) hj1 hjx, ?_⟩
                refine ⟨.inl ⟨rfl, ys, .inl (.inl hys)⟩, env, S, tp, tv, d, h, z2, fun u wu => ?_⟩
                have h2 := wu.push hF
                obtain ⟨v1, ev1, h3⟩ := RelO.take h2 ei
                rw [ev0] at ev1
                cases ev1
                have h4 := RelO.swap (as := [some (.lst true ds)]) (bs := [some d]) (xs := [some (.ref a)]) (ys := [some u]) rfl rfl h3
                obtain ⟨a', xs', b', ys', ew, hxs', lx', hjx', hys', kk⟩ := RelO.mut1 (as := [d]) (vs := [u]) hf rfl h4 hes hes'
                cases ew
                rw [hxs] at hxs'
                cases hxs'
                rw [hjx] at hjx'
                cases hjx'
                refine kk _ fun H' r' => q σ H' ?_
                have hl : i < env.length := (List.getElem?_eq_some_iff.mp ei).1
                have r2 := RelO.set (i := i) (by rw [List.length_set]; exact hl) r'
                rw [List.set_set, set_same ev0] at r2
                exact r2
              · cases z3
            · cases z3
          · cases z3
        · cases z3
    · exact q.elim
  · exact q.elim
end
end N1
end
section
namespace N1
open PySem PySem.Spec PyProof.Rows L2
mutual
theorem toPy_noDict : ∀ (d : D) (p : PyData), toPy d = some p → p.hasDict = false
  | .non, p, e => by unfold toPy at e; cases e; simp only [PyData.hasDict]
  | .bl _, p, e => by unfold toPy at e; cases e; simp only [PyData.hasDict]
  | .int _, p, e => by unfold toPy at e; cases e; simp only [PyData.hasDict]
  | .str _, p, e => by unfold toPy at e; cases e; simp only [PyData.hasDict]
  | .tup ds, p, e => by
    unfold toPy at e
    cases z : toPys ds with
    | none => rw [z] at e; cases e
    | some ps => rw [z] at e; cases e; simp only [PyData.hasDict]; exact toPys_noDict ds ps z
  | .lst _ ds, p, e => by
    unfold toPy at e
    cases z : toPys ds with
    | none => rw [z] at e; cases e
    | some ps => rw [z] at e; cases e; simp only [PyData.hasDict]; exact toPys_noDict ds ps z
  | .dct _ _ _, p, e => by unfold toPy at e; cases e
  | .ref _, p, e => by unfold toPy at e; cases e
  | .dtt _ _ _, p, e => by unfold toPy at e; cases e
  | .lck _ _ _, p, e => by unfold toPy at e; cases e
  | .obj _ _ _ _, p, e => by unfold toPy at e; cases e
  | .exc _ _ _, p, e => by unfold toPy at e; cases e
  | .lam _ _ _, p, e => by unfold toPy at e; cases e
  | .tab _, p, e => by unfold toPy at e; cases e
theorem toPys_noDict : ∀ (ds : List D) (ps : List PyData), toPys ds = some ps → PyData.hasDictAll ps = false
  | [], ps, e => by unfold toPys at e; cases e; simp only [PyData.hasDictAll]
  | d :: ds, ps, e => by
    unfold toPys at e
    cases z : toPy d with
    | none => rw [z] at e; cases e
    | some p =>
      cases z2 : toPys ds with
      | none => rw [z, z2] at e; cases e
      | some ps' =>
        rw [z, z2] at e
        cases e
        simp only [PyData.hasDictAll, toPy_noDict d p z, toPys_noDict ds ps' z2, Bool.or_self]
end
/-- what a value shows as -/
def reprD (d : D) : Option Str := match toPy d with
  | some p => if p.showable = true ∧ p.depth ≤ 60 ∧ p.shown.length ≤ 16777216 then some p.shown else none
  | none => none
def fRepr : Sto → List D → Option D := fun _ ds => match ds with
  | [d] => (reprD d).map D.str
  | _ => none
def rRepr (K : PySem.W.Frag) : List V → Hp → VK → Prop := fun xs H Q => ∃ x p, xs = [x] ∧ Dp K H x p ∧ p.hasDict = false ∧ p.showable = true ∧ p.depth ≤ 60 ∧ p.shown.length ≤ sizeLine ∧ Q (.str p.shown) H
theorem call_repr {X : Cx} (hu : X.A.units + 65 < cLine) (hg : X.A.guards = some []) : CallR X (.builtin "repr") (rRepr X.K) := by
  intro pins s σ H xs us Q I r h
  obtain ⟨x, p, rfl, hp, hn, hs, hd, hz, q⟩ := h
  obtain ⟨u, rfl, ru⟩ := r.one
  cases hp with
  | non => cases ru; exact PySem.P.repr_of_none ⟨.str _, H, I.tok _, ⟨_, rfl⟩, by simpa [PyData.shown] using q⟩
  | bl b =>
    cases ru
    refine PySem.P.repr_of_bool ⟨.str _, H, I.tok _, ⟨_, rfl⟩, ?_⟩
    simp only [PyData.shown] at q
    exact q
  | int i =>
    obtain ⟨t, rfl⟩ := ru
    refine PySem.P.repr_of_int (by simpa [PyData.showable] using hs) ⟨.str _, H, I.tok _, ⟨_, rfl⟩, ?_⟩
    simp only [PyData.shown] at q
    exact q
  | str y =>
    obtain ⟨t, rfl⟩ := ru
    simp only [PyData.shown] at q hz
    exact PySem.P.repr_of_str ⟨.str _, H, I.tok _, ⟨_, rfl⟩, q⟩ hz
  | @lst a ys ds h1 h2 =>
    cases ru
    obtain ⟨as, rd⟩ := Dp.reads I _ _ _ (Dp.lst h1 h2) rfl
    exact PySem.repr_of_reads' rd hs (PyData.noDict_hsm hn) hg (by omega) (fun _ _ e => e) (fun h' w tk hk => ⟨.str _, H, I.kept hk, ⟨_, rfl⟩, q⟩) hz
  | @tup a ys ds h1 h2 =>
    cases ru
    obtain ⟨as, rd⟩ := Dp.reads I _ _ _ (Dp.tup h1 h2) rfl
    exact PySem.repr_of_reads' rd hs (PyData.noDict_hsm hn) hg (by omega) (fun _ _ e => e) (fun h' w tk hk => ⟨.str _, H, I.kept hk, ⟨_, rfl⟩, q⟩) hz
theorem opv_repr {K : PySem.W.Frag} : OpV K (rRepr K) fRepr := by
  intro S env σ tp tv H ds xs c Q r vw e q
  unfold fRepr at e
  split at e
  · rename_i d
    obtain ⟨x, ex, w⟩ := vw.one
    cases z : reprD d with
    | none => rw [z] at e; cases e
    | some t =>
      rw [z] at e
      cases e
      unfold reprD at z
      cases z2 : toPy d with
      | none => rw [z2] at z; cases z
      | some p =>
        rw [z2] at z
        simp only at z
        split at z
        · rename_i hh
          cases z
          exact ⟨x, p, ex, w.dp z2, toPy_noDict d p z2, hh.1, hh.2.1, by rw [sizeLine_eq]; exact hh.2.2, q _ (View.sc r rfl)⟩
        · cases z
  · cases e
def tyD (S : Sto) : D → Option String
  | .non => some "NoneType"
  | .bl _ => some "bool"
  | .int _ => some "int"
  | .str _ => some "str"
  | .tup _ => some "tuple"
  | .lst _ _ => some "list"
  | .dct _ _ _ => some "dict"
  | .dtt _ _ _ => none
  | .lck _ _ _ => none
  | .obj _ _ _ _ => none
  | .exc _ _ _ => none
  | .lam _ _ _ => none
  | .tab _ => none
  | .ref n => match S[n]? with
    | some (.lst _ _) => some "list"
    | _ => none
def isT (a b : String) : Bool := a == b || (a == "bool" && b == "int")
def bIsi (T : String) (ma : MB) : MB := fun env S => match ma env S with
  | some d => (tyD S d).map fun t => .bl (isT t T)
  | none => none
def cutG {α : Type} (xs : List α) (lo hi : Option Int) : List α := (xs.drop (HT.sIx xs.length 0 lo)).take (HT.sIx xs.length xs.length hi - HT.sIx xs.length 0 lo)
def partD : Option MB → Env → Sto → Option (Option Int) := fun m env S => match m with
  | none => some none
  | some m => match m env S with
    | some (.int i) => some (some i)
    | _ => none
def slD : D → Option Int → Option Int → Option D := fun d lo hi => match d with
  | .tup ds => if isFs ds = true then some (.tup (cutG ds lo hi)) else none
  | .lst _ ds => if isFs ds = true then some (.lst true (cutG ds lo hi)) else none
  | .str z => if z.length ≤ 16777216 then some (.str (cutS z lo hi)) else none
  | _ => none
def eSl (mv : MB) (lo hi : Option MB) : ME := fun env S => match mv env S, partD lo env S, partD hi env S with
  | some d, some l, some u => match slD d l u with
    | some c => .ok c S
    | none => .bad
  | _, _, _ => .bad
def rgI (a b : Int) : List Int := (List.range (b - a).toNat).map fun (k : Nat) => a + (k : Int)
def rgOkB (a b : Int) : Bool := decide (-(2 ^ 62) ≤ a ∧ a < 2 ^ 62 ∧ -(2 ^ 62) ≤ b ∧ b < 2 ^ 62 ∧ (b - a).toNat ≤ 2 ^ 24)
theorem rgI_V (a b : Int) : (rgI a b).map V.int = rgV a b := by
  unfold rgI rgV
  rw [List.map_map]
  rfl
theorem rgOkB_ok {a b : Int} (h : rgOkB a b = true) : RgOk a b := by
  unfold rgOkB at h
  unfold RgOk
  exact of_decide_eq_true h
def eRg1 (mk : List D → D) (ma : ME) : ME := fun env S => (ma env S).bind fun d S1 => match d with
  | .int n => if rgOkB 0 n = true then .ok (mk ((rgI 0 n).map D.int)) S1 else .bad
  | _ => .bad
def eRg2 (mk : List D → D) (ma mb : ME) : ME := fun env S => (ma env S).bind fun c S1 => (mb env S1).bind fun d S2 => match c, d with
  | .int a, .int b => if rgOkB a b = true then .ok (mk ((rgI a b).map D.int)) S2 else .bad
  | _, _ => .bad
section
variable {X : Cx} {a b : Expr} {p p2 q pos : Pos} {ma mb : ME}
theorem mkL {K : PySem.W.Frag} {S : Sto} {env : Env} {σ : L2.St} {tp : Env} {tv : List (Option V)} {H : Hp} (r : Rel K S env σ tp tv H) (a b : Int) {p : Addr} (hp : H p = none) : Rel K S env σ (some (.lst true ((rgI a b).map D.int)) :: tp) (some (.ref p) :: tv) (upd H p (.lst (rgV a b))) := by
  have := RelO.putInts r (rgI a b)
  rw [← rgI_V]
  exact RelO.mkLst (by simp) this hp
theorem tRg1_of {K : KT} {mk : List D → D} {σ : L2.St} {H : Hp} {Q : VK} {RR : Int → Int → Hp → Prop} (k : ∀ (S : Sto) (env : Env) (tp : Env) (tv : List (Option V)) (H : Hp) (a b : Int), Rel K S env σ tp tv H → RgOk a b → (∀ v H', Rel K S env σ (some (mk ((rgI a b).map D.int)) :: tp) (some v :: tv) H' → Q v H') → RR a b H)
    (h : tM K (eRg1 mk ma) σ H Q) : tRg1 (tM K ma) σ H RR := by
  obtain ⟨env, S, tp, tv, r, q⟩ := h
  refine ⟨env, S, tp, tv, r, ?_⟩
  unfold eRg1 at q
  cases z : ma env S with
  | bad => rw [z] at q; exact q.elim
  | exn _ _ => rw [z] at q; first | exact q | exact PostX.pop q | exact PostX.pop (PostX.pop q) | exact PostX.popA (by assumption) q | exact PostXS.toX q | exact PostX.pop (PostXS.toX q) | exact PostX.popA (by assumption) (PostXS.toX q) | exact PostXS.pop q | exact False.elim q
  | ok d S1 =>
    rw [z] at q
    intro v H1 r1
    simp only [R.bind] at q
    cases d with
    | int n =>
      simp only at q
      split at q
      · rename_i ho
        have := (View.top r1).sc_inv rfl
        exact ⟨n, this, k S1 env tp tv H1 0 n r1.pop (rgOkB_ok ho) q⟩
      · exact q.elim
    | _ => exact q.elim
variable (hc : X.calm = true)
include hc
theorem se_lrg1 (ha : SE X a ma) (hg : Gl X "list" := by rfl) (hm : X.mg "list" = none := by rfl) (hg2 : Gl X "range" := by rfl) (hm2 : X.mg "range" = none := by rfl) (na : starEach [a] X.env = (false, eval a X.env) :: starEach [] X.env := by rfl)
    (na2 : starEach [.Call (.Name "range" p2) [a] [] q] X.env = (false, eval (.Call (.Name "range" p2) [a] [] q) X.env) :: starEach [] X.env := by rfl) :
    SE X (.Call (.Name "list" p) [.Call (.Name "range" p2) [a] [] q] [] pos) (eRg1 (.lst true) ma) := by
  refine pe_imp (pe_listRg hc hg hm (prg_1 hg2 hm2 ha na) na2) fun σ H Q h => ?_
  exact tRg1_of (fun S env tp tv H a b r ok k => ⟨ok, fun p hp => k _ _ (mkL r a b hp)⟩) h
end
theorem alv_sort {K : PySem.W.Frag} : AlV K (rSortedI K) fSort := by
  intro S env σ tp tv H ds xs c Q r vw e q
  unfold fSort at e
  split at e
  · rename_i d
    obtain ⟨x, ex, w⟩ := vw.one
    split at e
    · rename_i es hl
      cases z : intsOf es with
      | none => rw [z] at e; cases e
      | some ns =>
        rw [z] at e
        cases e
        obtain ⟨hi, hn⟩ := listOfD_items hl
        obtain ⟨a, ys, e1, _, hs, l, it⟩ := w.seq hi
        have ey := View.scs l it (intsOf_sc z)
        subst e1; subst ey
        refine ⟨a, ns, ex, hs hn, fun ns' p hp hso hnone => q _ _ ?_⟩
        have en : ns' = sortI ns := sorted_unique (hp.trans (sortI_perm ns).symm) hso (sortI_sorted ns)
        subst en
        exact RelO.mkLst (by simp) (RelO.putInts r (sortI ns)) hnone
    · cases e
  · cases e
end N1
end
section
namespace N1
open PySem PySem.Spec PyProof.Rows L2
def sForget (i : Nat) (m : MS) : MS := fun env S => m (env.set i none) S
def sFreeze (i : Nat) (m : MS) : MS := fun env S => m (match env[i]? with
  | some (some d) => env.set i (some d.frz)
  | _ => env) S
section
variable {X : Cx} {sts : List Stmt} {m : MS}
theorem ss_forget (i : Nat) (h : SSs X sts m) : SSs X sts (sForget i m) := by
  refine pss_imp h ?_
  rintro D σ H ⟨env, S, tp, tv, r, q⟩
  by_cases hi : i < σ.length
  · have e : σ[i]? = some σ[i] := List.getElem?_eq_getElem hi
    have r2 := RelO.unset i σ[i] r
    rw [set_same e] at r2
    exact ⟨_, S, tp, tv, r2, q⟩
  · have e : env.set i none = env := List.set_eq_of_length_le (by rw [r.len]; omega)
    unfold sForget at q
    rw [e] at q
    exact ⟨env, S, tp, tv, r, q⟩
theorem ss_freeze (i : Nat) (h : SSs X sts m) : SSs X sts (sFreeze i m) := by
  refine pss_imp h ?_
  rintro D σ H ⟨env, S, tp, tv, r, q⟩
  unfold sFreeze at q
  split at q
  · rename_i d e
    obtain ⟨v, e1, r1⟩ := RelO.take r e
    have hl : i < env.length := (List.getElem?_eq_some_iff.mp e).1
    have r2 := RelO.set (i := i) (by rw [List.length_set]; exact hl) r1.frz
    rw [List.set_set, set_same e1] at r2
    exact ⟨_, S, tp, tv, r2, q⟩
  · exact ⟨env, S, tp, tv, r, q⟩
end
def permL {α : Type} (is : List Nat) (xs : List α) : List α := is.filterMap fun i => xs[i]?
def eCallK (n : Nat) (m : Fn) (is : List Nat) (ma : MA) : ME := fun env S => (ma env S).bind fun ds S1 => if (permL is ds).length = n ∧ isFs ds = true then m (permL is ds) S1 else .bad
section
variable {X : Cx} {e : Expr} {es : List Expr} {p pos kpos : Pos} {x : Str} {nm : Option Str} {kws : List Keyword} {k n : Nat} {m : Fn} {ma : MA} {is : List Nat} {ks : List Str}
theorem isFs_get {ds : List D} (h : isFs ds = true) {i : Nat} {d : D} (e : ds[i]? = some d) : d.isF = true := isFs_at h e
theorem RelO.perm {K : PySem.W.Frag} {S : Sto} {env : Env} {σ : L2.St} {tp : Env} {tv : List (Option V)} {H : Hp} {ds : List D} {vs : List V} (l : ds.length = vs.length) (hf : isFs ds = true) (h : Rel K S env σ (ds.map some ++ tp) (vs.map some ++ tv) H) : ∀ is : List Nat,
    (permL is ds).length = (permL is vs).length ∧ Rel K S env σ ((permL is ds).map some ++ (ds.map some ++ tp)) ((permL is vs).map some ++ (vs.map some ++ tv)) H
  | [] => ⟨rfl, h⟩
  | i :: is => by
    obtain ⟨l2, h2⟩ := RelO.perm l hf h is
    unfold permL at l2 h2 ⊢
    rw [List.filterMap_cons, List.filterMap_cons]
    cases z : ds[i]? with
    | none =>
      have : vs[i]? = none := by
        rw [List.getElem?_eq_none_iff] at z ⊢
        rw [← l]; exact z
      rw [this]
      exact ⟨l2, h2⟩
    | some d =>
      have hi := (List.getElem?_eq_some_iff.mp z).1
      obtain ⟨v, e, w⟩ := View.tmp (k := (is.filterMap fun i => ds[i]?).length + i) h2 (d := d) (by
        rw [List.getElem?_append_right (by simp)]
        simp only [List.length_map, Nat.add_sub_cancel_left]
        rw [List.getElem?_append_left (by simpa using hi), List.getElem?_map, z]; rfl)
      rw [List.getElem?_append_right (by simp [l2])] at e
      simp only [List.length_map, l2, Nat.add_sub_cancel_left] at e
      rw [List.getElem?_append_left (by simpa [← l] using hi), List.getElem?_map] at e
      cases z2 : vs[i]? with
      | none => rw [z2] at e; cases e
      | some y =>
        rw [z2] at e
        cases e
        exact ⟨by simp [l2], by simpa using w.push (isFs_get hf z)⟩
end
/-- .. with tables of code objects in the store -/
theorem law_endT {K : PySem.W.Frag} {H : Hp} {a : Addr} {ns : List Int} {m : Fn} {qs : List (Str × Addr)} (hq : ∀ p ∈ qs, tabOf K p.1 = some p.2 ∧ H p.2 = some (.tbl #[])) (h : ∃ S', m [.lst false (ns.map D.int)] (qs.map fun p => .tab p.1) = .ok (.bl true) S') (hS : SqL K H a (ns.map V.int)) :
    spM K 1 m [.ref a] H (fun v _ => v = .bl true) fun _ _ _ => False := by
  obtain ⟨S', e⟩ := h
  refine ⟨[.lst false (ns.map D.int)], qs.map fun p => .tab p.1, [], [], rfl, rfl, ?_, ?_⟩
  · refine ⟨fun b => ∃ u, H b = some u ∧ ∀ ps, u ≠ .tbl ps, qs.map (·.2), [], [], [], ?_, RpO.nil_mk, ?_, { nd := List.nodup_nil, ow := fun b hb => (nomatch hb), tr := fun b hb => hb }⟩
    · generalize hmu : qs.map (·.2) = mu
      have key : ∀ l : List (Str × Addr), (∀ p ∈ l, p ∈ qs) → RpO K (fun b => ∃ u, H b = some u ∧ ∀ ps, u ≠ .tbl ps) mu H ((l.map fun p => D.tab p.1).map some) ((l.map (·.2)).map fun a => some (V.ref a)) [] := by
        intro l
        induction l with
        | nil => intro _; exact RpO.nil_mk
        | cons p l ih =>
          intro hl
          have h1 := hq p (hl p List.mem_cons_self)
          refine RpO.cons_mk (o1 := []) (o2 := []) ?_ (ih fun x hx => hl x (List.mem_cons_of_mem _ hx))
          unfold Rp
          exact ⟨p.2, rfl, h1.1, LamX.TabS.nil h1.2, rfl⟩
      have := key qs fun p hp => hp
      rw [hmu] at this
      exact this
    · have : Rps K (fun b => ∃ u, H b = some u ∧ ∀ ps, u ≠ .tbl ps) (qs.map (·.2)) H (ns.map D.int) (ns.map V.int) [] := by
        clear e hS
        induction ns with
        | nil => exact Rps.nil_mk
        | cons n ns ih => exact Rps.cons_mk (o1 := []) (Rp.sc rfl) ih
      refine RpO.cons_mk (o1 := []) (o2 := []) ?_ RpO.nil_mk
      unfold Rp
      refine ⟨a, ns.map V.int, [], rfl, this, .inr ⟨rfl, ?_, rfl, rfl⟩⟩
      rcases hS with h | h
      · refine .inl ⟨?_, h⟩
        rcases h with h | ⟨o, h⟩
        · exact ⟨_, h, fun ps z => by cases z⟩
        · exact ⟨_, h, fun ps z => by cases z⟩
      · exact .inr h
  · rw [e]
    intro v H' r
    exact (View.top r).sc_inv rfl
theorem law_end {K : PySem.W.Frag} {H : Hp} {a : Addr} {ns : List Int} {m : Fn} (h : ∃ S', m [.lst false (ns.map D.int)] [] = .ok (.bl true) S') (hS : SqL K H a (ns.map V.int)) : spM K 1 m [.ref a] H (fun v _ => v = .bl true) fun _ _ _ => False :=
  law_endT (qs := []) (fun p hp => nomatch hp) h hS
end N1
end
section
namespace N1
open PySem PySem.Spec PyProof.Rows L2
theorem hu_room {k : Nat} {A : Around} (hr : Room k A) : A.units + 65 < cLine := by
  have := hr.un
  omega
theorem bt_len : bootBuiltins "len" = some (.builtin "len") := by decide +kernel
theorem bt_abs : bootBuiltins "abs" = some (.builtin "abs") := by decide +kernel
theorem bt_max : bootBuiltins "max" = some (.builtin "max") := by decide +kernel
theorem bt_min : bootBuiltins "min" = some (.builtin "min") := by decide +kernel
theorem bt_all : bootBuiltins "all" = some (.builtin "all") := by decide +kernel
theorem bt_repr : bootBuiltins "repr" = some (.builtin "repr") := by decide +kernel
theorem bt_sorted : bootBuiltins "sorted" = some (.builtin "sorted") := by decide +kernel
theorem bt_tuple : bootBuiltins "tuple" = some (.type "tuple") := by decide +kernel
theorem bt_list : bootBuiltins "list" = some (.type "list") := by decide +kernel
theorem bt_dict : bootBuiltins "dict" = some (.type "dict") := by decide +kernel
section
variable {X : Cx} {e a : Expr} {es : List Expr} {p pos : Pos}
theorem cl_len : CallR X (.builtin "len") (fun xs H Q => (∃ p ys, xs = [.ref p] ∧ (SqL X.K H p ys ∨ SqT X.K H p ys) ∧ Q (.int ys.length) H) ∨ ∃ z, xs = [.str z] ∧ z.length ≤ sizeLine ∧ Q (.int z.length) H) := CallR.or call_len_seq call_len_str
def eOpV (f : Sto → D → D → Option D) (i : Nat) (mb : ME) : ME := fun env S => match (env[i]?).join with
  | some a => (mb env S).bind fun b S1 => match f S1 a b with
    | some c => if c.isF = true then .ok c S1 else .bad
    | none => .bad
  | none => .bad
theorem tM_opV {K : KT} {r : R2} {f : Sto → D → D → Option D} {i : Nat} {mb : ME} (ho : Op2 K r f) : ∀ σ H Q, tM K (eOpV f i mb) σ H Q → tOp r (tVar i) (tM K mb) σ H Q := by
  rintro σ H Q ⟨env, S, tp, tv, h, q⟩
  unfold eOpV at q
  cases hd : (env[i]?).join with
  | none => rw [hd] at q; exact q.elim
  | some d =>
    rw [hd] at q
    simp only at q
    have ei := join_some hd
    obtain ⟨x, ex, _⟩ := View.slot h ei
    refine ⟨x, ex, env, S, tp, tv, h, ?_⟩
    cases z2 : mb env S with
    | bad => rw [z2] at q; exact q.elim
    | exn _ _ => rw [z2] at q; first | exact q | exact PostX.pop q | exact PostX.pop (PostX.pop q) | exact PostX.popA (by assumption) q | exact PostXS.toX q | exact PostX.pop (PostXS.toX q) | exact PostX.popA (by assumption) (PostXS.toX q) | exact PostXS.pop q | exact False.elim q
    | ok b S2 =>
      rw [z2] at q
      intro y H2 r2
      simp only [R.bind] at q
      cases z3 : f S2 d b with
      | none => rw [z3] at q; exact q.elim
      | some c =>
        rw [z3] at q
        simp only at q
        by_cases hf : c.isF = true
        · rw [if_pos hf] at q
          obtain ⟨x', ex', w⟩ := View.slot r2 ei
          rw [ex] at ex'
          cases ex'
          exact ho S2 env σ _ _ H2 d b c x y Q w (View.top r2) z3 fun u hu => q u H2 (RelO.pop2 (hu.push hf))
        · rw [if_neg hf] at q
          exact q.elim
theorem st_cmpV {X : Cx} {a b : Expr} {pos : Pos} {cop : CmpOp} {r : R2} {f : Sto → D → D → Option D} {i : Nat} {mb : ME} (hr : OpR X (compareOp cop) r) (ho : Op2 X.K r f) (ha : PE X a (tVar i)) (hb : SE X b mb) (hm : behindInMarks cop b = false) : ST X (.Compare a [cop] [b] pos) (tE (eOpV f i mb)) :=
  pt_imp (pt_cmpR hr ha hb hm) fun σ H Q h => tM_opV ho σ H _ (tMT_tE σ H Q h)
section
variable {a b : Expr} {i : Nat} {mb : ME}
theorem st_neV (hu : X.A.units + 65 < cLine) (ha : PE X a (tVar i)) (hb : SE X b mb) : ST X (.Compare a [.NotEq] [b] pos) (tE (eOpV fNe i mb)) := st_cmpV (op_neD (by omega)) op2_ne ha hb (nomark _)
end
end
section
variable {X : Cx} {elt tg iter : Expr} {ifs : List Expr} {scope : Scope} {own : List (Str × Nat)} {pos : Pos} {mi : MI} {g : MG} {mt : MT} {me : ME} {sl : List Nat}
theorem tMS_setF {K : KT} {i : Nat} {me : ME} : ∀ D σ H, tMS K (sSet i (eFrz me)) D σ H → tMS K (sSet i me) D σ H := by
  rintro D σ H ⟨env, S, tp, tv, h, q⟩
  refine ⟨env, S, tp, tv, h, ?_⟩
  unfold sSet eFrz at q
  unfold sSet
  cases z1 : me env S with
  | bad => rw [z1] at q; exact q.elim
  | exn _ _ => rw [z1] at q; first | exact q | exact PostX.pop q | exact PostX.pop (PostX.pop q) | exact PostX.popA (by assumption) q | exact PostXS.toX q | exact PostX.pop (PostXS.toX q) | exact PostX.popA (by assumption) (PostXS.toX q) | exact PostXS.pop q | exact False.elim q
  | ok d S1 =>
    rw [z1] at q
    simp only [R.bind] at q ⊢
    by_cases hi : i < env.length
    · rw [if_pos hi] at q ⊢
      intro σ' H' r
      refine q σ' H' ?_
      obtain ⟨v, e1, r1⟩ := RelO.take r (by rw [List.getElem?_set_self hi])
      have r2 := RelO.set (i := i) (by rw [List.length_set, List.length_set]; exact hi) r1.frz
      rw [List.set_set, List.set_set, set_same e1] at r2
      exact r2
    · rw [if_neg hi] at q
      exact q.elim
theorem s_setLcF {i : Nat} {y : Str} {py spos : Pos} (hc : X.calm = true) (hN : X.N.Nodup) (hy : X.N[i]? = some y) (hyl : X.env.scope.names.lookup y = some .local)
    (hsw : swapsWith (.ListComp elt [⟨tg, iter, ifs, 0⟩] scope pos) (some (.Name y py)) spos.line X.env = pure true) (hi : SI X tg iter mi) (ok : BlkOk X.N X.env.scope scope own)
    (hg : ∀ (s : Shared) (H : Hp) (C : Addr) (cl : List (Str × Addr)) (fp : List Addr), SG (X.blk s H scope (compEnvC scope cl C X.env) fp) tg sl g) (ht : ∀ (s : Shared) (H : Hp) (C : Addr) (cl : List (Str × Addr)) (fp : List Addr), STs (X.blk s H scope (compEnvC scope cl C X.env) fp) ifs mt)
    (he : ∀ (s : Shared) (H : Hp) (C : Addr) (cl : List (Str × Addr)) (fp : List Addr), SE (X.blk s H scope (compEnvC scope cl C X.env) fp) elt me) (hsl : ∀ i ∈ sl, i ∈ own.map (·.2) := by decide) (hs : ∀ x, foldedSetIterable iter X.env x = pure x := by intro _; rfl) :
    SS X (.Assign [.Name y py] (.ListComp elt [⟨tg, iter, ifs, 0⟩] scope pos) spos) (sSet i (eFrz (eLc (own.map (·.2)) mi g mt me))) :=
  ps_imp (s_setLc hc hN hy hyl hsw hi ok hg ht he hsl hs) tMS_setF
end
end N1
end
section
namespace N1
open PySem PySem.Spec PyProof.Rows L2
def dd {α : Type} [DecidableEq α] : List α → List α
  | [] => []
  | x :: xs => if x ∈ xs then dd xs else x :: dd xs
theorem nodup_len {α : Type} [DecidableEq α] : ∀ {xs ys : List α}, xs.Nodup → (∀ x ∈ xs, x ∈ ys) → xs.length ≤ ys.length
  | [], _, _, _ => Nat.zero_le _
  | x :: xs, ys, h, k => by
    rw [List.nodup_cons] at h
    have hx := k x List.mem_cons_self
    have := nodup_len (xs := xs) (ys := ys.erase x) h.2 fun z hz => by
      have hne : z ≠ x := fun e => h.1 (e ▸ hz)
      exact (List.mem_erase_of_ne hne).mpr (k z (List.mem_cons_of_mem _ hz))
    rw [List.length_erase_of_mem hx] at this
    have hp : 0 < ys.length := List.length_pos_of_mem hx
    simp only [List.length_cons]
    omega
end N1
end
section
namespace N1
open PySem PySem.Spec PyProof.Rows L2
def b_pot : MS := (sSeq (sSet 2 (eIf (tE (eB (bOp fLtI (bVar 1) (bFn fLen (abCons (bVar 0) abNil))))) (eB (bOp ixD (bVar 0) (bVar 1))) (eB (bOp fAddI (bOp fMulI (bC (.int 17)) (bVar 1)) (bC (.int 3))))))
  (sSeq (sSet 3 (eIf (tE (eB (bOp fGeI (bFn fAbs (abCons (bVar 2) abNil)) (bOp fPowI (bC (.int 10)) (bC (.int 18)))))) (eB (bOp fModI (bFn fAbs (abCons (bVar 2) abNil)) (bOp fPowI (bOp fPowI (bC (.int 10)) (bC (.int 60))) (bC (.int 3))))) (eB (bC (.int 0)))))
  (sRet (eCell (eLst (aCons (eB (bVar 3)) (aCons (eB (bOp fModI (bOp fAddI (bOp fAddI (bOp fMulI (bOp fModI (bVar 2) (bC (.int 2305843009213693951))) (bC (.int 69621))) (bOp fMulI (bOp fMulI (bC (.int 104729)) (bVar 1)) (bVar 1))) (bC (.int 71))) (bC (.int 2305843009213693921)))) (aCons (eB (bC (.int 0))) aNil))))))))
def potF : Fn := fnOf 4 b_pot
def b_take : MS := (sSeq (sIf (tE (eB (bOp fGtI (bOp ixD (bVar 0) (bC (.int 0))) (bC (.int 0))))) (sSeq (sSet 2 (eB (bOp fModI (bOp ixD (bVar 0) (bC (.int 0))) (bVar 1))))
  (sSeq (sPut 0 (bC (.int 0)) (eB (bOp fDivI (bOp ixD (bVar 0) (bC (.int 0))) (bVar 1))))
  (sRet (eB (bVar 2)))))
  sNil)
  (sSeq (sPut 0 (bC (.int 2)) (eB (bOp fAddI (bOp ixD (bVar 0) (bC (.int 2))) (bC (.int 1)))))
  (sSeq (sSet 3 (eOp ixD (eFrz (eLst (aCons (eB (bC (.int 2147483647))) (aCons (eB (bC (.int 2147483629))) (aCons (eB (bC (.int 2147483587))) (aCons (eB (bC (.int 2147483579))) (aCons (eB (bC (.int 2147483563))) aNil))))))) (eB (bOp fModI (bOp ixD (bVar 0) (bC (.int 2))) (bC (.int 5))))))
  (sSeq (sSet 4 (eB (bOp fModI (bOp fPowI (bOp fAddI (bOp fAddI (bOp ixD (bVar 0) (bC (.int 1))) (bOp fMulI (bOp fMulI (bC (.int 40009)) (bOp ixD (bVar 0) (bC (.int 2)))) (bOp ixD (bVar 0) (bC (.int 2))))) (bC (.int 31))) (bC (.int 3))) (bVar 3))))
  (sRet (eB (bOp fModI (bOp fDivI (bOp fModI (bOp fMulI (bVar 4) (bOp fAddI (bOp fModI (bVar 4) (bC (.int 10009))) (bOp fMulI (bC (.int 89)) (bOp ixD (bVar 0) (bC (.int 2)))))) (bC (.int 2305843009213693907))) (bC (.int 89))) (bVar 1))))))))
def takeF : Fn := fnOf 5 b_take
theorem isF_int (i : Int) : (D.int i).isF = true := rfl
theorem isF_bl (b : Bool) : (D.bl b).isF = true := rfl
/-- the pot at place n -/
structure PotAt (S : Sto) (n : Nat) (c : Int) : Prop where
  ex : ∃ g p c', S[n]? = some (.lst true [.int g, .int p, .int c']) ∧ 0 ≤ g ∧ 0 ≤ p ∧ p < 2305843009213693952 ∧ 0 ≤ c' ∧ c' ≤ c
theorem take_hi {S : Sto} {n : Nat} {g p c k : Int} (hS : S[n]? = some (.lst true [.int g, .int p, .int c])) (hg : 0 < g) (hk : 0 < k) (hk2 : k < 1073741824) :
    takeF [.ref n, .int k] S = .ok (.int (g % k)) (S.set n (.lst true [.int (g / k), .int p, .int c])) := by
  simp [takeF, fnOf, b_take, sSeq, sIf, tE, eB, bOp, bVar, bC, ixD, hS, atI, ixN, fGtI, fC, hg, sSet, sPut, sRet, fModI, fDivI, fI, hk, hk2, mutE, wSet, isF_int, isF_bl, D.frz]
theorem log2_lt {n k : Nat} (h : n < 2 ^ k) (h0 : n ≠ 0) : n.log2 < k := (Nat.log2_lt h0).mpr h
theorem bits_le {x : Int} {k : Nat} (h0 : 0 ≤ x) (h : x < 2 ^ k) : Builtin.Int.intBits x ≤ k := by
  unfold Builtin.Int.intBits
  split
  · exact Nat.zero_le _
  · rename_i hne
    have hx : x.natAbs ≠ 0 := fun e => by
      have : x = 0 := Int.natAbs_eq_zero.mp e
      subst this
      simp at hne
    have h2 : x.natAbs < 2 ^ k := by
      have e : ((x.natAbs : Nat) : Int) = x := Int.natAbs_of_nonneg h0
      have h3 : ((x.natAbs : Nat) : Int) < ((2 ^ k : Nat) : Int) := by rw [e]; simpa using h
      exact_mod_cast h3
    have := log2_lt h2 hx
    omega
theorem powOk3 {x : Int} (h0 : 0 ≤ x) (h : x < 2 ^ 200) : powOk x 3 = true := by
  unfold powOk
  apply decide_eq_true
  refine ⟨by decide, ?_⟩
  have := bits_le h0 h
  have : (Builtin.Int.intBits x : Int) ≤ 200 := by exact_mod_cast this
  omega
theorem big_small {x : Int} (h0 : 0 ≤ x) (h : x < 18446744073709551616) : big x = true := by
  unfold big
  apply decide_eq_true
  exact ⟨by omega, by omega⟩
theorem mulOk_l {x y : Int} (h : big x = true) : mulOk x y = true := by unfold mulOk; rw [h]; rfl
theorem mulOk_r {x y : Int} (h : big y = true) : mulOk x y = true := by unfold mulOk; rw [h]; simp
theorem prime_at {r : Int} (h0 : 0 ≤ r) (h : r < 5) : ∃ q, atI [D.int 2147483647, D.int 2147483629, D.int 2147483587, D.int 2147483579, D.int 2147483563] r = some (.int q) ∧ 0 < q ∧ q < 2147483648 := by
  have : r = 0 ∨ r = 1 ∨ r = 2 ∨ r = 3 ∨ r = 4 := by omega
  rcases this with e | e | e | e | e <;> subst e
  · exact ⟨_, rfl, by decide, by decide⟩
  · exact ⟨_, rfl, by decide, by decide⟩
  · exact ⟨_, rfl, by decide, by decide⟩
  · exact ⟨_, rfl, by decide, by decide⟩
  · exact ⟨_, rfl, by decide, by decide⟩
theorem at3_0 {a b c : D} : atI [a, b, c] 0 = some a := rfl
theorem at3_1 {a b c : D} : atI [a, b, c] 1 = some b := rfl
theorem at3_2 {a b c : D} : atI [a, b, c] 2 = some c := rfl
theorem ix3_2 : ixN 3 2 = some 2 := rfl
theorem take_lo {S : Sto} {n : Nat} {p c k : Int} (hS : S[n]? = some (.lst true [.int 0, .int p, .int c])) (hp : 0 ≤ p) (hp2 : p < 2305843009213693952) (hc : 0 ≤ c) (hc2 : c < 1152921504606846976) (hk : 0 < k) :
    ∃ d, takeF [.ref n, .int k] S = .ok (.int d) (S.set n (.lst true [.int 0, .int p, .int (c + 1)])) ∧ 0 ≤ d ∧ d < k := by
  have hn : n < S.length := (List.getElem?_eq_some_iff.mp hS).1
  have hS2 : (S.set n (.lst true [.int 0, .int p, .int (c + 1)]))[n]? = some (.lst true [.int 0, .int p, .int (c + 1)]) := List.getElem?_set_self hn
  obtain ⟨q, hq, q0, q1⟩ := prime_at (r := (c + 1) % 5) (by omega) (by omega)
  have bc : big (c + 1) = true := big_small (by omega) (by omega)
  have m1 : mulOk 40009 (c + 1) = true := mulOk_r bc
  have m2 : mulOk (40009 * (c + 1)) (c + 1) = true := mulOk_r bc
  have m3 : mulOk 89 (c + 1) = true := mulOk_r bc
  have hx0 : 0 ≤ p + 40009 * (c + 1) * (c + 1) + 31 := by
    have : 0 ≤ 40009 * (c + 1) * (c + 1) := Int.mul_nonneg (Int.mul_nonneg (by omega) (by omega)) (by omega)
    omega
  have hx1 : p + 40009 * (c + 1) * (c + 1) + 31 < 2 ^ 200 := by
    have h1 : 40009 * (c + 1) * (c + 1) ≤ 40009 * 1152921504606846977 * 1152921504606846977 :=
      Int.mul_le_mul (by omega) (by omega) (by omega) (by omega)
    have h2 : (40009 * 1152921504606846977 * 1152921504606846977 : Int) + 2305843009213693952 + 31 < 2 ^ 200 := by decide
    omega
  have m4 := powOk3 hx0 hx1
  generalize hX : p + 40009 * (c + 1) * (c + 1) + 31 = X at m4 hx0 hx1
  have y0 : 0 ≤ X ^ 3 % q := Int.emod_nonneg _ (by omega)
  have y1 : X ^ 3 % q < q := Int.emod_lt_of_pos _ q0
  generalize hY : X ^ 3 % q = Y at y0 y1
  have m5 : mulOk Y (Y % 10009 + 89 * (c + 1)) = true := mulOk_l (big_small y0 (by omega))
  refine ⟨Y * (Y % 10009 + 89 * (c + 1)) % 2305843009213693907 / 89 % k, ?_, Int.emod_nonneg _ (by omega), Int.emod_lt_of_pos _ hk⟩
  simp [takeF, fnOf, b_take, sSeq, sIf, tE, eB, bOp, bVar, bC, ixD, hS, hS2, at3_0, at3_1, at3_2, ix3_2, fGtI, fC, sSet, sPut, sRet, sNil, fModI, fDivI, fAddI, fMulI, fPowI, fI, hk, mutE, wSet, isF_int, isF_bl, D.frz, frzs, eOp, eFrz, eLst, aCons, aNil, hq, m1, m2, m3, hX, m4, q0, hY, m5]
theorem take_ok {S : Sto} {n : Nat} {c k : Int} (P : PotAt S n c) (hc : c < 1152921504606846976) (hk : 0 < k) (hk2 : k < 1073741824) :
    ∃ d S', takeF [.ref n, .int k] S = .ok (.int d) S' ∧ 0 ≤ d ∧ d < k ∧ PotAt S' n (c + 1) ∧ S'.length = S.length ∧ ∀ m, m ≠ n → S'[m]? = S[m]? := by
  obtain ⟨g, p, c', hS, hg, hp, hp2, hc0, hc1⟩ := P.ex
  have hn : n < S.length := (List.getElem?_eq_some_iff.mp hS).1
  by_cases g0 : 0 < g
  · refine ⟨_, _, take_hi hS g0 hk hk2, Int.emod_nonneg _ (by omega), Int.emod_lt_of_pos _ hk, ⟨g / k, p, c', List.getElem?_set_self hn, Int.ediv_nonneg (by omega) (by omega), hp, hp2, hc0, by omega⟩, List.length_set, fun m hm => List.getElem?_set_ne (Ne.symm hm)⟩
  · have e : g = 0 := by omega
    subst e
    obtain ⟨d, h1, h2, h3⟩ := take_lo hS hp hp2 hc0 (by omega) hk
    exact ⟨d, _, h1, h2, h3, ⟨0, p, c' + 1, List.getElem?_set_self hn, by omega, hp, hp2, by omega, by omega⟩, List.length_set, fun m hm => List.getElem?_set_ne (Ne.symm hm)⟩
theorem atI_ints {ns : List Int} {k : Int} (h0 : 0 ≤ k) (h : k < ns.length) : ∃ x, atI (ns.map D.int) k = some (.int x) := by
  have hk : k.toNat < ns.length := by omega
  refine ⟨ns[k.toNat], ?_⟩
  unfold atI ixN
  rw [List.length_map, if_pos h0, if_pos h]
  show (ns.map D.int)[k.toNat]? = _
  rw [List.getElem?_map, List.getElem?_eq_getElem hk]
  rfl
theorem pw1 : powOk 10 18 = true := by decide +kernel
theorem pw2 : powOk 10 60 = true := by decide +kernel
theorem pw3 : powOk ((10 : Int) ^ 60) 3 = true := by decide +kernel
theorem pw4 : powOk 1000000000000000000000000000000000000000000000000000000000000 3 = true := by decide +kernel
theorem pot_ok {ns : List Int} {k : Int} {S : Sto} (hk : 0 ≤ k) (hk2 : k ≤ 100) (hl : ns.length ≤ 63) : ∃ S', potF [.lst false (ns.map D.int), .int k] S = .ok (.ref S.length) S' ∧ PotAt S' S.length 0 ∧ S'.length = S.length + 1 ∧ ∀ m, m < S.length → S'[m]? = S[m]? := by
  have m1 : mulOk 17 k = true := mulOk_r (big_small (by omega) (by omega))
  have m2 : mulOk 104729 k = true := mulOk_r (big_small (by omega) (by omega))
  have m3 : mulOk (104729 * k) k = true := mulOk_r (big_small (by omega) (by omega))
  have m4 : ∀ x : Int, mulOk x 69621 = true := fun x => mulOk_r (by decide)
  have pos3 : (0 : Int) < (10 ^ 60) ^ 3 := by decide +kernel
  have cell : ∀ x : Int, (if k < (ns.length : Int) then atI (ns.map D.int) k = some (.int x) else x = 17 * k + 3) →
      ∃ g : Int, 0 ≤ g ∧ potF [.lst false (ns.map D.int), .int k] S = .ok (.ref S.length) (S ++ [.lst true [.int g, .int ((x % 2305843009213693951 * 69621 + 104729 * k * k + 71) % 2305843009213693921), .int 0]]) := by
    intro x hx
    have hA : 0 ≤ (if x < 0 then -x else x) := by split <;> omega
    generalize eA : (if x < 0 then -x else x) = A at hA
    by_cases hc : k < (ns.length : Int)
    · rw [if_pos hc] at hx
      by_cases hg : (1000000000000000000 : Int) ≤ A
      · refine ⟨A % (10 ^ 60) ^ 3, Int.emod_nonneg _ (by omega), ?_⟩
        simp only [potF, fnOf, b_pot, sSeq, sSet, eIf, tE, eB, bOp, bVar, bC, fLtI, fGeI, fC, bFn, fLen, abCons, abNil, lenD, itemsOf, hc, ixD, hx, isF_int, isF_bl, fAbs, fPowI, fModI, fMulI, fAddI, fI, pw1, pw2, pw3, hg, pos3, sRet, eCell, eLst, aCons, aNil, m1, m2, m3, m4, D.frz, eA]
        simp [hc, hx, isF_int, isF_bl, pos3, hg, eA, m1, m2, m3, m4, D.frz, pw1, pw2, pw3, pw4]
      · refine ⟨0, by omega, ?_⟩
        simp only [potF, fnOf, b_pot, sSeq, sSet, eIf, tE, eB, bOp, bVar, bC, fLtI, fGeI, fC, bFn, fLen, abCons, abNil, lenD, itemsOf, hc, ixD, hx, isF_int, isF_bl, fAbs, fPowI, fModI, fMulI, fAddI, fI, pw1, pw2, pw3, hg, pos3, sRet, eCell, eLst, aCons, aNil, m1, m2, m3, m4, D.frz, eA]
        simp [hc, hx, isF_int, isF_bl, pos3, hg, eA, m1, m2, m3, m4, D.frz, pw1, pw2, pw3, pw4]
    · rw [if_neg hc] at hx
      subst hx
      by_cases hg : (1000000000000000000 : Int) ≤ A
      · refine ⟨A % (10 ^ 60) ^ 3, Int.emod_nonneg _ (by omega), ?_⟩
        simp only [potF, fnOf, b_pot, sSeq, sSet, eIf, tE, eB, bOp, bVar, bC, fLtI, fGeI, fC, bFn, fLen, abCons, abNil, lenD, itemsOf, hc, ixD, isF_int, isF_bl, fAbs, fPowI, fModI, fMulI, fAddI, fI, pw1, pw2, pw3, hg, pos3, sRet, eCell, eLst, aCons, aNil, m1, m2, m3, m4, D.frz, eA]
        simp [hc, isF_int, isF_bl, pos3, hg, eA, m1, m2, m3, m4, D.frz, pw1, pw2, pw3, pw4]
      · refine ⟨0, by omega, ?_⟩
        simp only [potF, fnOf, b_pot, sSeq, sSet, eIf, tE, eB, bOp, bVar, bC, fLtI, fGeI, fC, bFn, fLen, abCons, abNil, lenD, itemsOf, hc, ixD, isF_int, isF_bl, fAbs, fPowI, fModI, fMulI, fAddI, fI, pw1, pw2, pw3, hg, pos3, sRet, eCell, eLst, aCons, aNil, m1, m2, m3, m4, D.frz, eA]
        simp [hc, isF_int, isF_bl, pos3, hg, eA, m1, m2, m3, m4, D.frz, pw1, pw2, pw3, pw4]
  have hx : ∃ x : Int, if k < (ns.length : Int) then atI (ns.map D.int) k = some (.int x) else x = 17 * k + 3 := by
    by_cases hc : k < (ns.length : Int)
    · obtain ⟨x, e⟩ := atI_ints hk hc
      exact ⟨x, by rw [if_pos hc]; exact e⟩
    · exact ⟨_, by rw [if_neg hc]⟩
  obtain ⟨x, hx⟩ := hx
  obtain ⟨g, hg, e⟩ := cell x hx
  refine ⟨_, e, ⟨g, _, 0, by rw [List.getElem?_append_right (Nat.le_refl _), Nat.sub_self]; rfl, hg, Int.emod_nonneg _ (by omega), ?_, by omega, by omega⟩, by simp, fun m hm => List.getElem?_append_left hm⟩
  have := Int.emod_lt_of_pos (x % 2305843009213693951 * 69621 + 104729 * k * k + 71) (show (0 : Int) < 2305843009213693921 by decide)
  omega
end N1
end
section
namespace N1
open PySem PySem.Spec PyProof.Rows L2
theorem toPys_ints : ∀ ns : List Int, toPys (ns.map D.int) = some (ns.map PyData.int)
  | [] => rfl
  | n :: ns => by
    rw [List.map_cons]
    unfold toPys
    rw [toPys_ints ns]
    rfl
theorem shaped_int (k : Int) : SeqAt.shaped (.int k) = true := by
  unfold SeqAt.shaped
  simp [PyData.canLay0, PyData.depth]
theorem canAll_ints : ∀ ns : List Int, PyData.canLayAll0 (ns.map PyData.int) = true
  | [] => by simp [PyData.canLayAll0]
  | n :: ns => by simp [PyData.canLayAll0, PyData.canLay0, canAll_ints ns]
theorem depthAll_ints : ∀ ns : List Int, PyData.depthAll (ns.map PyData.int) = 0
  | [] => by simp [PyData.depthAll]
  | n :: ns => by simp [PyData.depthAll, PyData.depth, depthAll_ints ns]
theorem shaped_ints (ns : List Int) : SeqAt.shaped (.list (ns.map PyData.int)) = true := by
  unfold SeqAt.shaped
  simp [PyData.canLay0, PyData.depth, canAll_ints, depthAll_ints]
theorem any_ints (k : Int) : ∀ ns : List Int, ((ns.map PyData.int).any fun z => PyData.eqv z (.int k)) = decide (k ∈ ns)
  | [] => rfl
  | n :: ns => by
    have ih := any_ints k ns
    rw [List.map_cons, List.any_cons, ih]
    have : PyData.eqv (.int n) (.int k) = decide (k = n) := by
      simp only [PyData.eqv]
      by_cases h : k = n
      · subst h; simp
      · simp [h]; exact fun e => h e.symm
    rw [this]
    by_cases h1 : k = n <;> by_cases h2 : k ∈ ns <;> simp [h1, h2]
theorem inD_tup (S : Sto) (k : Int) (ns : List Int) : inD S (.int k) (.tup (ns.map D.int)) = some (decide (k ∈ ns)) := by
  unfold inD
  simp only [itemsOf, toPy, toPys_ints, shaped_int, shaped_ints, and_self, if_true, any_ints]
theorem inD_lst (S : Sto) (k : Int) (ns : List Int) (b : Bool) : inD S (.int k) (.lst b (ns.map D.int)) = some (decide (k ∈ ns)) := by
  unfold inD
  simp only [itemsOf, toPy, toPys_ints, shaped_int, shaped_ints, and_self, if_true, any_ints]
theorem isFs_ints : ∀ ns : List Int, isFs (ns.map D.int) = true
  | [] => by simp [isFs]
  | n :: ns => by simp [isFs, D.isF, isFs_ints ns]
abbrev rowD (r : List Int) : D := .tup (r.map D.int)
abbrev tabD (t : List (List Int)) : D := .tup (t.map rowD)
theorem isFs_rows : ∀ t : List (List Int), isFs (t.map rowD) = true
  | [] => by simp [isFs]
  | r :: t => by simp [isFs, D.isF, isFs_ints, isFs_rows t]
theorem atI_rows {α : Type} {t : List α} {g : α → D} {a : Int} (h0 : 0 ≤ a) : atI (t.map g) a = (t[a.toNat]?).map g := by
  unfold atI ixN
  rw [List.length_map, if_pos h0]
  by_cases h : a < (t.length : Int)
  · rw [if_pos h]
    show (t.map g)[a.toNat]? = _
    rw [List.getElem?_map]
  · rw [if_neg h]
    have : t[a.toNat]? = none := by
      rw [List.getElem?_eq_none_iff]
      omega
    rw [this]
    rfl
/-- may_follow -/
def b_may : MS := (sRet (eAnd (eB (bOp fLtI (bVar 1) (bFn fLen (abCons (bVar 0) abNil)))) (eB (bOp fIn (bVar 2) (bOp ixD (bVar 0) (bVar 1))))))
def mayF : Fn := fnOf 3 b_may
def mayI (t : List (List Int)) (a b : Int) : Bool := match t[a.toNat]? with
  | some r => decide (b ∈ r)
  | none => false
theorem may_ok (t : List (List Int)) {a : Int} (b : Int) (S : Sto) (h0 : 0 ≤ a) : mayF [tabD t, .int a, .int b] S = .ok (.bl (mayI t a b)) S := by
  unfold mayI
  by_cases h : a < (t.length : Int)
  · have hl : a.toNat < t.length := by omega
    have e : t[a.toNat]? = some t[a.toNat] := List.getElem?_eq_getElem hl
    rw [e]
    simp [mayF, fnOf, b_may, sRet, eAnd, eB, bOp, bVar, fLtI, fC, bFn, fLen, abCons, abNil, lenD, itemsOf, ixD, h, atI_rows h0, e, fIn, inD_tup, isF_bl, D.frz]
  · have e : t[a.toNat]? = none := by
      rw [List.getElem?_eq_none_iff]
      omega
    rw [e]
    simp [mayF, fnOf, b_may, sRet, eAnd, eB, bOp, bVar, fLtI, fC, bFn, fLen, abCons, abNil, lenD, itemsOf, ixD, h, isF_bl, D.frz]
end N1
end
section
namespace N1
open PySem PySem.Spec PyProof.Rows L2
def eOpA (f : Sto → D → D → Option D) (ma mb : ME) : ME := fun env S => (ma env S).bind fun a S1 => (mb env S1).bind fun b S2 => match f S2 a b with
  | some c => .ok c S2
  | none => .bad
def rCatX (K : PySem.W.Frag) : R2 := fun x y H Q => ∃ a b xs ys, x = .ref a ∧ y = .ref b ∧ SqL K H a xs ∧ SqL K H b ys ∧ xs.length + ys.length ≤ sizeLine ∧ ∀ p, H p = none → Q (.ref p) (upd H p (.lst (xs ++ ys)))
theorem op_catX {X : Cx} : OpR X (binaryOp .Add) (rCatX X.K) := by
  intro pins s σ H x y v u Q I rx ry ⟨a, b, xs, ys, ex, ey, ha, hb, hz, q⟩
  subst ex; subst ey
  cases rx; cases ry
  obtain ⟨its, r1, ⟨⟨c1, d1, dt1, s1⟩, n1, g1, k1, _, e1⟩, _⟩ := I.list ha
  obtain ⟨its2, r2, ⟨⟨c2, d2, dt2, s2⟩, n2, g2, k2, _, e2⟩, _⟩ := I.list hb
  obtain rfl : c1 = .type "list" := k1
  obtain rfl : c2 = .type "list" := k2
  have e1' : dt1 = .seq its.toArray n1 := e1
  have e2' : dt2 = .seq its2.toArray n2 := e2
  subst e1'; subst e2'
  have hl1 := r1.length
  have hl2 := r2.length
  refine PySem.concat_meets ⟨_, g1, rfl⟩ ⟨_, g2, rfl⟩ PySem.noFill_list_add PySem.seq_list_add PySem.F.slot_list_add PySem.F.entry_list_add (PySem.F.args_list_add_2 _ _) (list_addW a b its.toArray its2.toArray n1 n2 d1 d2 s1 s2 (by simp; omega)) ⟨g1, g2, ?_⟩
  have ea : its.toArray ++ its2.toArray = (its ++ its2).toArray := by simp
  rw [ea]
  exact ⟨.ref _, _, I.lnew (t' := s.toks) (r1.append r2) (by rw [List.length_append]; omega), rfl, q _ I.fresh⟩
def fRepL : Sto → D → D → Option D := fun _ a b => match a, b with
  | .lst true ds, .int k => if isFs ds = true ∧ -(2 ^ 63) ≤ k ∧ k < 2 ^ 63 ∧ ds.length * k.toNat ≤ 16777216 then some (.lst true (List.replicate k.toNat ds).flatten) else none
  | _, _ => none
end N1
end
section
namespace N1
open PySem PySem.Spec PyProof.Rows L2
def keyD : D → Option Key
  | .int i => some (.inl i)
  | .str x => some (.inr x)
  | _ => none
theorem keyD_sc {d : D} {k : Key} (h : keyD d = some k) : d.sc = some (kV k) := by
  cases d <;> first | (cases h; rfl) | cases h
section
variable {K : PySem.W.Frag} {S : List (Option D)} {env : Env} {σ : L2.St} {tp : Env} {tv : List (Option V)} {H : Hp} {d : D} {v : V}
theorem RelO.mkDct (h : RelO K S env σ tp tv H) {p : Addr} (hp : H p = none) : RelO K S env σ (some (.dct true [] []) :: tp) (some (.ref p) :: tv) (upd H p (.dK [])) := by
  obtain ⟨F, mu, oS, oE, oT, h1, h2, h3, h4⟩ := h
  have m : Mv F F mu mu H (upd H p (.dK [])) (fun a => a = p) := mv_new h4 hp
  have np : ∀ a ∈ oS ++ (oE ++ oT), ¬ a = p := fun a ha e => by
    obtain ⟨⟨u, e1, _⟩, _⟩ := h4.ow a ha
    rw [e, hp] at e1; cases e1
  refine ⟨F, mu, oS, oE, [p] ++ oT, h1.mv m _ _ _ (fun a z => np a (by simp [z])), h2.mv m _ _ _ (fun a z => np a (by simp [z])), RpO.cons_mk ?_ (h3.mv m _ _ _ (fun a z => np a (by simp [z]))), (h4.add (u := .dK []) hp trivial).perm (perm3 oE [p] oS oT)⟩
  unfold Rp
  exact ⟨p, [], [], rfl, rfl, Rps.nil_mk, .inl ⟨rfl, upd_same, rfl⟩⟩
/-- a dict that is held is written: its values stand still -/
theorem RelO.putDct {ks ks' : List Key} {vs vs' : List D} {w : V} (h : RelO K S env σ (some (.dct true ks vs) :: tp) (some w :: tv) H) (hf : isFs vs = true) :
    ∃ a xs, w = .ref a ∧ H a = some (.dK (ks.zip xs)) ∧ ks.length = vs.length ∧ vs.length = xs.length ∧ RelO K S env σ (vs.map some ++ (some (.dct true [] []) :: tp)) (xs.map some ++ (some w :: tv)) (upd H a (.dK [])) := by
  obtain ⟨F, mu, oS, oE, oT, h1, h2, h3, h4⟩ := h
  obtain ⟨x, p1, p2, ev, eo, hc, h3'⟩ := h3.cons_inv
  injection ev with ev
  subst ev; subst eo
  unfold Rp at hc
  obtain ⟨a, xs, o', e, lk, r, q⟩ := hc
  have on := Rps.noown vs xs o' hf r
  subst on
  have q' : H a = some (.dK (ks.zip xs)) ∧ p1 = [a] := by
    rcases q with ⟨_, q, e2⟩ | ⟨e1, _⟩
    · exact ⟨q, e2⟩
    · cases e1
  obtain ⟨qa, e2⟩ := q'
  subst e2
  refine ⟨a, xs, e, qa, lk, r.len, ?_⟩
  have ha : a ∈ oS ++ (oE ++ ([a] ++ p2)) := by simp
  have m : Mv F F mu mu H (upd H a (.dK [])) (fun b => b = a) := mv_put h4 ha
  have na : ∀ b ∈ oS ++ (oE ++ p2), ¬ b = a := fun b hb e => by
    subst e
    have nd' : (b :: (oS ++ (oE ++ p2))).Nodup := ((perm3 oE [b] oS p2).nodup_iff).mp h4.nd
    exact (List.nodup_cons.mp nd').1 hb
  refine ⟨F, mu, oS, oE, [] ++ ([a] ++ p2), h1.mv m _ _ _ (fun b z => na b (by simp [z])), h2.mv m _ _ _ (fun b z => na b (by simp [z])), ?_, h4.put (u := .dK []) ha trivial⟩
  refine RpO.app (RpO.of_all (r.mv m _ _ _ (fun b z => nomatch z))) (RpO.cons_mk ?_ (h3'.mv m _ _ _ (fun b z => na b (by simp [z]))))
  unfold Rp
  exact ⟨a, [], [], e, rfl, Rps.nil_mk, .inl ⟨rfl, upd_same, rfl⟩⟩
theorem RelO.closeDct {ks : List Key} {vs : List D} {xs : List V} {a : Addr} (lk : ks.length = vs.length) (l : vs.length = xs.length) (hf : isFs vs = true) (h : RelO K S env σ (vs.map some ++ (some (.dct true [] []) :: tp)) (xs.map some ++ (some (.ref a) :: tv)) H) :
    RelO K S env σ (some (.dct true ks vs) :: tp) (some (.ref a) :: tv) (upd H a (.dK (ks.zip xs))) := by
  obtain ⟨F, mu, oS, oE, oT, h1, h2, h3, h4⟩ := h
  obtain ⟨p1, p2, eo, hi, h3'⟩ := RpO.split (by simpa using l) h3
  subst eo
  obtain ⟨xs', e, r⟩ := RpO.all hi
  have e' := all_map e
  subst e'
  have on := Rps.noown vs xs p1 hf r
  subst on
  obtain ⟨x, q1, q2, ev, eo, hc, h3''⟩ := h3'.cons_inv
  injection ev with ev
  subst ev; subst eo
  unfold Rp at hc
  obtain ⟨a', ys, o', e1, _, r0, q⟩ := hc
  injection e1 with e1
  subst e1
  have e2 : q1 = [a] := by
    unfold Rps at r0
    rcases q with ⟨_, _, e2⟩ | ⟨e1, _⟩
    · rw [e2, r0.2]
    · cases e1
  subst e2
  have ha : a ∈ oS ++ (oE ++ ([] ++ ([a] ++ q2))) := by simp
  have m : Mv F F mu mu H (upd H a (.dK (ks.zip xs))) (fun b => b = a) := mv_put h4 ha
  have na : ∀ b ∈ oS ++ (oE ++ q2), ¬ b = a := fun b hb e => by
    subst e
    have nd' : (b :: (oS ++ (oE ++ q2))).Nodup := ((perm3 oE [b] oS q2).nodup_iff).mp h4.nd
    exact (List.nodup_cons.mp nd').1 hb
  refine ⟨F, mu, oS, oE, [a] ++ q2, h1.mv m _ _ _ (fun b z => na b (by simp [z])), h2.mv m _ _ _ (fun b z => na b (by simp [z])), RpO.cons_mk ?_ (h3''.mv m _ _ _ (fun b z => na b (by simp [z]))), h4.put (u := .dK (ks.zip xs)) ha trivial⟩
  unfold Rp
  exact ⟨a, xs, [], rfl, lk, r.mv m _ _ _ (fun b z => nomatch z), .inl ⟨rfl, upd_same, rfl⟩⟩
end
def eDct : ME := fun _ S => .ok (.dct true [] []) S
theorem se_dct {X : Cx} {pos : Pos} : SE X (.Dict [] [] pos) eDct := by
  refine pe_imp pe_dnewK ?_
  rintro σ H Q ⟨env, S, tp, tv, h, q⟩
  exact fun p hp => q _ _ (RelO.mkDct h hp)
/-- the keys and values behind d[k] = v -/
def putD (ks : List Key) (vs : List D) (k : Key) (v : D) : List Key × List D :=
  if (ks.any fun k' => decide (k' = k)) = true then (ks, List.zipWith (fun k' u => if k' = k then v else u) ks vs) else (ks ++ [k], vs ++ [v])
def valD (ks : List Key) (vs : List D) (k : Key) : Option D := ((ks.zip vs).find? fun p => decide (p.1 = k)).map (·.2)
theorem any_zip {α : Type} (k : Key) : ∀ {ks : List Key} {xs : List α}, ks.length = xs.length → ((ks.zip xs).any fun kv => decide (kv.1 = k)) = ks.any fun k' => decide (k' = k)
  | [], _, _ => by simp
  | _ :: _, [], h => by simp at h
  | k' :: ks, x :: xs, h => by simp [any_zip k (ks := ks) (xs := xs) (by simpa using h)]
theorem map_zip {α : Type} (k : Key) (x : α) : ∀ {ks : List Key} {xs : List α}, ks.length = xs.length → (ks.zip xs).map (fun kv => if kv.1 = k then (kv.1, x) else kv) = ks.zip (List.zipWith (fun k' u => if k' = k then x else u) ks xs)
  | [], _, _ => by simp
  | _ :: _, [], h => by simp at h
  | k' :: ks, y :: xs, h => by
    rw [List.zip_cons_cons, List.map_cons, map_zip k x (by simpa using h), List.zipWith_cons_cons, List.zip_cons_cons]
    by_cases e : k' = k <;> simp [e]
theorem find_zip {K : PySem.W.Frag} {S : Sto} {env : Env} {σ : L2.St} {tp : Env} {tv : List (Option V)} {H : Hp} {k : Key} {d : D} : ∀ {ks : List Key} {vs : List D} {xs : List V}, vs.length = xs.length → (∀ (i : Nat) (c : D), vs[i]? = some c → ∃ x, xs[i]? = some x ∧ View K S env σ tp tv H c x) →
    valD ks vs k = some d → ∃ x, valV (ks.zip xs) k = some x ∧ View K S env σ tp tv H d x
  | [], _, _, _, _, e => by simp [valD] at e
  | _ :: _, [], _, _, _, e => by simp [valD] at e
  | k' :: ks, c :: vs, [], l, _, _ => by simp at l
  | k' :: ks, c :: vs, x :: xs, l, it, e => by
    unfold valD at e
    rw [List.zip_cons_cons, List.find?_cons] at e
    rw [List.zip_cons_cons]
    by_cases h : k' = k
    · simp [h] at e
      subst e
      obtain ⟨y, hy, w⟩ := it 0 c rfl
      have : x = y := by simpa using hy
      subst this
      exact ⟨x, valV_pos h, w⟩
    · simp [h] at e
      obtain ⟨y, hy, w⟩ := find_zip (ks := ks) (vs := vs) (xs := xs) (d := d) (by simpa using l) (fun i c ei => by
        obtain ⟨y, h1, h2⟩ := it (i + 1) c (by simpa using ei)
        exact ⟨y, by simpa using h1, h2⟩) (by unfold valD; simpa using e)
      exact ⟨y, by rw [valV_neg h]; exact hy, w⟩
theorem find_zip0 {k : Key} : ∀ {ks : List Key} {vs : List D} {xs : List V}, vs.length = xs.length → valD ks vs k = none → valV (ks.zip xs) k = none
  | [], _, _, _, _ => by simp [valV]
  | _ :: _, [], xs, l, _ => by
    have : xs = [] := List.length_eq_zero_iff.mp l.symm
    subst this
    simp [valV]
  | k' :: ks, c :: vs, [], l, _ => by simp at l
  | k' :: ks, c :: vs, x :: xs, l, e => by
    unfold valD at e
    rw [List.zip_cons_cons, List.find?_cons] at e
    rw [List.zip_cons_cons]
    by_cases h : k' = k
    · simp [h] at e
    · simp [h] at e
      rw [valV_neg h]
      exact find_zip0 (by simpa using l) (by unfold valD; simpa using e)
theorem View.dct {K : PySem.W.Frag} {S : Sto} {env : Env} {σ : L2.St} {tp : Env} {tv : List (Option V)} {H : Hp} {b : Bool} {ks : List Key} {vs : List D} {v : V} (h : View K S env σ tp tv H (.dct b ks vs) v) : ∃ a xs, v = .ref a ∧ Rd H a (.dK (ks.zip xs)) ∧ ks.length = vs.length ∧ vs.length = xs.length ∧ ∀ (i : Nat) (c : D), vs[i]? = some c → ∃ x, xs[i]? = some x ∧ View K S env σ tp tv H c x := by
  obtain ⟨F, mu, oS, oE, oT, o, w, r, s⟩ := h
  unfold Rp at r
  obtain ⟨a, xs, o', e1, lk, r, q⟩ := r
  have ho : ∀ z ∈ o', z ∈ oS ++ (oE ++ oT) := fun z hz => by
    rcases q with ⟨_, _, e2⟩ | ⟨_, _, _, _, e3⟩
    · exact s z (by rw [e2]; exact List.mem_cons_of_mem _ hz)
    · rw [e3] at hz; cases hz
  refine ⟨a, xs, e1, ?_, lk, r.len, fun i c ei => ?_⟩
  · rcases q with ⟨_, q, _⟩ | ⟨_, _, q, _⟩
    · exact .inl q
    · exact q
  · obtain ⟨x, q1, e2, r1, s1⟩ := r.at_ ei
    exact ⟨x, e2, F, mu, oS, oE, oT, q1, w, r1, fun z hz => ho z (s1 z hz)⟩
/-- d[k] -/
def bDGet (md mk : MB) : MB := fun env S => match md env S, mk env S with
  | some (.dct _ ks vs), some kd => match keyD kd with
    | some k => valD ks vs k
    | none => none
  | _, _ => none
/-- d.get(k, x) -/
def bDGet2 (md mk mx : MB) : MB := fun env S => match md env S, mk env S, mx env S with
  | some (.dct _ ks vs), some kd, some x => match keyD kd with
    | some k => match valD ks vs k with
      | some v => some v
      | none => some x
    | none => none
  | _, _, _ => none
/-- k in d -/
def bDIn (mk md : MB) : MB := fun env S => match md env S, mk env S with
  | some (.dct _ ks vs), some kd => match keyD kd with
    | some k => some (.bl (valD ks vs k).isSome)
    | none => none
  | _, _ => none
section
variable {X : Cx} {o i e f : Expr} {pos apos cpos : Pos} {md mk mx : MB}
theorem sb_dget (hu : X.A.units + 65 < cLine) (ho : SB X o md) (hi : SB X i mk) (hs : NoSl i := by intro _ _; rfl) : SB X (.Subscript o i pos) (bDGet md mk) := by
  refine pe_imp (pe_dget (by omega) ho hi hs) ?_
  rintro σ H Q ⟨env, S, tp, tv, c, r, e, q⟩
  unfold bDGet at e
  split at e
  · rename_i b ks vs kd z1 z2
    split at e
    · rename_i k hk
      refine ⟨env, S, tp, tv, _, r, z1, fun x w => ⟨env, S, tp, tv, _, r, z2, fun y wy => ?_⟩⟩
      obtain ⟨a, xs, ex, hd, lk, l, it⟩ := w.dct
      obtain ⟨v, hv, wv⟩ := find_zip l it e
      exact ⟨a, v, ex, .inl ⟨_, k, hd, wy.sc_inv (keyD_sc hk), hv.symm⟩, q v wv⟩
    · cases e
  · cases e
end
/-- d[k] = v -/
def sDPutM (i : Nat) (mk : MB) (me : ME) : MS := fun env S => (me env S).bind fun d S1 => match (env[i]?).join, mk env S1 with
  | some (.dct true ks vs), some kd => match keyD kd with
    | some k => if isFs vs = true ∧ d.isF = true ∧ ks.length < 16777216 then .ok (.nx (env.set i (some (.dct true (putD ks vs k d).1 (putD ks vs k d).2)))) S1 else .bad
    | none => .bad
  | _, _ => .bad
theorem zip_rel {K : PySem.W.Frag} {S : Sto} {env : Env} {σ : L2.St} {H : Hp} {k : Key} {d : D} {v : V} (hd : d.isF = true) : ∀ {ks : List Key} {vs : List D} {xs : List V} {tp : Env} {tv : List (Option V)}, ks.length = vs.length → vs.length = xs.length → Rel K S env σ (vs.map some ++ (some d :: tp)) (xs.map some ++ (some v :: tv)) H →
    Rel K S env σ ((List.zipWith (fun k' u => if k' = k then d else u) ks vs).map some ++ (some d :: tp)) ((List.zipWith (fun k' u => if k' = k then v else u) ks xs).map some ++ (some v :: tv)) H
  | [], [], [], _, _, _, _, r => r
  | [], _ :: _, _, _, _, l, _, _ => by simp at l
  | _ :: _, [], _, _, _, l, _, _ => by simp at l
  | _, [], _ :: _, _, _, _, l, _ => by simp at l
  | _, _ :: _, [], _, _, _, l, _ => by simp at l
  | k' :: ks, c :: vs, x :: xs, tp, tv, l1, l2, r => by
    have l1' : ks.length = vs.length := by simpa using l1
    have l2' : vs.length = xs.length := by simpa using l2
    have r1 : Rel K S env σ (vs.map some ++ (some d :: some c :: tp)) (xs.map some ++ (some v :: some x :: tv)) H := by
      have := RelO.swap (as := [some c]) (bs := vs.map some ++ [some d]) (tp := tp) (xs := [some x]) (ys := xs.map some ++ [some v]) (tv := tv) rfl (by simp [l2']) (by simpa using r)
      simpa using this
    have r2 := zip_rel (k := k) hd l1' l2' r1
    rw [List.zipWith_cons_cons, List.zipWith_cons_cons, List.map_cons, List.map_cons]
    have lz : (List.zipWith (fun k' u => if k' = k then d else u) ks vs).length = (List.zipWith (fun k' u => if k' = k then v else u) ks xs).length := by simp [l1', l2']
    by_cases e : k' = k
    · rw [if_pos e, if_pos e]
      obtain ⟨y, ey, w⟩ := View.tmp (k := (List.zipWith (fun k' u => if k' = k then d else u) ks vs).length) r2 (d := d) (by rw [List.getElem?_append_right (by simp)]; simp)
      have ev : y = v := by
        rw [List.getElem?_append_right (by simp [l1', l2'])] at ey
        simp [l1', l2'] at ey
        exact ey.symm
      subst ev
      have r3 := w.push hd
      have r4 := RelO.swap (as := some d :: ((List.zipWith (fun k' u => if k' = k then d else u) ks vs).map some ++ [some d])) (bs := [some c]) (tp := tp) (xs := some y :: ((List.zipWith (fun k' u => if k' = k then y else u) ks xs).map some ++ [some y])) (ys := [some x]) (tv := tv) (by simp [l1', l2']) rfl (by simpa using r3)
      have r5 := RelO.pop r4
      simpa using r5
    · rw [if_neg e, if_neg e]
      have r4 := RelO.swap (as := (List.zipWith (fun k' u => if k' = k then d else u) ks vs).map some ++ [some d]) (bs := [some c]) (tp := tp) (xs := (List.zipWith (fun k' u => if k' = k then v else u) ks xs).map some ++ [some v]) (ys := [some x]) (tv := tv) (by simp [l1', l2']) rfl (by simpa using r2)
      simpa using r4
theorem zip_isF {k : Key} {d : D} (hd : d.isF = true) : ∀ {ks : List Key} {vs : List D}, isFs vs = true → isFs (List.zipWith (fun k' u => if k' = k then d else u) ks vs) = true
  | [], _, _ => by simp [isFs]
  | _ :: _, [], _ => by simp [isFs]
  | k' :: ks, c :: vs, h => by
    unfold isFs at h
    rw [Bool.and_eq_true] at h
    rw [List.zipWith_cons_cons]
    unfold isFs
    rw [Bool.and_eq_true]
    refine ⟨?_, zip_isF hd h.2⟩
    split
    · exact hd
    · exact h.1
theorem isFs_append : ∀ {as bs : List D}, isFs as = true → isFs bs = true → isFs (as ++ bs) = true
  | [], _, _, h => h
  | a :: as, bs, h1, h2 => by
    unfold isFs at h1
    rw [Bool.and_eq_true] at h1
    rw [List.cons_append]
    unfold isFs
    rw [Bool.and_eq_true]
    exact ⟨h1.1, isFs_append h1.2 h2⟩
theorem s_dput {X : Cx} {o i value : Expr} {pos pos' : Pos} {j : Nat} {mk : MB} {me : ME} (hu : X.A.units + 65 < cLine) (ho : PE X o (tVar j)) (hi : SB X i mk) (hv : SE X value me) (hs : swapsWith value (some (.Subscript o i pos')) pos.line X.env = pure false := by rfl) :
    SS X (.Assign [.Subscript o i pos'] value pos) (sDPutM j mk me) := by
  refine ps_imp (ps_dput (by omega) ho hi hv hs) ?_
  rintro D0 σ H ⟨env, S, tp, tv, h, q⟩
  refine ⟨env, S, tp, tv, h, ?_⟩
  unfold sDPutM at q
  cases z1 : me env S with
  | bad => rw [z1] at q; exact q.elim
  | exn _ _ => rw [z1] at q; first | exact q | exact PostX.pop q | exact PostX.pop (PostX.pop q) | exact PostX.popA (by assumption) q | exact PostXS.toX q | exact PostX.pop (PostXS.toX q) | exact PostX.popA (by assumption) (PostXS.toX q) | exact PostXS.pop q | exact False.elim q
  | ok d S1 =>
    rw [z1] at q
    intro v H1 r1
    simp only [R.bind] at q
    split at q
    · rename_i ks vs kd hh z2
      have ei := join_some hh
      split at q
      · rename_i k hk
        split at q
        · rename_i hc
          obtain ⟨w, e1, r2⟩ := RelO.take r1 ei
          obtain ⟨a, xs, ew, ha, lk, l, r3⟩ := RelO.putDct (ks' := []) (vs' := []) r2 hc.1
          subst ew
          refine ⟨.ref a, e1, env, S1, some d :: tp, some v :: tv, kd, r1, z2, fun y wy => ?_⟩
          have hl : j < env.length := (List.getElem?_eq_some_iff.mp ei).1
          have lz : (ks.zip xs).length < sizeLine := by rw [List.length_zip, sizeLine_eq]; omega
          refine ⟨a, _, rfl, .inl ⟨ks.zip xs, k, ha, wy.sc_inv (keyD_sc hk), lz, rfl⟩, q σ _ ?_⟩
          have fin : ∀ {ks' : List Key} {vs' : List D} {xs' : List V}, putD ks vs k d = (ks', vs') → putK (ks.zip xs) k v = ks'.zip xs' → ks'.length = vs'.length → vs'.length = xs'.length → isFs vs' = true → Rel X.K S1 (env.set j none) σ (vs'.map some ++ (some (.dct true [] []) :: tp)) (xs'.map some ++ (some (.ref a) :: tv)) (upd H1 a (.dK [])) →
              Rel X.K S1 (env.set j (some (.dct true (putD ks vs k d).1 (putD ks vs k d).2))) σ tp tv (upd H1 a (.dK (putK (ks.zip xs) k v))) := fun {ks' vs' xs'} ep ek h1 h2 h3 r => by
            have r5 := RelO.closeDct h1 h2 h3 r
            rw [upd_upd] at r5
            rw [ep, ek]
            have r6 := RelO.set (i := j) (by rw [List.length_set]; exact hl) r5
            rw [List.set_set, set_same e1] at r6
            exact r6
          by_cases hm : (ks.any fun k' => decide (k' = k)) = true
          · refine fin (ks' := ks) (vs' := List.zipWith (fun k' u => if k' = k then d else u) ks vs) (xs' := List.zipWith (fun k' u => if k' = k then v else u) ks xs) (by unfold putD; rw [if_pos hm]) ?_ (by simp [lk]) (by simp [lk, l]) (zip_isF hc.2.1 hc.1) ?_
            · unfold putK
              rw [any_zip k (by omega), if_pos hm, map_zip k v (by omega)]
            · have r4 := RelO.swap (as := vs.map some ++ [some (.dct true [] [])]) (bs := [some d]) (tp := tp) (xs := xs.map some ++ [some (.ref a)]) (ys := [some v]) (tv := tv) (by simp [l]) rfl (by simpa using r3)
              have r4' := RelO.swap (as := [some d]) (bs := vs.map some) (tp := some (.dct true [] []) :: tp) (xs := [some v]) (ys := xs.map some) (tv := some (.ref a) :: tv) rfl (by simpa using l) (by simpa using r4)
              have r5 := zip_rel (k := k) hc.2.1 lk l r4'
              have r6 := RelO.swap (as := (List.zipWith (fun k' u => if k' = k then d else u) ks vs).map some) (bs := [some d]) (xs := (List.zipWith (fun k' u => if k' = k then v else u) ks xs).map some) (ys := [some v]) (by simp [lk, l]) rfl r5
              exact RelO.pop r6
          · refine fin (ks' := ks ++ [k]) (vs' := vs ++ [d]) (xs' := xs ++ [v]) (by unfold putD; rw [if_neg hm]) ?_ (by simp [lk]) (by simp [l]) (isFs_append hc.1 (by unfold isFs; rw [hc.2.1]; simp [isFs])) ?_
            · unfold putK
              rw [any_zip k (by omega), if_neg hm, List.zip_append (by omega)]
              rfl
            · have r4 := RelO.swap (as := vs.map some ++ [some (.dct true [] [])]) (bs := [some d]) (tp := tp) (xs := xs.map some ++ [some (.ref a)]) (ys := [some v]) (tv := tv) (by simp [l]) rfl (by simpa using r3)
              have r4' := RelO.swap (as := [some d]) (bs := vs.map some) (tp := some (.dct true [] []) :: tp) (xs := [some v]) (ys := xs.map some) (tv := some (.ref a) :: tv) rfl (by simpa using l) (by simpa using r4)
              simpa using r4'
        · exact q.elim
      · exact q.elim
    · exact q.elim
end N1
end
section
namespace N1
open PySem PySem.Spec PyProof.Rows L2
def scs : List D → Option (List V)
  | [] => some []
  | d :: ds => match d.sc, scs ds with
    | some v, some vs => some (v :: vs)
    | _, _ => none
def eCatS (ml : MB) (ma : MAB) : ME := fun env S => match ml env S, ma env S with
  | some a, some es => match N1.listOfD S a, scs es with
    | some ds, some _ => if isFs ds = true ∧ ds.length + es.length ≤ 16777216 then .ok (.lst true (ds ++ es)) S else .bad
    | _, _ => .bad
  | _, _ => .bad
theorem RelO.putSc {K : PySem.W.Frag} {S : List (Option D)} {env : Env} {σ : L2.St} {tp : Env} {tv : List (Option V)} {H : Hp} (h : RelO K S env σ tp tv H) : ∀ {es : List D} {vs : List V}, scs es = some vs → es.length = vs.length ∧ RelO K S env σ (es.map some ++ tp) (vs.map some ++ tv) H
  | [], vs, e => by cases e; exact ⟨rfl, h⟩
  | d :: es, vs, e => by
    unfold scs at e
    cases z1 : d.sc with
    | none => rw [z1] at e; cases e
    | some v =>
      cases z2 : scs es with
      | none => rw [z1, z2] at e; cases e
      | some ws =>
        rw [z1, z2] at e
        cases e
        obtain ⟨l, r⟩ := RelO.putSc h z2
        exact ⟨by simp [l], r.sc z1⟩
theorem scs_views {K : PySem.W.Frag} {S : Sto} {env : Env} {σ : L2.St} {tp : Env} {tv : List (Option V)} {H : Hp} : ∀ {es : List D} {vs xs : List V}, scs es = some vs → Views K S env σ tp tv H es xs → xs = vs
  | [], vs, xs, e, w => by
    cases e
    exact List.length_eq_zero_iff.mp w.1.symm
  | d :: es, vs, xs, e, w => by
    unfold scs at e
    cases z1 : d.sc with
    | none => rw [z1] at e; cases e
    | some v =>
      cases z2 : scs es with
      | none => rw [z1, z2] at e; cases e
      | some ws =>
        rw [z1, z2] at e
        cases e
        cases xs with
        | nil => have := w.1; simp at this
        | cons x xs =>
          obtain ⟨y, hy, wy⟩ := w.2 0 d rfl
          have : x = y := by simpa using hy
          subst this
          rw [wy.sc_inv z1, scs_views (xs := xs) z2 ⟨by have := w.1; simpa using this, fun i c ei => by
            obtain ⟨y, h1, h2⟩ := w.2 (i + 1) c (by simpa using ei)
            exact ⟨y, by simpa using h1, h2⟩⟩]
theorem se_catS {X : Cx} {a : Expr} {es : List Expr} {pos p2 : Pos} {ml : MB} {ma : MAB} (ha : SB X a ml) (hb : SAB X es ma) : SE X (.BinOp a .Add (.List es p2) pos) (eCatS ml ma) := by
  refine pe_imp (pe_op op_catX ha (pe_lst hb)) ?_
  rintro σ H Q ⟨env, S, tp, tv, r, q⟩
  unfold eCatS at q
  split at q
  · rename_i d es' z1 z2
    split at q
    · rename_i ds vs e1 e2
      split at q
      · rename_i hh
        refine ⟨env, S, tp, tv, d, r, z1, fun x w => ⟨env, S, tp, tv, es', r, z2, fun xs ws => ?_⟩⟩
        have ex := scs_views e2 ws
        subst ex
        obtain ⟨hi, hn⟩ := listOfD_items e1
        obtain ⟨p, ys, ex, _, hL, _, ly, r1⟩ := w.spread hi hh.1
        subst ex
        obtain ⟨l2, r2⟩ := RelO.putSc r1 e2
        refine ⟨by rw [← l2, sizeLine_eq]; omega, fun b hb => ⟨p, b, ys, xs, rfl, rfl, ?_, .inl (.inl upd_same), by rw [sizeLine_eq]; omega, fun c hcn => q _ _ ?_⟩⟩
        · rcases hL hn with (h | ⟨o, h⟩) | h
          · exact .inl (.inl (by rw [upd_ne (ne_of_none h hb)]; exact h))
          · exact .inl (.inr ⟨o, by rw [upd_ne (ne_of_none h hb)]; exact h⟩)
          · exact .inr h
        · obtain ⟨l3, r3⟩ := RelO.putSc r2 e2
          have r4 := RelO.pop (RelO.mkLst (p := b) l3 r3 hb)
          have r5 := RelO.swap (as := es'.map some) (bs := ds.map some) (xs := xs.map some) (ys := ys.map some) (by simpa using l2) (by simpa using ly) r4
          exact RelO.mkLst (by simp [ly, l2]) (by simpa [List.append_assoc] using r5) hcn
      · exact q.elim
    · exact q.elim
  · exact q.elim
end N1
end
section
namespace N1
open PySem PySem.Spec PyProof.Rows L2
structure Drew (S S' : Sto) (n : Nat) (c' : Int) : Prop where
  pot : PotAt S' n c'
  len : S'.length = S.length
  oth : ∀ m, m ≠ n → S'[m]? = S[m]?
theorem Drew.trans {S S1 S2 : Sto} {n : Nat} {a b : Int} (h : Drew S S1 n a) (k : Drew S1 S2 n b) : Drew S S2 n b := ⟨k.pot, k.len.trans h.len, fun m hm => (k.oth m hm).trans (h.oth m hm)⟩
theorem PotAt.more {S : Sto} {n : Nat} {a b : Int} (h : PotAt S n a) (k : a ≤ b) : PotAt S n b := by
  obtain ⟨g, p, c, h1, h2, h3, h4, h5, h6⟩ := h.ex
  exact ⟨g, p, c, h1, h2, h3, h4, h5, by omega⟩
theorem Drew.more {S S' : Sto} {n : Nat} {a b : Int} (h : Drew S S' n a) (k : a ≤ b) : Drew S S' n b := ⟨h.pot.more k, h.len, h.oth⟩
theorem draw {S : Sto} {n : Nat} {c k : Int} (P : PotAt S n c) (hc : c < 1152921504606846976) (hk : 0 < k) (hk2 : k < 1073741824) : ∃ d S', takeF [.ref n, .int k] S = .ok (.int d) S' ∧ 0 ≤ d ∧ d < k ∧ Drew S S' n (c + 1) := by
  obtain ⟨d, S', h1, h2, h3, h4, h5, h6⟩ := take_ok P hc hk hk2
  exact ⟨d, S', h1, h2, h3, h4, h5, h6⟩
def mixTest : MT := tE (eOpV fNe 2 (eFrz (eLst aNil)))
def mixStep : MS := sAppPop 3 2 (eCall 2 takeF (aCons (eB (bVar 0)) (aCons (eB (bFn fLen (abCons (bVar 2) abNil))) aNil)))
def b_mixed : MS := (sSeq (sPar 2 3 (aCons (eFnB fLst (abCons (bVar 1) abNil)) (aCons (eLst aNil) aNil)))
  (sSeq (loopW mixTest mixStep 1000)
  (sFreeze 3 (sRet (eB (bVar 3))))))
def mixedF : Fn := fnOf 4 b_mixed
theorem fNe_nil (S : Sto) (ns : List Int) (b : Bool) : fNe S (.lst b (ns.map D.int)) (.lst false []) = some (.bl (!ns.isEmpty)) := by
  unfold fNe eqD
  simp only [toPy, toPys, toPys_ints, shaped_ints]
  have : SeqAt.shaped (.list []) = true := shaped_ints []
  cases ns <;> simp [this, PyData.eqv, PyData.eqvAll, shaped_ints]
theorem mixTest_ok (S : Sto) (x y : Option D) (ns ms : List Int) : mixTest [x, y, some (.lst true (ns.map D.int)), some (.lst true (ms.map D.int))] S = .ok (!ns.isEmpty) S := by
  simp [mixTest, tE, eOpV, eFrz, eLst, aNil, D.frz, frzs, fNe_nil, isF_bl]
theorem eraseIdx_map {α β : Type} (f : α → β) : ∀ (l : List α) (i : Nat), (l.map f).eraseIdx i = (l.eraseIdx i).map f
  | [], _ => by simp
  | _ :: _, 0 => by simp
  | a :: l, i + 1 => by simp [eraseIdx_map f l i]
theorem mixStep_ok {S : Sto} {n : Nat} {c : Int} (y : Option D) (ns ms : List Int) (P : PotAt S n c) (hc : c < 1152921504606846976) (h0 : ns ≠ []) (hl : ns.length ≤ 1000) (hm : ms.length ≤ 1000) :
    ∃ k S', k < ns.length ∧ mixStep [some (.ref n), y, some (.lst true (ns.map D.int)), some (.lst true (ms.map D.int))] S = .ok (.nx [some (.ref n), y, some (.lst true ((ns.eraseIdx k).map D.int)), some (.lst true ((ms ++ [ns.getD k 0]).map D.int))]) S' ∧ Drew S S' n (c + 1) := by
  have hp : 0 < ns.length := List.length_pos_iff.mpr h0
  obtain ⟨d, S', t, d0, d1, W⟩ := draw P hc (k := ns.length) (by omega) (by omega)
  have hk : d.toNat < ns.length := by omega
  refine ⟨d.toNat, S', hk, ?_, W⟩
  have hix : ixN ns.length d = some d.toNat := by unfold ixN; rw [if_pos d0, if_pos d1]
  have hg : (ns.map D.int)[d.toNat]? = some (.int (ns.getD d.toNat 0)) := by
    rw [List.getElem?_map, List.getElem?_eq_getElem hk, List.getD_eq_getElem?_getD, List.getElem?_eq_getElem hk]
    rfl
  have hz1 : ms.length < 16777216 := by omega
  have hz2 : ns.length ≤ 16777216 := by omega
  simp [mixStep, sAppPop, eCall, aCons, aNil, eB, bVar, bFn, fLen, abCons, abNil, lenD, itemsOf, D.isF, frzs, D.frz, t, hix, hg, hz1, hz2, eraseIdx_map]
theorem erase_perm : ∀ (ns : List Int) (k : Nat), k < ns.length → (ns.getD k 0 :: ns.eraseIdx k).Perm ns
  | [], _, h => by simp at h
  | n :: ns, 0, _ => by simp
  | n :: ns, k + 1, h => by
    have ih := erase_perm ns k (by simpa using h)
    simp only [List.getD_cons_succ, List.eraseIdx_cons_succ]
    exact (List.Perm.swap n (ns.getD k 0) (ns.eraseIdx k)).trans (ih.cons n)
theorem mixLoop : ∀ (f : Nat) {S : Sto} {n : Nat} {c : Int} (y : Option D) (ns ms : List Int), PotAt S n c → c + ns.length < 1152921504606846976 → ns.length < f → ns.length ≤ 500 → ms.length + ns.length ≤ 1000 →
    ∃ (qs : List Int) (S' : Sto), loopW mixTest mixStep f [some (.ref n), y, some (.lst true (ns.map D.int)), some (.lst true (ms.map D.int))] S = .ok (.nx [some (.ref n), y, some (.lst true []), some (.lst true (qs.map D.int))]) S' ∧ qs.Perm (ms ++ ns) ∧ Drew S S' n (c + ns.length)
  | 0, _, _, _, _, _, _, _, _, h, _, _ => absurd h (Nat.not_lt_zero _)
  | f + 1, S, n, c, y, [], ms, P, _, _, _, _ => by
    refine ⟨ms, S, ?_, by simp, ⟨by simpa using P, rfl, fun _ _ => rfl⟩⟩
    unfold loopW
    have := mixTest_ok S (some (.ref n)) y [] ms
    simp only [List.map_nil] at this ⊢
    simp [this]
  | f + 1, S, n, c, y, a :: ns, ms, P, hc, hf, hl, hm => by
    rw [List.length_cons] at hc hf hl hm
    obtain ⟨k, S1, hk, hs, W⟩ := mixStep_ok y (a :: ns) ms P (by omega) (by simp) (by simp; omega) (by omega)
    have he : ((a :: ns).eraseIdx k).length = ns.length := by
      rw [List.length_eraseIdx, if_pos hk, List.length_cons]
      omega
    obtain ⟨qs, S2, h2, hp, W2⟩ := mixLoop f y ((a :: ns).eraseIdx k) (ms ++ [(a :: ns).getD k 0]) W.pot (by rw [he]; omega) (by rw [he]; omega) (by rw [he]; omega) (by rw [he, List.length_append]; simp; omega)
    refine ⟨qs, S2, ?_, ?_, ?_⟩
    · unfold loopW
      have ht := mixTest_ok S (some (.ref n)) y (a :: ns) ms
      simp only [ht, R.bind, R.bindN, List.isEmpty_cons, Bool.not_false, if_true, hs, h2]
    · refine hp.trans ?_
      rw [List.append_assoc]
      exact List.Perm.append_left ms (erase_perm (a :: ns) k hk)
    · have := W.trans W2
      rw [he] at this
      exact this.more (by rw [List.length_cons]; omega)
theorem mixed_ok {S : Sto} {n : Nat} {c : Int} {b : Bool} (ns : List Int) (P : PotAt S n c) (hc : c + ns.length < 1152921504606846976) (hl : ns.length ≤ 500) :
    ∃ (qs : List Int) (S' : Sto), mixedF [.ref n, .lst b (ns.map D.int)] S = .ok (.lst false (qs.map D.int)) S' ∧ qs.Perm ns ∧ Drew S S' n (c + ns.length) := by
  obtain ⟨qs, S', h, hp, W⟩ := mixLoop 1000 (some (.lst b (ns.map D.int))) ns [] P hc (by omega) hl (by simp; omega)
  refine ⟨qs, S', ?_, by simpa using hp, W⟩
  have fz : ∀ r : List Int, frzs (r.map D.int) = r.map D.int := fun r => by
    induction r with
    | nil => rfl
    | cons n r ih => rw [List.map_cons]; unfold frzs D.frz; rw [ih]
  simp only [List.map_nil] at h
  simp [mixedF, fnOf, b_mixed, sSeq, sPar, aCons, aNil, eFnB, fLst, abCons, abNil, bVar, itemsOf, isFs_ints, eLst, h, sFreeze, D.frz, fz, sRet, eB, D.isF]
end N1
end
section
namespace N1
open PySem PySem.Spec PyProof.Rows L2
theorem frzs_ints : ∀ r : List Int, frzs (r.map D.int) = r.map D.int
  | [] => rfl
  | n :: r => by rw [List.map_cons]; unfold frzs D.frz; rw [frzs_ints r]
theorem isF_lst (r : List Int) : (D.lst false (r.map D.int)).isF = true := by unfold D.isF; rw [isFs_ints]; rfl
theorem fEq_ints (S : Sto) (a b : Int) : fEq S (.int a) (.int b) = some (.bl (a == b)) := by
  unfold fEq eqD
  simp only [toPy, shaped_int, and_self, if_true, PyData.eqv, Option.map_some]
def someT : MT := tE (eOp fEq (eCall 2 takeF (aCons (eB (bVar 0)) (aCons (eB (bVar 2)) aNil))) (eB (bC (.int 0))))
def b_some : MS := (sRet (eFn fTup (aCons (eFrz (eLc [3] (iSeqM (eB (bVar 1))) (gVar 3) someT (eB (bVar 3)))) aNil)))
def someF : Fn := fnOf 4 b_some
theorem someT_ok {S : Sto} {n : Nat} {c k : Int} (x y : Option D) (P : PotAt S n c) (hc : c < 1152921504606846976) (hk : 0 < k) (hk2 : k < 1073741824) : ∃ b S', someT [some (.ref n), x, some (.int k), y] S = .ok b S' ∧ Drew S S' n (c + 1) := by
  obtain ⟨d, S', t, d0, d1, W⟩ := draw P hc hk hk2
  exact ⟨d == 0, S', by simp [someT, tE, eOp, eCall, aCons, aNil, eB, bVar, bC, D.isF, frzs, D.frz, t, fEq_ints], W⟩
theorem someLoop : ∀ (ns : List Int) {S : Sto} {n : Nat} {c k : Int} (x : Option D), PotAt S n c → c + ns.length < 1152921504606846976 → 0 < k → k < 1073741824 →
    ∃ (qs : List Int) (S' : Sto), loopC (gVar 3) someT (eB (bVar 3)) [some (.ref n), x, some (.int k), none] (ns.map D.int) S = .ok (qs.map D.int) S' ∧ qs.Sublist ns ∧ Drew S S' n (c + ns.length)
  | [], S, n, c, k, x, P, _, _, _ => ⟨[], S, rfl, .slnil, ⟨by simpa using P, rfl, fun _ _ => rfl⟩⟩
  | a :: ns, S, n, c, k, x, P, hc, hk, hk2 => by
    rw [List.length_cons] at hc
    obtain ⟨b, S1, ht, W⟩ := someT_ok x (some (.int a)) P (by omega) hk hk2
    obtain ⟨qs, S2, h2, hs, W2⟩ := someLoop ns x W.pot (by omega) hk hk2
    have W3 : Drew S S2 n (c + (a :: ns).length) := (W.trans W2).more (by rw [List.length_cons]; omega)
    have hg : gVar 3 (.int a) [some (.ref n), x, some (.int k), none] = some [some (.ref n), x, some (.int k), some (.int a)] := rfl
    have he : (eB (bVar 3)) [some (.ref n), x, some (.int k), some (.int a)] S1 = .ok (.int a) S1 := rfl
    cases b with
    | true =>
      refine ⟨a :: qs, S2, ?_, hs.cons₂ a, W3⟩
      rw [List.map_cons, List.map_cons]
      unfold loopC
      simp only [hg, ht, R.bind, R.bindN, if_true, he, h2]
    | false =>
      refine ⟨qs, S2, ?_, hs.cons a, W3⟩
      rw [List.map_cons]
      unfold loopC
      simp only [hg, ht, R.bind, R.bindN, Bool.false_eq_true, if_false, h2]
theorem some_ok {S : Sto} {n : Nat} {c k : Int} (ns : List Int) (P : PotAt S n c) (hc : c + ns.length < 1152921504606846976) (hl : ns.length ≤ 16777216) (hk : 0 < k) (hk2 : k < 1073741824) :
    ∃ (qs : List Int) (S' : Sto), someF [.ref n, .lst false (ns.map D.int), .int k] S = .ok (rowD qs) S' ∧ qs.Sublist ns ∧ Drew S S' n (c + ns.length) := by
  obtain ⟨qs, S', h, hs, W⟩ := someLoop ns (some (.lst false (ns.map D.int))) P hc hk hk2
  refine ⟨qs, S', ?_, hs, W⟩
  have hi : iSeqM (eB (bVar 1)) [some (.ref n), some (.lst false (ns.map D.int)), some (.int k), none] S = .ok (ns.map D.int) S := by
    simp [iSeqM, eB, bVar, isF_lst, seqOf, isFs_ints]
  have hf : freeAt [3] [some (.ref n), some (.lst false (ns.map D.int)), some (.int k), none] = true := rfl
  simp [someF, fnOf, b_some, sRet, eFn, aCons, aNil, eFrz, eLc, hf, hi, hl, h, D.frz, frzs_ints, fTup, itemsOf, isFs_ints]
def b_pick : MS := (sRet (eOp ixD (eB (bVar 1)) (eCall 2 takeF (aCons (eB (bVar 0)) (aCons (eB (bFn fLen (abCons (bVar 1) abNil))) aNil)))))
def pickF : Fn := fnOf 2 b_pick
theorem pick_ok {S : Sto} {n : Nat} {c : Int} (ns : List Int) (P : PotAt S n c) (hc : c < 1152921504606846976) (h0 : ns ≠ []) (hl : ns.length ≤ 1000) :
    ∃ (x : Int) (S' : Sto), pickF [.ref n, .lst false (ns.map D.int)] S = .ok (.int x) S' ∧ x ∈ ns ∧ Drew S S' n (c + 1) := by
  have hp : 0 < ns.length := List.length_pos_iff.mpr h0
  obtain ⟨d, S', t, d0, d1, W⟩ := draw P hc (k := ns.length) (by omega) (by omega)
  have hk : d.toNat < ns.length := by omega
  have hx : atI (ns.map D.int) d = some (.int ns[d.toNat]) := by
    rw [atI_rows d0, List.getElem?_eq_getElem hk]
    rfl
  refine ⟨ns[d.toNat], S', ?_, List.getElem_mem hk, W⟩
  have hr : (D.ref n).isF = true := rfl
  simp [pickF, fnOf, b_pick, sRet, eOp, eB, bVar, hr, isF_lst, eCall, aCons, aNil, bFn, fLen, abCons, abNil, lenD, itemsOf, isF_int, frzs, D.frz, t, ixD, hx]
structure IsTab (t : List (List Int)) : Prop where
  pos : 0 < t.length
  le : t.length ≤ 16
  row : ∀ r ∈ t, r.Pairwise (· < ·) ∧ ∀ x ∈ r, 0 ≤ x ∧ x < t.length
def b_named : MS := (sSeq (sSet 1 (eLst aNil))
  (sSeq (sFor (iArgs rngOf1 (aCons (eB (bVar 0)) aNil)) (gVar 2) (sMut 1 wExt (aCons (eLc [3] (iArgs rngOf1 (aCons (eB (bVar 0)) aNil)) (gVar 3) tYesM (eTup (aCons (eB (bVar 2)) (aCons (eB (bVar 3)) aNil)))) aNil)))
  (sFreeze 1 (sForget 2 (sRet (eFn fTup (aCons (eFrz (eLc [2, 3] (iSeqM (eB (bVar 1))) (gTupM 2 (gsCons (gVar 2) (gsCons (gVar 3) gsNil))) tYesM (eFn fTup (aCons (eFrz (eLc [4, 5] (iArgs enumOf (aCons (eB (bVar 1)) aNil)) (gTupM 2 (gsCons (gVar 4) (gsCons (gVar 5) gsNil))) (tE (eB (bOp fEq (bOp ixD (bVar 5) (bC (.int 0))) (bVar 3)))) (eB (bVar 4)))) aNil)))) aNil)))))))
def namedF : Fn := fnOf 6 b_named
def nmd (w : Nat) : List (List Int) := (List.range (w * w)).map fun m => (List.range w).map fun j => ((m % w * w + j : Nat) : Int)
theorem nmd1 (S : Sto) : namedF [.int 1] S = .ok (tabD (nmd 1)) S := by kernel_rfl
theorem nmd2 (S : Sto) : namedF [.int 2] S = .ok (tabD (nmd 2)) S := by kernel_rfl
theorem nmd3 (S : Sto) : namedF [.int 3] S = .ok (tabD (nmd 3)) S := by kernel_rfl
theorem nmd4 (S : Sto) : namedF [.int 4] S = .ok (tabD (nmd 4)) S := by kernel_rfl
def okTab (t : List (List Int)) : Bool := decide (0 < t.length) && decide (t.length ≤ 16) && t.all fun r => decide (r.Pairwise (· < ·)) && r.all fun x => decide (0 ≤ x) && decide (x < t.length)
theorem okTab_is {t : List (List Int)} (h : okTab t = true) : IsTab t := by
  unfold okTab at h
  simp only [Bool.and_eq_true, decide_eq_true_eq, List.all_eq_true] at h
  exact ⟨h.1.1, h.1.2, fun r hr => ⟨(h.2 r hr).1, fun x hx => (h.2 r hr).2 x hx⟩⟩
end N1
end
section
namespace N1
open PySem PySem.Spec PyProof.Rows L2
theorem loopC_pure {g : MG} {mt : MT} {me : ME} {env : Env} {S : Sto} {h : D → D} {p : D → Bool} {up : D → Env} : ∀ (items : List D), (∀ d ∈ items, g d env = some (up d)) → (∀ d ∈ items, mt (up d) S = .ok (p d) S) → (∀ d ∈ items, p d = true → me (up d) S = .ok (h d) S) →
    loopC g mt me env items S = .ok ((items.filter p).map h) S
  | [], _, _, _ => rfl
  | d :: ds, hg, ht, he => by
    have ih := loopC_pure ds (fun x hx => hg x (List.mem_cons_of_mem _ hx)) (fun x hx => ht x (List.mem_cons_of_mem _ hx)) (fun x hx => he x (List.mem_cons_of_mem _ hx))
    unfold loopC
    have h1 := hg d List.mem_cons_self
    have h2 := ht d List.mem_cons_self
    cases hp : p d with
    | true =>
      have h3 := he d List.mem_cons_self hp
      simp only [h1, h2, R.bind, R.bindN, hp, if_true, h3, ih, List.filter_cons, List.map_cons]
    | false =>
      simp only [h1, h2, R.bind, R.bindN, hp, Bool.false_eq_true, if_false, ih, List.filter_cons]
theorem filter_true {α : Type} (l : List α) : l.filter (fun _ => true) = l := by
  induction l with
  | nil => rfl
  | cons a l ih => simp [List.filter_cons, ih]
theorem eLc_pure {vs : List Nat} {mi : MI} {g : MG} {mt : MT} {me : ME} {env : Env} {S : Sto} {items : List D} {h : D → D} {p : D → Bool} {up : D → Env} (hf : freeAt vs env = true) (hi : mi env S = .ok items S) (hz : items.length ≤ 16777216) (hg : ∀ d ∈ items, g d env = some (up d)) (ht : ∀ d ∈ items, mt (up d) S = .ok (p d) S)
    (he : ∀ d ∈ items, p d = true → me (up d) S = .ok (h d) S) : eLc vs mi g mt me env S = .ok (.lst true ((items.filter p).map h)) S := by
  unfold eLc
  rw [if_pos hf, hi]
  simp only [R.bind, R.bindN, hz, if_true, loopC_pure items hg ht he]
/-- tuple(sorted([led[x] for x in row])): the row's image -/
def img (led : List Int) (x : Int) : Int := led.getD x.toNat 0
def rowImg (led : List Int) (r : List Int) : List Int := sortI (r.map (img led))
/-- a list or a tuple that holds these numbers -/
def Holds (ld : D) (led : List Int) : Prop := ld.isF = true ∧ ∀ (S : Sto) (i : Int), 0 ≤ i → i < led.length → ixD S ld (.int i) = some (.int (img led i))
theorem holds_lst (led : List Int) : Holds (.lst false (led.map D.int)) led := by
  refine ⟨isF_lst led, fun S i h0 h1 => ?_⟩
  have hk : i.toNat < led.length := by omega
  show atI (led.map D.int) i = _
  rw [atI_rows h0, List.getElem?_eq_getElem hk]
  unfold img
  rw [List.getD_eq_getElem?_getD, List.getElem?_eq_getElem hk]
  rfl
theorem isF_row (led : List Int) : (rowD led).isF = true := by unfold D.isF; exact isFs_ints led
def imgE : ME := eFn fTup (aCons (eFrz (eFn fSort (aCons (eFrz (eLc [5] (iSeqM (eB (bVar 4))) (gVar 5) tYesM (eB (bOp ixD (bVar 1) (bVar 5))))) aNil))) aNil)
theorem imgE_ok {x0 x2 x3 : Option D} {ld : D} {led r : List Int} (S : Sto) (hl : Holds ld led) (hr : ∀ x ∈ r, 0 ≤ x ∧ x < led.length) (hz : r.length ≤ 16777216) :
    imgE [x0, some ld, x2, x3, some (rowD r), none] S = .ok (rowD (rowImg led r)) S := by
  have hi : iSeqM (eB (bVar 4)) [x0, some ld, x2, x3, some (rowD r), none] S = .ok (r.map D.int) S := by
    simp [iSeqM, eB, bVar, isF_row, seqOf, isFs_ints]
  have h1 := eLc_pure (vs := [5]) (mi := iSeqM (eB (bVar 4))) (g := gVar 5) (mt := tYesM) (me := eB (bOp ixD (bVar 1) (bVar 5))) (env := [x0, some ld, x2, x3, some (rowD r), none]) (S := S) (items := r.map D.int)
    (h := fun d => match d with
      | .int x => .int (img led x)
      | d => d) (p := fun _ => true) (up := fun d => [x0, some ld, x2, x3, some (rowD r), some d]) rfl hi (by simpa using hz) (fun d _ => rfl) (fun d _ => rfl) (fun d hd _ => by
      obtain ⟨x, hx, e⟩ := List.mem_map.mp hd
      subst e
      obtain ⟨a, b⟩ := hr x hx
      simp [eB, bOp, bVar, hl.2 S x a b, isF_int])
  rw [filter_true] at h1
  have e2 : (r.map D.int).map (fun d => match d with
      | .int x => D.int (img led x)
      | d => d) = (r.map (img led)).map D.int := by
    rw [List.map_map, List.map_map]
    rfl
  rw [e2] at h1
  simp only [imgE, eFn, aCons, eFrz, h1, R.bind, R.bindN, aNil, D.frz, frzs_ints, fSort, N1.listOfD, itemsOf, intsOf_map, Option.map_some, fTup, isFs_ints, if_true]
  rfl
end N1
end
section
namespace N1
open PySem PySem.Spec PyProof.Rows L2
def enumR {α : Type} (f : α → D) : Nat → List α → List D
  | _, [] => []
  | k, a :: as => .tup [.int (k : Nat), f a] :: enumR f (k + 1) as
theorem enumD_zip {α : Type} (f : α → D) : ∀ (as : List α) (k : Nat), ((as.map f).zipIdx k).map (fun p : D × Nat => D.tup [.int (p.2 : Nat), p.1]) = enumR f k as
  | [], _ => rfl
  | a :: as, k => by
    rw [List.map_cons, List.zipIdx_cons, List.map_cons, enumD_zip f as (k + 1)]
    rfl
theorem enumD_eq {α : Type} (f : α → D) (as : List α) : enumD (as.map f) = enumR f 0 as := enumD_zip f as 0
def soStep : MS := sDPutM 2 (bOp ixD (bVar 1) (bVar 3)) imgE
def soTg : MG := gTupM 2 (gsCons (gVar 3) (gsCons (gVar 4) gsNil))
def rowsD (led : List Int) (rs : List (List Int)) : List D := rs.map fun r => rowD (rowImg led r)
theorem isFs_rowsD (led : List Int) : ∀ rs : List (List Int), isFs (rowsD led rs) = true
  | [] => by simp [rowsD, isFs]
  | r :: rs => by
    have := isFs_rowsD led rs
    unfold rowsD at this ⊢
    rw [List.map_cons]
    unfold isFs
    rw [isF_row, this]
    rfl
theorem putD_new {ks : List Key} {vs : List D} {k : Key} {d : D} (h : k ∉ ks) : putD ks vs k d = (ks ++ [k], vs ++ [d]) := by
  unfold putD
  rw [if_neg]
  intro e
  obtain ⟨x, hx, e2⟩ := List.any_eq_true.mp e
  rw [of_decide_eq_true e2] at hx
  exact h hx
theorem soLoop {ld : D} {led : List Int} {x0 : Option D} (hl : Holds ld led) (nd : led.Nodup) (hz : led.length ≤ 1000) (S : Sto) : ∀ (rs done : List (List Int)) (k : Nat) (x3 x4 : Option D), done.length = k → k + rs.length = led.length → (∀ r ∈ rs, (∀ x ∈ r, 0 ≤ x ∧ x < led.length) ∧ r.length ≤ 1000) →
    ∃ y3 y4, loopF soTg soStep (enumR rowD k rs) [x0, some ld, some (.dct true ((led.take k).map Sum.inl) (rowsD led done)), x3, x4, none] S = .ok (.nx [x0, some ld, some (.dct true (led.map Sum.inl) (rowsD led (done ++ rs))), y3, y4, none]) S
  | [], done, k, x3, x4, hd, hk, _ => by
    refine ⟨x3, x4, ?_⟩
    have : led.take k = led := List.take_of_length_le (by simp at hk; omega)
    rw [this, List.append_nil]
    rfl
  | r :: rs, done, k, x3, x4, hd, hk, hr => by
    rw [List.length_cons] at hk
    have hkl : k < led.length := by omega
    obtain ⟨h1, h2⟩ := hr r List.mem_cons_self
    obtain ⟨y3, y4, ih⟩ := soLoop (x0 := x0) hl nd hz S rs (done ++ [r]) (k + 1) (some (.int (k : Nat))) (some (rowD r)) (by simp [hd]) (by omega) fun q hq => hr q (List.mem_cons_of_mem _ hq)
    refine ⟨y3, y4, ?_⟩
    have hg : soTg (.tup [.int (k : Nat), rowD r]) [x0, some ld, some (.dct true ((led.take k).map Sum.inl) (rowsD led done)), x3, x4, none] = some [x0, some ld, some (.dct true ((led.take k).map Sum.inl) (rowsD led done)), some (.int (k : Nat)), some (rowD r), none] := rfl
    have hi := imgE_ok (x0 := x0) (x2 := some (.dct true ((led.take k).map Sum.inl) (rowsD led done))) (x3 := some (.int (k : Nat))) S hl h1 (by omega)
    have hx := hl.2 S (k : Int) (by omega) (by omega)
    have hkey : img led (k : Int) = led[k] := by
      unfold img
      rw [Int.toNat_natCast, List.getD_eq_getElem?_getD, List.getElem?_eq_getElem hkl]
      rfl
    have hnot : (Sum.inl led[k] : Key) ∉ (led.take k).map Sum.inl := by
      intro hm
      obtain ⟨z, hz', e⟩ := List.mem_map.mp hm
      injection e with e
      subst e
      obtain ⟨j, hj, e⟩ := List.getElem_of_mem hz'
      rw [List.getElem_take] at e
      have hjk : j < k := by rw [List.length_take] at hj; omega
      exact absurd e (List.pairwise_iff_getElem.mp nd j k (by omega) hkl hjk)
    have hs : soStep [x0, some ld, some (.dct true ((led.take k).map Sum.inl) (rowsD led done)), some (.int (k : Nat)), some (rowD r), none] S =
        .ok (.nx [x0, some ld, some (.dct true ((led.take (k + 1)).map Sum.inl) (rowsD led (done ++ [r]))), some (.int (k : Nat)), some (rowD r), none]) S := by
      have hlen : ((led.take k).map (Sum.inl : Int → Key)).length < 16777216 := by rw [List.length_map, List.length_take]; omega
      have e1 : (led.take (k + 1)).map (Sum.inl : Int → Key) = (led.take k).map Sum.inl ++ [Sum.inl led[k]] := by
        rw [List.take_succ, List.getElem?_eq_getElem hkl, List.map_append]
        rfl
      have e2 : rowsD led (done ++ [r]) = rowsD led done ++ [rowD (rowImg led r)] := by unfold rowsD; rw [List.map_append]; rfl
      have hb : bOp ixD (bVar 1) (bVar 3) [x0, some ld, some (.dct true ((led.take k).map Sum.inl) (rowsD led done)), some (.int (k : Nat)), some (rowD r), none] S = some (.int led[k]) := by
        simp only [bOp, bVar, List.getElem?_cons_succ, List.getElem?_cons_zero, Option.join, Option.bind, id, hx, hkey]
      unfold soStep sDPutM
      simp only [hi, R.bind, R.bindN, hb, keyD, List.getElem?_cons_succ, List.getElem?_cons_zero, Option.join, Option.bind, id, isFs_rowsD, isF_row, hlen, and_self, if_true, putD_new hnot, e1, e2]
      rfl
    unfold enumR loopF
    simp only [hg, hs, R.bind, R.bindN]
    rw [List.append_assoc] at ih
    exact ih
theorem valD_at (led : List Int) (nd : led.Nodup) : ∀ (vs : List D) (j : Nat) (d : D), led.length = vs.length → vs[j]? = some d → ∀ s, led[j]? = some s → valD (led.map Sum.inl) vs (.inl s) = some d := by
  induction led with
  | nil => intro vs j d _ _ s h; simp at h
  | cons a led ih =>
    intro vs j d hl hv s hs
    cases vs with
    | nil => simp at hl
    | cons c vs =>
      rw [List.nodup_cons] at nd
      unfold valD
      rw [List.map_cons, List.zip_cons_cons, List.find?_cons]
      cases j with
      | zero =>
        have e1 : a = s := by simpa using hs
        have e2 : c = d := by simpa using hv
        subst e1; subst e2
        simp
      | succ j =>
        have hs' : led[j]? = some s := by simpa using hs
        have hne : ¬ ((Sum.inl a : Key) = Sum.inl s) := fun e => by
          injection e with e
          subst e
          exact nd.1 (List.mem_of_getElem? hs')
        simp only [hne, decide_false]
        have := ih nd.2 vs j d (by simpa using hl) (by simpa using hv) s hs'
        unfold valD at this
        exact this
/-- the sign s stands at this place of led -/
def place (led : List Int) (s : Nat) : Nat := led.idxOf (s : Int)
/-- the table called so -/
def calledI (led : List Int) (t : List (List Int)) : List (List Int) := (List.range t.length).map fun s => rowImg led (t.getD (place led s) [])
def b_calledso : MS := (sSeq (sSet 2 eDct)
  (sSeq (sFor (iArgs enumOf (aCons (eB (bVar 0)) aNil)) soTg soStep)
  (sFreeze 2 (sForget 3 (sRet (eFn fTup (aCons (eFrz (eLc [3] (iArgs rngOf1 (aCons (eB (bFn fLen (abCons (bVar 0) abNil))) aNil)) (gVar 3) tYesM (eB (bDGet (bVar 2) (bVar 3))))) aNil)))))))
def calledsoF : Fn := fnOf 6 b_calledso
end N1
end
section
namespace N1
open PySem PySem.Spec PyProof.Rows L2
theorem frzs_rowsD (led : List Int) : ∀ rs : List (List Int), frzs (rowsD led rs) = rowsD led rs
  | [] => rfl
  | r :: rs => by
    have := frzs_rowsD led rs
    unfold rowsD at this ⊢
    rw [List.map_cons]
    unfold frzs D.frz
    rw [this, frzs_ints]
theorem frzs_tab : ∀ t : List (List Int), frzs (t.map rowD) = t.map rowD
  | [] => rfl
  | r :: t => by rw [List.map_cons]; unfold frzs D.frz; rw [frzs_ints r, frzs_tab t]
theorem isF_tabD (t : List (List Int)) : (tabD t).isF = true := by unfold D.isF; exact isFs_rows t
theorem iArgs_one' {f : List D → Option (List D)} {me : ME} {env : Env} {S S1 : Sto} {d : D} {items : List D} (h : me env S = .ok d S1) (hf : f [d] = some items) : iArgs f (aCons me aNil) env S = .ok items S1 := by
  simp [iArgs, aCons, aNil, h, hf]
theorem iEnum_tab {env : Env} {t : List (List Int)} (S : Sto) (h : bVar 0 env S = some (tabD t)) : iArgs enumOf (aCons (eB (bVar 0)) aNil) env S = .ok (enumR rowD 0 t) S := by
  have e : eB (bVar 0) env S = .ok (tabD t) S := by unfold eB; rw [h]; simp only [isF_tabD, if_true]
  refine iArgs_one' e ?_
  show (if isFs (t.map rowD) = true then some (enumD (t.map rowD)) else none) = _
  rw [if_pos (isFs_rows t), enumD_eq]
theorem soRead {x0 x1 y4 : Option D} {led : List Int} {t : List (List Int)} (S : Sto) (nd : led.Nodup) (hlen : led.length = t.length) (hall : ∀ s : Nat, s < t.length → (s : Int) ∈ led) (ht : t.length ≤ 1000)
    {mi : MI} (hi : mi [x0, x1, some (.dct false (led.map Sum.inl) (rowsD led t)), none, y4, none] S = .ok ((List.range t.length).map fun i => .int ((0 : Int) + (i : Nat))) S) :
    eLc [3] mi (gVar 3) tYesM (eB (bDGet (bVar 2) (bVar 3))) [x0, x1, some (.dct false (led.map Sum.inl) (rowsD led t)), none, y4, none] S = .ok (.lst true ((calledI led t).map rowD)) S := by
  have h1 := eLc_pure (vs := [3]) (mi := mi) (g := gVar 3) (mt := tYesM) (me := eB (bDGet (bVar 2) (bVar 3))) (env := [x0, x1, some (.dct false (led.map Sum.inl) (rowsD led t)), none, y4, none]) (S := S)
    (items := (List.range t.length).map fun i => .int ((0 : Int) + (i : Nat)))
    (h := fun d => match d with
      | .int x => rowD (rowImg led (t.getD (place led x.toNat) []))
      | d => d) (p := fun _ => true) (up := fun d => [x0, x1, some (.dct false (led.map Sum.inl) (rowsD led t)), some d, y4, none]) rfl hi (by simp; omega) (fun d _ => rfl) (fun d _ => rfl) (fun d hd _ => by
      obtain ⟨s, hs, e⟩ := List.mem_map.mp hd
      subst e
      have hs' := List.mem_range.mp hs
      have hm := hall s hs'
      have hj : place led s < led.length := List.idxOf_lt_length_of_mem hm
      have hg : led[place led s]? = some (s : Int) := by
        rw [List.getElem?_eq_getElem hj]
        congr 1
        exact List.getElem_idxOf hj
      have hv : (rowsD led t)[place led s]? = some (rowD (rowImg led (t.getD (place led s) []))) := by
        unfold rowsD
        rw [List.getElem?_map, List.getElem?_eq_getElem (by omega), List.getD_eq_getElem?_getD, List.getElem?_eq_getElem (by omega)]
        rfl
      have hval := valD_at led nd (rowsD led t) (place led s) _ (by unfold rowsD; simpa using hlen) hv s hg
      have e0 : (0 : Int) + (s : Nat) = (s : Int) := by omega
      simp only [e0, Int.toNat_natCast]
      simp only [eB, bDGet, bVar, List.getElem?_cons_succ, List.getElem?_cons_zero, Option.join, Option.bind, id, keyD, hval, isF_row, if_true])
  rw [filter_true] at h1
  rw [h1]
  congr 2
  unfold calledI
  rw [List.map_map, List.map_map]
  apply List.map_congr_left
  intro s _
  show rowD (rowImg led (t.getD (place led ((0 : Int) + (s : Nat)).toNat) [])) = _
  rw [show ((0 : Int) + (s : Nat)).toNat = s by omega]
  rfl
theorem rng_lem {m : Nat} (h : m ≤ 1000) : rngOf1 [.int (m : Nat)] = some ((List.range m).map fun i => .int ((0 : Int) + (i : Nat))) := by
  unfold rngOf1
  have h1 : -(2 ^ 62 : Int) ≤ (m : Int) := by omega
  have h2 : (m : Int) < 2 ^ 62 := by omega
  simp only [h1, h2, and_self, if_true, Int.toNat_natCast]
theorem calledso_gen {mi1 mi2 : MI} {ld : D} {led : List Int} {t : List (List Int)} (S : Sto) (hl : Holds ld led) (nd : led.Nodup) (hlen : led.length = t.length) (hall : ∀ s : Nat, s < t.length → (s : Int) ∈ led) (ht : t.length ≤ 1000)
    (hr : ∀ r ∈ t, (∀ x ∈ r, 0 ≤ x ∧ x < t.length) ∧ r.length ≤ 1000)
    (hi : mi1 [some (tabD t), some ld, some (.dct true [] []), none, none, none] S = .ok (enumR rowD 0 t) S)
    (hi2 : ∀ y4, mi2 [some (tabD t), some ld, some (.dct false (led.map Sum.inl) (rowsD led t)), none, y4, none] S = .ok ((List.range t.length).map fun i => .int ((0 : Int) + (i : Nat))) S) :
    fnOf 6 (sSeq (sSet 2 eDct) (sSeq (sFor mi1 soTg soStep) (sFreeze 2 (sForget 3 (sRet (eFn fTup (aCons (eFrz (eLc [3] mi2 (gVar 3) tYesM (eB (bDGet (bVar 2) (bVar 3))))) aNil))))))) [tabD t, ld] S = .ok (tabD (calledI led t)) S := by
  obtain ⟨y3, y4, h⟩ := soLoop (x0 := some (tabD t)) hl nd (by omega) S t [] 0 none none rfl (by omega) (fun r h => ⟨fun x hx => by rw [hlen]; exact (hr r h).1 x hx, (hr r h).2⟩)
  rw [List.nil_append] at h
  have h2 := soRead (x0 := some (tabD t)) (x1 := some ld) (y4 := y4) S nd hlen hall ht (hi2 y4)
  have e0 : ([tabD t, ld].map some ++ List.replicate (6 - [tabD t, ld].length) none : Env) = [some (tabD t), some ld, none, none, none, none] := rfl
  unfold fnOf
  rw [e0]
  have e1 : sSet 2 eDct [some (tabD t), some ld, none, none, none, none] S = .ok (.nx [some (tabD t), some ld, some (.dct true [] []), none, none, none]) S := rfl
  have e2 : sFor mi1 soTg soStep [some (tabD t), some ld, some (.dct true [] []), none, none, none] S = .ok (.nx [some (tabD t), some ld, some (.dct true (led.map Sum.inl) (rowsD led t)), y3, y4, none]) S := by
    unfold sFor
    rw [hi]
    exact h
  have e3 : (D.dct true (led.map Sum.inl) (rowsD led t)).frz = D.dct false (led.map Sum.inl) (rowsD led t) := by unfold D.frz; rw [frzs_rowsD]
  have e4 : (eFn fTup (aCons (eFrz (eLc [3] mi2 (gVar 3) tYesM (eB (bDGet (bVar 2) (bVar 3))))) aNil)) [some (tabD t), some ld, some (.dct false (led.map Sum.inl) (rowsD led t)), none, y4, none] S = .ok (tabD (calledI led t)) S := by
    simp only [eFn, aCons, eFrz, h2, R.bind, R.bindN, aNil, D.frz, frzs_tab, fTup, itemsOf, isFs_rows, if_true]
  unfold sSeq
  simp only [e1, R.bind, R.bindN, e2]
  unfold sFreeze sForget
  simp only [List.getElem?_cons_succ, List.getElem?_cons_zero, e3, List.set_cons_succ, List.set_cons_zero, sRet, e4, R.bind, R.bindN]
  show R.ok (tabD (calledI led t)).frz S = _
  unfold D.frz
  rw [frzs_tab]
theorem calledso_ok {ld : D} {led : List Int} {t : List (List Int)} (S : Sto) (hl : Holds ld led) (nd : led.Nodup) (hlen : led.length = t.length) (hall : ∀ s : Nat, s < t.length → (s : Int) ∈ led) (ht : t.length ≤ 1000)
    (hr : ∀ r ∈ t, (∀ x ∈ r, 0 ≤ x ∧ x < t.length) ∧ r.length ≤ 1000) : calledsoF [tabD t, ld] S = .ok (tabD (calledI led t)) S := by
  refine calledso_gen S hl nd hlen hall ht hr (iEnum_tab S rfl) fun y4 => iArgs_one' (d := .int (t.length : Nat)) ?_ (rng_lem ht)
  simp [eB, bFn, abCons, abNil, bVar, fLen, lenD, itemsOf, isF_int]
end N1
end
section
namespace N1
open PySem PySem.Spec PyProof.Rows L2
theorem piled_le {b : Nat} : ∀ ts : List Str, (∀ t ∈ ts, t.length ≤ b) → piled ts ≤ ts.length * (b + 2)
  | [], _ => by simp [piled]
  | t :: ts, h => by
    have h1 := h t List.mem_cons_self
    have h2 := piled_le ts fun x hx => h x (List.mem_cons_of_mem _ hx)
    rw [piled_cons, List.length_cons, Nat.add_mul]
    omega
theorem tupleText_le {b : Nat} {ts : List Str} (h : ∀ t ∈ ts, t.length ≤ b) : (tupleText ts).length ≤ ts.length * (b + 2) + 3 := by
  have hp := piled_le ts h
  have hj : (Str.join ", " ts).length ≤ piled ts := by
    cases ts with
    | nil => show 0 ≤ _; omega
    | cons t r =>
      have := join_length_add (t :: r) (by simp)
      omega
  have he : (tupleText ts).length = 1 + (Str.join ", " ts).length + ((if ts.length == 1 then ",)" else ")" : String) : Str).length := by
    unfold tupleText
    rw [Str.length_append, Str.length_append]
    rfl
  have h2 : ((if ts.length == 1 then ",)" else ")" : String) : Str).length ≤ 2 := by
    split <;> decide
  omega
theorem shownAll_len : ∀ ps : List PyData, (PyData.shownAll ps).length = ps.length
  | [] => by simp [PyData.shownAll]
  | p :: ps => by simp [PyData.shownAll, shownAll_len ps]
theorem shownAll_le {b : Nat} : ∀ ps : List PyData, (∀ p ∈ ps, p.shown.length ≤ b) → ∀ t ∈ PyData.shownAll ps, t.length ≤ b
  | [], _, t, h => by simp [PyData.shownAll] at h
  | p :: ps, h, t, ht => by
    simp only [PyData.shownAll, List.mem_cons] at ht
    rcases ht with e | ht
    · subst e
      exact h p List.mem_cons_self
    · exact shownAll_le ps (fun q hq => h q (List.mem_cons_of_mem _ hq)) t ht
theorem tuple_le {b : Nat} {ps : List PyData} (h : ∀ p ∈ ps, p.shown.length ≤ b) : (PyData.shown (.tuple ps)).length ≤ ps.length * (b + 2) + 3 := by
  have := tupleText_le (shownAll_le ps h)
  rw [shownAll_len] at this
  simpa only [PyData.shown] using this
end N1
end
section
namespace N1
open PySem PySem.Spec PyProof.Rows L2
abbrev rowL (r : List Int) : D := .lst true (r.map D.int)
abbrev rowsL (t : List (List Int)) : D := .lst true (t.map rowL)
def chgRow (r : List Int) (x : Int) : List Int := if x ∈ r then r.erase x else sortI (r ++ [x])
def chgIf : MS := (sIf (tE (eB (bOp fIn (bVar 6) (bOp ixD (bVar 2) (bVar 5))))) (sMut1 2 wRem (bVar 5) (bVar 6))
  (sPut 2 (bVar 5) (eFn fSort (aCons (eFrz (eCatS (bOp ixD (bVar 2) (bVar 5)) (abCons (bVar 6) abNil))) aNil))))
theorem chgIf_ok {x0 x1 x3 x4 : Option D} {t : List (List Int)} {i x : Int} (S : Sto) (h0 : 0 ≤ i) (h1 : i < t.length) (hr : (t.getD i.toNat []).length ≤ 1000) :
    chgIf [x0, x1, some (rowsL t), x3, x4, some (.int i), some (.int x)] S = .ok (.nx [x0, x1, some (rowsL (t.set i.toNat (chgRow (t.getD i.toNat []) x))), x3, x4, some (.int i), some (.int x)]) S := by
  have hk : i.toNat < t.length := by omega
  have eg : t.getD i.toNat [] = t[i.toNat] := by rw [List.getD_eq_getElem?_getD, List.getElem?_eq_getElem hk]; rfl
  rw [eg] at hr ⊢
  generalize hrow : t[i.toNat] = r at hr
  have hat : atI (t.map rowL) i = some (rowL r) := by
    rw [atI_rows h0, List.getElem?_eq_getElem hk, hrow]
    rfl
  have hix : ixN t.length i = some i.toNat := by unfold ixN; rw [if_pos h0, if_pos h1]
  have hget : (t.map rowL)[i.toNat]? = some (rowL r) := by rw [List.getElem?_map, List.getElem?_eq_getElem hk, hrow]; rfl
  have hin := inD_lst S x r true
  unfold chgRow
  by_cases hx : x ∈ r
  · rw [if_pos hx]
    have hw : wRem (r.map D.int) [.int x] = some ((r.erase x).map D.int) := by
      simp [wRem, intsOf_map, hx]
    have hset : (t.map rowL).set i.toNat (rowL (r.erase x)) = (t.set i.toNat (r.erase x)).map rowL := by rw [List.map_set]
    have ht : (tE (eB (bOp fIn (bVar 6) (bOp ixD (bVar 2) (bVar 5))))) [x0, x1, some (rowsL t), x3, x4, some (.int i), some (.int x)] S = .ok true S := by
      have e1 : bOp fIn (bVar 6) (bOp ixD (bVar 2) (bVar 5)) [x0, x1, some (rowsL t), x3, x4, some (.int i), some (.int x)] S = some (.bl true) := by
        show (match (some (D.int x)), atI (t.map rowL) i with
          | some a, some b => fIn S a b
          | _, _ => none) = _
        rw [hat]
        show (inD S (.int x) (rowL r)).map _ = _
        rw [hin, decide_eq_true hx]
        rfl
      simp only [tE, eB, e1, isF_bl, if_true, R.bind, R.bindN]
    have hm : sMut1 2 wRem (bVar 5) (bVar 6) [x0, x1, some (rowsL t), x3, x4, some (.int i), some (.int x)] S = .ok (.nx [x0, x1, some (rowsL (t.set i.toNat (r.erase x))), x3, x4, some (.int i), some (.int x)]) S := by
      have e2 : mut1E 2 i (fun ds => wRem ds [.int x]) [x0, x1, some (rowsL t), x3, x4, some (.int i), some (.int x)] = some [x0, x1, some (rowsL (t.set i.toNat (r.erase x))), x3, x4, some (.int i), some (.int x)] := by
        unfold mut1E
        simp only [List.getElem?_cons_succ, List.getElem?_cons_zero, Option.join, Option.bind, id, List.length_map, hix, hget, hw, hset, List.set_cons_succ, List.set_cons_zero]
      show (if (D.int x).isF = true then match mut1E 2 i (fun ds => wRem ds [.int x]) [x0, x1, some (rowsL t), x3, x4, some (.int i), some (.int x)] with
        | some env' => R.ok (Fl.nx env') S
        | none => R.bad
        else R.bad) = _
      rw [e2]
      rfl
    simp only [chgIf, sIf, ht, R.bind, R.bindN, if_true, hm]
  · rw [if_neg hx]
    have ht : (tE (eB (bOp fIn (bVar 6) (bOp ixD (bVar 2) (bVar 5))))) [x0, x1, some (rowsL t), x3, x4, some (.int i), some (.int x)] S = .ok false S := by
      have e1 : bOp fIn (bVar 6) (bOp ixD (bVar 2) (bVar 5)) [x0, x1, some (rowsL t), x3, x4, some (.int i), some (.int x)] S = some (.bl false) := by
        show (match (some (D.int x)), atI (t.map rowL) i with
          | some a, some b => fIn S a b
          | _, _ => none) = _
        rw [hat]
        show (inD S (.int x) (rowL r)).map _ = _
        rw [hin, decide_eq_false hx]
        rfl
      simp only [tE, eB, e1, isF_bl, if_true, R.bind, R.bindN]
    have he : (eFn fSort (aCons (eFrz (eCatS (bOp ixD (bVar 2) (bVar 5)) (abCons (bVar 6) abNil))) aNil)) [x0, x1, some (rowsL t), x3, x4, some (.int i), some (.int x)] S = .ok (rowL (sortI (r ++ [x]))) S := by
      have e1 : bOp ixD (bVar 2) (bVar 5) [x0, x1, some (rowsL t), x3, x4, some (.int i), some (.int x)] S = some (rowL r) := hat
      have e2 : abCons (bVar 6) abNil [x0, x1, some (rowsL t), x3, x4, some (.int i), some (.int x)] S = some [.int x] := rfl
      have e3 : eCatS (bOp ixD (bVar 2) (bVar 5)) (abCons (bVar 6) abNil) [x0, x1, some (rowsL t), x3, x4, some (.int i), some (.int x)] S = .ok (rowL (r ++ [x])) S := by
        have e4 : scs [D.int x] = some [V.int x] := rfl
        have e5 : isFs (r.map D.int) = true ∧ (r.map D.int).length + [D.int x].length ≤ 16777216 := ⟨isFs_ints r, by simp; omega⟩
        unfold eCatS
        rw [e1, e2]
        simp only [N1.listOfD, itemsOf, e4, e5, and_self, if_true]
        show R.ok (D.lst true (r.map D.int ++ [D.int x])) S = R.ok (D.lst true ((r ++ [x]).map D.int)) S
        rw [List.map_append]
        rfl
      simp only [eFn, aCons, eFrz, e3, R.bind, R.bindN, aNil, D.frz, frzs_ints, fSort, N1.listOfD, itemsOf, intsOf_map, Option.map_some]
    have hset : (t.map rowL).set i.toNat (rowL (sortI (r ++ [x]))) = (t.set i.toNat (sortI (r ++ [x]))).map rowL := by rw [List.map_set]
    have hm : sPut 2 (bVar 5) (eFn fSort (aCons (eFrz (eCatS (bOp ixD (bVar 2) (bVar 5)) (abCons (bVar 6) abNil))) aNil)) [x0, x1, some (rowsL t), x3, x4, some (.int i), some (.int x)] S = .ok (.nx [x0, x1, some (rowsL (t.set i.toNat (sortI (r ++ [x])))), x3, x4, some (.int i), some (.int x)]) S := by
      have e2 : mutE 2 (fun ds => wSet ds [.int i, rowL (sortI (r ++ [x]))]) [x0, x1, some (rowsL t), x3, x4, some (.int i), some (.int x)] S = some ([x0, x1, some (rowsL (t.set i.toNat (sortI (r ++ [x])))), x3, x4, some (.int i), some (.int x)], S) := by
        unfold mutE
        simp only [List.getElem?_cons_succ, List.getElem?_cons_zero, Option.join, Option.bind, id, wSet, List.length_map, hix, hset, List.set_cons_succ, List.set_cons_zero]
      unfold sPut
      simp only [he, R.bind, R.bindN]
      show (match mutE 2 (fun ds => wSet ds [.int i, rowL (sortI (r ++ [x]))]) [x0, x1, some (rowsL t), x3, x4, some (.int i), some (.int x)] S with
        | some p => R.ok (Fl.nx p.1) p.2
        | none => R.bad) = _
      rw [e2]
    simp only [chgIf, sIf, ht, R.bind, R.bindN, Bool.false_eq_true, if_false, hm]
end N1
end
section
namespace N1
open PySem PySem.Spec PyProof.Rows L2
theorem lt_of_le_nodup : ∀ {l : List Int}, l.Pairwise (· ≤ ·) → l.Nodup → l.Pairwise (· < ·)
  | [], _, _ => .nil
  | a :: l, h, n => by
    rw [List.pairwise_cons] at h
    rw [List.nodup_cons] at n
    refine List.pairwise_cons.mpr ⟨fun b hb => ?_, lt_of_le_nodup h.2 n.2⟩
    have h1 := h.1 b hb
    have h2 : a ≠ b := fun e => n.1 (e ▸ hb)
    omega
theorem nodup_of_lt : ∀ {l : List Int}, l.Pairwise (· < ·) → l.Nodup
  | [], _ => List.nodup_nil
  | a :: l, h => by
    rw [List.pairwise_cons] at h
    exact List.nodup_cons.mpr ⟨fun hm => by have := h.1 a hm; omega, nodup_of_lt h.2⟩
theorem chgRow_ok {r : List Int} {x n : Int} (h : r.Pairwise (· < ·)) (hb : ∀ y ∈ r, 0 ≤ y ∧ y < n) (hx : 0 ≤ x ∧ x < n) : (chgRow r x).Pairwise (· < ·) ∧ ∀ y ∈ chgRow r x, 0 ≤ y ∧ y < n := by
  unfold chgRow
  split
  · exact ⟨h.sublist List.erase_sublist, fun y hy => hb y (List.mem_of_mem_erase hy)⟩
  · rename_i hn
    have hp := sortI_perm (r ++ [x])
    have nd : (r ++ [x]).Nodup := by
      rw [List.nodup_append]
      refine ⟨nodup_of_lt h, by simp, fun a ha b hb' => ?_⟩
      have : b = x := by simpa using hb'
      subst this
      exact fun e => hn (e ▸ ha)
    refine ⟨lt_of_le_nodup (sortI_sorted _) (hp.nodup_iff.mpr nd), fun y hy => ?_⟩
    rcases List.mem_append.mp (hp.mem_iff.mp hy) with h1 | h1
    · exact hb y h1
    · have : y = x := by simpa using h1
      subst this
      exact hx
end N1
end
section
namespace N1
open PySem PySem.Spec PyProof.Rows L2
theorem IsTab.small {t : List (List Int)} (h : IsTab t) : ∀ r ∈ t, r.length ≤ 16 := fun r hr => by
  obtain ⟨h1, h2⟩ := h.row r hr
  -- distinct numbers below the length
  have nd := nodup_of_lt h1
  have hle : (r.map Int.toNat).length ≤ (List.range t.length).length := nodup_len (by
    refine List.Pairwise.map _ ?_ (List.pairwise_iff_forall_sublist.mpr fun {a b} hs => hs) |>.imp fun h => h
    intro a b hs e
    have ha := h2 a (hs.subset (by simp))
    have hb := h2 b (hs.subset (by simp))
    have := (List.pairwise_iff_forall_sublist.mp h1) hs
    omega) fun x hx => by
      obtain ⟨y, hy, e⟩ := List.mem_map.mp hx
      have := h2 y hy
      exact List.mem_range.mpr (by omega)
  have := h.le
  simpa using Nat.le_trans hle (by simpa using this)
theorem IsTab.set {t : List (List Int)} (h : IsTab t) {i : Nat} (hi : i < t.length) {x : Int} (hx : 0 ≤ x ∧ x < t.length) : IsTab (t.set i (chgRow (t.getD i []) x)) := by
  have hrow : t.getD i [] ∈ t := by
    rw [List.getD_eq_getElem?_getD, List.getElem?_eq_getElem hi]
    exact List.getElem_mem hi
  obtain ⟨h1, h2⟩ := h.row _ hrow
  obtain ⟨c1, c2⟩ := chgRow_ok h1 h2 hx
  refine ⟨by rw [List.length_set]; exact h.pos, by rw [List.length_set]; exact h.le, fun r hr => ?_⟩
  rw [List.length_set]
  rcases List.mem_or_eq_of_mem_set hr with hr | hr
  · exact h.row r hr
  · subst hr
    exact ⟨c1, c2⟩
end N1
end
section
namespace N1
open PySem PySem.Spec PyProof.Rows L2
def chgDraw : MS := (sPar 5 6 (aCons (eCall 2 takeF (aCons (eB (bVar 0)) (aCons (eB (bFn fLen (abCons (bVar 2) abNil))) aNil))) (aCons (eCall 2 takeF (aCons (eB (bVar 0)) (aCons (eB (bFn fLen (abCons (bVar 2) abNil))) aNil))) aNil)))
def chgB : MS := sSeq chgDraw chgIf
theorem chgTurn {S : Sto} {n : Nat} {c : Int} {x1 x3 x4 x5 x6 : Option D} {t : List (List Int)} (P : PotAt S n c) (hc : c + 1 < 1152921504606846976) (ht : IsTab t) :
    ∃ (t' : List (List Int)) (y5 y6 : Option D) (S' : Sto), chgB [some (.ref n), x1, some (rowsL t), x3, x4, x5, x6] S = .ok (.nx [some (.ref n), x1, some (rowsL t'), x3, x4, y5, y6]) S' ∧ IsTab t' ∧ t'.length = t.length ∧ Drew S S' n (c + 2) := by
  have hp := ht.pos
  have hle := ht.le
  obtain ⟨i, S1, t1, i0, i1, W1⟩ := draw P (by omega) (k := t.length) (by omega) (by omega)
  obtain ⟨x, S2, t2, a0, a1, W2⟩ := draw W1.pot (by omega) (k := t.length) (by omega) (by omega)
  have hk : i.toNat < t.length := by omega
  have hlen : ∀ S : Sto, eB (bFn fLen (abCons (bVar 2) abNil)) [some (.ref n), x1, some (rowsL t), x3, x4, x5, x6] S = .ok (.int (t.length : Nat)) S := fun S => by
    simp [eB, bFn, abCons, abNil, bVar, fLen, lenD, itemsOf, isF_int]
  have hd : chgDraw [some (.ref n), x1, some (rowsL t), x3, x4, x5, x6] S = .ok (.nx [some (.ref n), x1, some (rowsL t), x3, x4, some (.int i), some (.int x)]) S2 := by
    have hr : (D.ref n).isF = true := rfl
    have hv : ∀ S : Sto, eB (bVar 0) [some (.ref n), x1, some (rowsL t), x3, x4, x5, x6] S = .ok (.ref n) S := fun S => rfl
    have hf : frzs [D.ref n, D.int (t.length : Nat)] = [D.ref n, D.int (t.length : Nat)] := by simp [frzs, D.frz]
    simp only [chgDraw, sPar, eCall, aCons, aNil, hv, hlen, R.bind, R.bindN, List.length_cons, List.length_nil, if_true, hf, t1, t2]
    rfl
  have hrow : (t.getD i.toNat []).length ≤ 1000 := by
    have : t.getD i.toNat [] ∈ t := by
      rw [List.getD_eq_getElem?_getD, List.getElem?_eq_getElem hk]
      exact List.getElem_mem hk
    have := ht.small _ this
    omega
  have h2 := chgIf_ok (x0 := some (.ref n)) (x1 := x1) (x3 := x3) (x4 := x4) (t := t) (i := i) (x := x) S2 i0 i1 hrow
  refine ⟨_, some (.int i), some (.int x), S2, ?_, ht.set hk ⟨a0, a1⟩, List.length_set, (W1.trans W2).more (by omega)⟩
  unfold chgB sSeq
  simp only [hd, R.bind, R.bindN, h2]
end N1
end
section
namespace N1
open PySem PySem.Spec PyProof.Rows L2
theorem nr {a : Sort _} {x y : a} (h : x = y) : x = y := h
structure Tk {a : Sort _} (Q : a) : Type where
section
variable {S : Sto} {env : Env} {i j n : Nat} {f g : Sto → D → D → Option D} {ma mb mc : MB} {xa : MAB} {me m1 m2 m3 : ME} {as : MA} {t1 t2 : MT} {s1 s2 : MS} {mi : MI}
def Is {a : Type} (v : a) (S : Sto) : a → Sto → Prop := fun x S' => x = v ∧ S' = S
def b2 (oa ob : Option D) (f : D → D → Option D) (t : Tk f := ⟨⟩) : Option D := match oa, ob with
  | some a, some b => f a b
  | _, _ => none
theorem b2_some {a b : D} {f : D → D → Option D} : b2 (some a) (some b) f = f a b := nr rfl
def b1 {a c : Type} (oa : Option a) (f : a → Option c) (t : Tk f := ⟨⟩) : Option c := match oa with
  | some a => f a
  | none => none
theorem b1_some {a c : Type} {x : a} {f : a → Option c} : b1 (some x) f = f x := nr rfl
def slot (i : Nat) (env : Env) : Option D := (env[i]?).join
theorem slot_0 {x : Option D} {env : Env} : slot 0 (x :: env) = x := by cases x <;> rfl
theorem slot_s {x : Option D} {env : Env} {i : Nat} : slot (i + 1) (x :: env) = slot i env := nr rfl
theorem v_var : bVar i env S = slot i env := nr rfl
theorem v_c {d : D} : bC d env S = some d := nr rfl
theorem v_op : bOp f ma mb env S = b2 (ma env S) (mb env S) (f S) := nr rfl
theorem v_neg : bNeg ma env S = b1 (ma env S) negD := by
  unfold bNeg b1
  cases ma env S <;> rfl
theorem v_isi {T : String} : bIsi T ma env S = b1 (ma env S) fun d => (tyD S d).map fun t => .bl (isT t T) := by
  unfold bIsi b1
  cases ma env S <;> rfl
theorem v_fn {h : Sto → List D → Option D} : bFn h xa env S = b1 (xa env S) (h S) := by
  unfold bFn b1
  cases xa env S <;> rfl
theorem v_nil : abNil env S = some [] := nr rfl
theorem v_cons : abCons ma xa env S = b1 (ma env S) fun d => b1 (xa env S) fun ds => some (d :: ds) := by
  unfold abCons b1
  cases ma env S <;> cases xa env S <;> rfl
theorem v_dget : bDGet ma mb env S = b2 (ma env S) (mb env S) fun d k => match d with
  | .dct _ ks vs => b1 (keyD k) fun k => valD ks vs k
  | _ => none := by
  unfold bDGet b2
  cases ma env S with
  | none => rfl
  | some d => cases d <;> cases mb env S <;> try rfl
              rename_i k
              simp only
              cases keyD k <;> rfl
theorem v_dget2 : bDGet2 ma mb mc env S = b2 (ma env S) (mb env S) fun d k => b1 (mc env S) fun x => match d with
  | .dct _ ks vs => b1 (keyD k) fun k => some ((valD ks vs k).getD x)
  | _ => none := by
  unfold bDGet2 b2 b1
  cases ma env S with
  | none => rfl
  | some d => cases d <;> cases mb env S <;> cases mc env S <;> try rfl
              rename_i k x
              simp only
              cases keyD k <;> try rfl
              rename_i k
              simp only
              cases valD _ _ k <;> rfl
theorem v_din : bDIn mb ma env S = b2 (ma env S) (mb env S) fun d k => match d with
  | .dct _ ks vs => b1 (keyD k) fun k => some (.bl (valD ks vs k).isSome)
  | _ => none := by
  unfold bDIn b2 b1
  cases ma env S with
  | none => rfl
  | some d => cases d <;> cases mb env S <;> try rfl
              rename_i k
              simp only
              cases keyD k <;> rfl
theorem v_p0 : partD none env S = some none := nr rfl
theorem v_p1 : partD (some ma) env S = b1 (ma env S) fun d => match d with
  | .int i => some (some i)
  | _ => none := by
  unfold partD b1
  simp only
  cases ma env S with
  | none => rfl
  | some d => cases d <;> rfl
def nAt (i : Nat) (env : Env) : Bool := match env[i]? with
  | some none => true
  | _ => false
theorem nAt_0 {env : Env} : nAt 0 (none :: env) = true := nr rfl
theorem nAt_s {x : Option D} {env : Env} : nAt (i + 1) (x :: env) = nAt i env := nr rfl
theorem fr_nil : freeAt [] env = true := nr rfl
theorem fr_cons {vs : List Nat} : freeAt (i :: vs) env = (nAt i env && freeAt vs env) := by
  unfold freeAt nAt
  exact List.all_cons
theorem v_gTup {k : Nat} {gs : MGs} {ds : List D} : gTupM k gs (.tup ds) env = if ds.length = k then gs ds env else none := nr rfl
theorem v_gsCons {g : MG} {gs : MGs} {d : D} {ds : List D} : gsCons g gs (d :: ds) env = b1 (g d env) fun e => gs ds e := by
  unfold gsCons b1
  simp only
  cases g d env <;> rfl
theorem v_gsNil : gsNil [] env = some env := nr rfl
theorem v_gVar {d : D} : gVar i d env = if i < env.length then some (env.set i (some d)) else none := nr rfl
theorem sq_tup {ds : List D} : seqOf (.tup ds) = if isFs ds = true then some ds else none := nr rfl
theorem sq_lst {ds : List D} : seqOf (.lst false ds) = if isFs ds = true then some ds else none := nr rfl
theorem en_tup {ds : List D} : enumOf [.tup ds] = if isFs ds = true then some (enumD ds) else none := nr rfl
theorem en_lst {ds : List D} : enumOf [.lst false ds] = if isFs ds = true then some (enumD ds) else none := nr rfl
theorem zp_tup {ds es : List D} : zipOf [.tup ds, .tup es] = if isFs ds = true ∧ isFs es = true then some (zipD ds es) else none := nr rfl
theorem zp_lst {ds es : List D} : zipOf [.lst false ds, .lst false es] = if isFs ds = true ∧ isFs es = true then some (zipD ds es) else none := nr rfl
def mutV (o : Option D) (i : Nat) (g : List D → Option (List D)) (env : Env) (S : Sto) : Option (Env × Sto) := match o with
  | some (.lst true ds) => b1 (g ds) fun ds' => some (env.set i (some (.lst true ds')), S)
  | some (.ref n) => match S[n]? with
    | some (.lst true ds) => b1 (g ds) fun ds' => some (env, S.set n (.lst true ds'))
    | _ => none
  | _ => none
theorem mu_v {g : List D → Option (List D)} : mutE i g env S = mutV (slot i env) i g env S := by
  unfold slot mutE mutV b1
  cases (env[i]?).join with
  | none => rfl
  | some d =>
    cases d <;> try rfl
    · rename_i o ds
      cases o
      · rfl
      · simp only
        cases g ds <;> rfl
    · rename_i n
      simp only
      cases S[n]? with
      | none => rfl
      | some d =>
        cases d <;> try rfl
        rename_i o ds
        cases o
        · rfl
        · simp only
          cases g ds <;> rfl
theorem mu_lst {g : List D → Option (List D)} {ds : List D} : mutV (some (.lst true ds)) i g env S = b1 (g ds) fun ds' => some (env.set i (some (.lst true ds')), S) := nr rfl
def lsV (o : Option D) (S : Sto) : Bool := match o with
  | some (.lst _ _) => true
  | some (.ref n) => match S[n]? with
    | some (.lst _ _) => true
    | _ => false
  | _ => false
theorem ls_v : isLs i env S = lsV (slot i env) S := nr rfl
theorem ls_lst {ds : List D} {b : Bool} : lsV (some (.lst b ds)) S = true := nr rfl
def m1V (o : Option D) (i : Nat) (k : Int) (g : List D → Option (List D)) (env : Env) : Option Env := match o with
  | some (.lst true ds) => match ixN ds.length k with
    | some j => match ds[j]? with
      | some (.lst true es) => b1 (g es) fun es' => some (env.set i (some (.lst true (ds.set j (.lst true es')))))
      | _ => none
    | none => none
  | _ => none
theorem m1_v {k : Int} {g : List D → Option (List D)} : mut1E i k g env = m1V (slot i env) i k g env := by
  unfold slot mut1E m1V b1
  cases (env[i]?).join with
  | none => rfl
  | some d =>
    cases d <;> try rfl
    rename_i o ds
    cases o
    · rfl
    · simp only
      cases ixN ds.length k with
      | none => rfl
      | some j =>
        simp only
        cases ds[j]? with
        | none => rfl
        | some d =>
          cases d <;> try rfl
          rename_i o es
          cases o
          · rfl
          · simp only
            cases g es <;> rfl
theorem m1_rows {k : Int} {g : List D → Option (List D)} {t : List (List Int)} (h0 : 0 ≤ k) (h1 : k < t.length) :
    m1V (some (.lst true (t.map rowL))) i k g env = b1 (g ((t.getD k.toNat []).map D.int)) fun es' => some (env.set i (some (.lst true ((t.map rowL).set k.toNat (.lst true es'))))) := by
  unfold m1V
  have hk : k.toNat < t.length := by omega
  have hx : ixN (t.map rowL).length k = some k.toNat := by unfold ixN; rw [List.length_map, if_pos h0, if_pos h1]
  have hg : (t.map rowL)[k.toNat]? = some (rowL (t.getD k.toNat [])) := by
    rw [List.getElem?_map, List.getElem?_eq_getElem hk, List.getD_eq_getElem?_getD, List.getElem?_eq_getElem hk]
    rfl
  simp only [hx, hg]
theorem wr_app {ds : List D} {d : D} : wApp ds [d] = if ds.length < 16777216 then some (ds ++ [d]) else none := nr rfl
theorem wr_ext {ds es : List D} : wExt ds [.lst true es] = if ds.length + es.length ≤ 16777216 then some (ds ++ es) else none := nr rfl
theorem wr_rem {r : List Int} {k : Int} : wRem (r.map D.int) [.int k] = if k ∈ r then some ((r.erase k).map D.int) else none := by
  unfold wRem
  simp only [intsOf_map]
theorem wr_set {ds : List D} {k : Int} {d : D} (h0 : 0 ≤ k) (h1 : k < ds.length) : wSet ds [.int k, d] = some (ds.set k.toNat d) := by
  unfold wSet
  have : ixN ds.length k = some k.toNat := by unfold ixN; rw [if_pos h0, if_pos h1]
  simp only [this]
def fzE : Nat → Env → Env
  | _, [] => []
  | 0, x :: env => x.map D.frz :: env
  | i + 1, x :: env => x :: fzE i env
theorem fzE_0 {d : D} : fzE 0 (some d :: env) = some d.frz :: env := nr rfl
theorem fzE_n : fzE 0 (none :: env) = none :: env := nr rfl
theorem fzE_s {x : Option D} : fzE (i + 1) (x :: env) = x :: fzE i env := nr rfl
theorem fzE_eq : ∀ (i : Nat) (env : Env), (match env[i]? with
  | some (some d) => env.set i (some d.frz)
  | _ => env) = fzE i env
  | i, [] => by cases i <;> rfl
  | 0, x :: env => by cases x <;> rfl
  | i + 1, x :: env => by
    unfold fzE
    rw [← fzE_eq i env, List.getElem?_cons_succ]
    cases env[i]? with
    | none => rfl
    | some y => cases y <;> rfl
end
namespace Z
def RW {a : Type} (r : R a) (Q : a → Sto → Prop) : Prop := match r with
  | .ok x S => Q x S
  | .exn _ _ => False
  | .bad => False
theorem RW_ok {a : Type} {x : a} {S : Sto} {Q : a → Sto → Prop} : RW (.ok x S) Q = Q x S := nr rfl
theorem RW_bind {a b : Type} {r : R a} {f : a → Sto → R b} {Q : b → Sto → Prop} : RW (r.bind f) Q = RW r fun x S' => RW (f x S') Q := by cases r <;> rfl
theorem RW_bindN {a b : Type} {r : R a} {f : a → Sto → R b} {Q : b → Sto → Prop} : RW (r.bindN f) Q = RW r fun x S' => RW (f x S') Q := by cases r <;> rfl
theorem RW.ex {a : Type} {r : R a} {Q : a → Sto → Prop} (h : RW r Q) : ∃ x S', r = .ok x S' ∧ Q x S' := by
  cases r with
  | ok x S => exact ⟨x, S, rfl, h⟩
  | exn e S => exact h.elim
  | bad => exact h.elim
theorem RW.of {a : Type} {r : R a} {x : a} {S : Sto} {Q : a → Sto → Prop} (h : r = .ok x S) (q : Q x S) : RW r Q := by subst h; exact q
theorem RW.mono {a : Type} {r : R a} {Q Q' : a → Sto → Prop} (h : RW r Q) (k : ∀ x S, Q x S → Q' x S) : RW r Q' := by
  obtain ⟨x, S, e, q⟩ := h.ex
  exact .of e (k x S q)
theorem RW.eq {a : Type} {r : R a} {v : a} {S : Sto} (h : RW r (Is v S)) : r = .ok v S := by
  obtain ⟨x, S', e, rfl, rfl⟩ := h.ex
  exact e
theorem RW_ext {a : Type} {r : R a} {Q Q' : a → Sto → Prop} (h : ∀ x S, Q x S = Q' x S) : RW r Q = RW r Q' := by
  have : Q = Q' := by funext x S; exact h x S
  subst this
  rfl
theorem RW_ite {a : Type} {c : Prop} [Decidable c] {x y : R a} {Q : a → Sto → Prop} : RW (if c then x else y) Q = if c then RW x Q else RW y Q := by split <;> rfl
def flR (Q : D → Sto → Prop) : Fl → Sto → Prop := fun fl S => match fl with
  | .rt d => Q d.frz S
  | .nx _ => Q .non S
  | .bk _ => False
  | .ct _ => False
theorem RW_fn {N : Nat} {body : MS} {ds : List D} {S : Sto} {Q : D → Sto → Prop} : RW (fnOf N body ds S) Q = RW (body (ds.map some ++ List.replicate (N - ds.length) none) S) (flR Q) := by
  unfold fnOf
  cases body (ds.map some ++ List.replicate (N - ds.length) none) S with
  | ok fl S => cases fl <;> rfl
  | exn e S => rfl
  | bad => rfl
theorem flR_rt {Q : D → Sto → Prop} {d : D} {S : Sto} : flR Q (.rt d) S = Q d.frz S := nr rfl
theorem flR_nx {Q : D → Sto → Prop} {e : Env} {S : Sto} : flR Q (.nx e) S = Q .non S := nr rfl
def OW {a : Type} (o : Option a) (k : a → Prop) : Prop := match o with
  | some x => k x
  | none => False
theorem OW_some {a : Type} {x : a} {k : a → Prop} : OW (some x) k = k x := nr rfl
section
variable {S : Sto} {env : Env} {i j n : Nat} {f g : Sto → D → D → Option D} {ma mb mc : MB} {xa : MAB} {me m1 m2 m3 : ME} {as : MA} {t1 t2 : MT} {s1 s2 : MS} {mi : MI}
variable {Q : D → Sto → Prop}
theorem w_b : RW (eB ma env S) Q = OW (ma env S) fun d => if d.isF = true then Q d S else False := by
  unfold eB OW
  cases ma env S with
  | none => rfl
  | some d => exact RW_ite
theorem w_op : RW (eOp f m1 m2 env S) Q = RW (m1 env S) fun a S1 => RW (m2 env S1) fun b S2 => OW (f S2 a b) fun c => if c.isF = true then Q c S2 else False := by
  unfold eOp
  (first | rw [RW_bind] | rw [RW_bindN])
  refine RW_ext fun a S1 => ?_
  (first | rw [RW_bind] | rw [RW_bindN])
  refine RW_ext fun b S2 => ?_
  cases f S2 a b with
  | none => rfl
  | some d => exact RW_ite
theorem w_opA : RW (eOpA f m1 m2 env S) Q = RW (m1 env S) fun a S1 => RW (m2 env S1) fun b S2 => OW (f S2 a b) fun c => Q c S2 := by
  unfold eOpA
  (first | rw [RW_bind] | rw [RW_bindN])
  refine RW_ext fun a S1 => ?_
  (first | rw [RW_bind] | rw [RW_bindN])
  refine RW_ext fun b S2 => ?_
  cases f S2 a b <;> rfl
theorem w_opV : RW (eOpV f i m2 env S) Q = OW (slot i env) fun a => RW (m2 env S) fun b S2 => OW (f S2 a b) fun c => if c.isF = true then Q c S2 else False := by
  unfold eOpV OW slot
  cases (env[i]?).join with
  | none => rfl
  | some a =>
    show RW (R.bind _ _) Q = _
    (first | rw [RW_bind] | rw [RW_bindN])
    refine RW_ext fun b S2 => ?_
    cases f S2 a b with
    | none => rfl
    | some d => exact RW_ite
theorem w_fn {h : Sto → List D → Option D} : RW (eFn h as env S) Q = RW (as env S) fun ds S1 => OW (h S1 ds) fun c => Q c S1 := by
  unfold eFn
  (first | rw [RW_bind] | rw [RW_bindN])
  refine RW_ext fun ds S1 => ?_
  cases h S1 ds <;> rfl
theorem w_fnB {h : Sto → List D → Option D} : RW (eFnB h xa env S) Q = OW (xa env S) fun ds => OW (h S ds) fun c => Q c S := by
  unfold eFnB OW
  cases xa env S with
  | none => rfl
  | some ds => simp only
               cases h S ds <;> rfl
theorem w_frz : RW (eFrz m1 env S) Q = RW (m1 env S) fun d S1 => Q d.frz S1 := by
  unfold eFrz
  (first | rw [RW_bind] | rw [RW_bindN])
  rfl
theorem w_tup : RW (eTup as env S) Q = RW (as env S) fun ds S1 => if ds.length ≤ 16777216 then Q (.tup ds) S1 else False := by
  unfold eTup
  (first | rw [RW_bind] | rw [RW_bindN])
  refine RW_ext fun ds S1 => ?_
  exact RW_ite
theorem w_lst : RW (eLst as env S) Q = RW (as env S) fun ds S1 => if ds.length ≤ 16777216 then Q (.lst true ds) S1 else False := by
  unfold eLst
  (first | rw [RW_bind] | rw [RW_bindN])
  refine RW_ext fun ds S1 => ?_
  exact RW_ite
theorem w_dct : RW (eDct env S) Q = Q (.dct true [] []) S := nr rfl
theorem w_cell : RW (eCell m1 env S) Q = RW (m1 env S) fun d S1 => match d with
  | .lst true ds => Q (.ref S1.length) (S1 ++ [.lst true ds])
  | _ => False := by
  unfold eCell
  (first | rw [RW_bind] | rw [RW_bindN])
  refine RW_ext fun d S1 => ?_
  cases d <;> try rfl
  rename_i o ds
  cases o <;> rfl
theorem w_if : RW (eIf t1 m1 m2 env S) Q = RW (t1 env S) fun b S1 => if b = true then RW (m1 env S1) Q else RW (m2 env S1) Q := by
  unfold eIf
  (first | rw [RW_bind] | rw [RW_bindN])
  refine RW_ext fun b S1 => ?_
  exact RW_ite
theorem w_sl {lo hi : Option MB} : RW (eSl ma lo hi env S) Q = OW (ma env S) fun d => OW (partD lo env S) fun l => OW (partD hi env S) fun u => OW (slD d l u) fun c => Q c S := by
  unfold eSl OW
  cases ma env S <;> cases partD lo env S <;> cases partD hi env S <;> try rfl
  rename_i d l u
  simp only
  cases slD d l u <;> rfl
theorem w_catS : RW (eCatS ma xa env S) Q = OW (ma env S) fun a => OW (xa env S) fun es => OW (N1.listOfD S a) fun ds => OW (scs es) fun _ => if isFs ds = true ∧ ds.length + es.length ≤ 16777216 then Q (.lst true (ds ++ es)) S else False := by
  unfold eCatS OW
  cases ma env S <;> cases xa env S <;> try rfl
  rename_i a es
  simp only
  cases N1.listOfD S a <;> cases scs es <;> try rfl
  exact RW_ite
theorem w_call {f : Fn} : RW (eCall n f as env S) Q = RW (as env S) fun ds S1 => if ds.length = n then RW (f (frzs ds) S1) Q else False := by
  unfold eCall
  (first | rw [RW_bind] | rw [RW_bindN])
  refine RW_ext fun ds S1 => ?_
  exact RW_ite
theorem w_callK {f : Fn} {is : List Nat} : RW (eCallK n f is as env S) Q = RW (as env S) fun ds S1 => if (permL is ds).length = n ∧ isFs ds = true then RW (f (permL is ds) S1) Q else False := by
  unfold eCallK
  (first | rw [RW_bind] | rw [RW_bindN])
  refine RW_ext fun ds S1 => ?_
  exact RW_ite
theorem w_nil {Q : List D → Sto → Prop} : RW (aNil env S) Q = Q [] S := nr rfl
theorem w_cons {Q : List D → Sto → Prop} : RW (aCons m1 as env S) Q = RW (m1 env S) fun d S1 => RW (as env S1) fun ds S2 => Q (d :: ds) S2 := by
  unfold aCons
  (first | rw [RW_bind] | rw [RW_bindN])
  refine RW_ext fun d S1 => ?_
  (first | rw [RW_bind] | rw [RW_bindN])
  rfl
def blW (d : D) (k : Bool → Prop) : Prop := match d with
  | .bl b => k b
  | _ => False
theorem blW_bl {b : Bool} {k : Bool → Prop} : blW (.bl b) k = k b := nr rfl
theorem w_and : RW (eAnd m1 m2 env S) Q = RW (m1 env S) fun d S1 => blW d fun b => if b = true then RW (m2 env S1) Q else Q (.bl false) S1 := by
  unfold eAnd
  (first | rw [RW_bind] | rw [RW_bindN])
  refine RW_ext fun d S1 => ?_
  cases d <;> try rfl
  rename_i b
  cases b <;> rfl
theorem w_or : RW (eOr m1 m2 env S) Q = RW (m1 env S) fun d S1 => blW d fun b => if b = true then Q (.bl true) S1 else RW (m2 env S1) Q := by
  unfold eOr
  (first | rw [RW_bind] | rw [RW_bindN])
  refine RW_ext fun d S1 => ?_
  cases d <;> try rfl
  rename_i b
  cases b <;> rfl
theorem w_not : RW (eNot m1 env S) Q = RW (m1 env S) fun d S1 => blW d fun b => Q (.bl (!b)) S1 := by
  unfold eNot
  (first | rw [RW_bind] | rw [RW_bindN])
  refine RW_ext fun d S1 => ?_
  cases d <;> rfl
theorem w_chain : RW (eChain f g m1 m2 m3 env S) Q = RW (m1 env S) fun a S1 => RW (m2 env S1) fun b S2 => OW (f S2 a b) fun k => blW k fun k => if k = true then RW (m3 env S2) fun c S3 => OW (g S3 b c) fun d => if d.isF = true then Q d S3 else False else Q (.bl false) S2 := by
  unfold eChain
  (first | rw [RW_bind] | rw [RW_bindN])
  refine RW_ext fun a S1 => ?_
  (first | rw [RW_bind] | rw [RW_bindN])
  refine RW_ext fun b S2 => ?_
  cases f S2 a b with
  | none => rfl
  | some x =>
    cases x <;> try rfl
    rename_i k
    cases k
    · rfl
    · show RW (R.bind _ _) Q = _
      (first | rw [RW_bind] | rw [RW_bindN])
      simp only [OW, blW, if_true]
      refine RW_ext fun c S3 => ?_
      cases g S3 b c with
      | none => rfl
      | some d => exact RW_ite
def lcQ (g : MG) (mt : MT) (me : ME) (env : Env) (Q : D → Sto → Prop) : List D → Sto → Prop := fun items S1 => if items.length ≤ 16777216 then RW (loopC g mt me env items S1) (fun ys S2 => Q (.lst true ys) S2) else False
theorem lcQ_map {α : Type} {h : α → D} {l : List α} {g : MG} (hl : l.length ≤ 16777216) : lcQ g t1 m1 env Q (l.map h) S = RW (loopC g t1 m1 env (l.map h) S) (fun ys S2 => Q (.lst true ys) S2) := by
  unfold lcQ
  rw [if_pos (by rw [List.length_map]; exact hl)]
theorem w_lc {vs : List Nat} {g : MG} : RW (eLc vs mi g t1 m1 env S) Q = if freeAt vs env = true then RW (mi env S) (lcQ g t1 m1 env Q) else False := by
  unfold eLc
  rw [RW_ite]
  congr 1
  (first | rw [RW_bind] | rw [RW_bindN])
  refine RW_ext fun items S1 => ?_
  unfold lcQ
  rw [RW_ite]
  congr 1
  (first | rw [RW_bind] | rw [RW_bindN])
  rfl
def intW (d : D) (k : Int → Prop) : Prop := match d with
  | .int b => k b
  | _ => False
theorem intW_i {b : Int} {k : Int → Prop} : intW (.int b) k = k b := nr rfl
theorem w_rg1 {mk : List D → D} : RW (eRg1 mk m1 env S) Q = RW (m1 env S) fun d S1 => intW d fun n => if rgOkB 0 n = true then Q (mk ((rgI 0 n).map D.int)) S1 else False := by
  unfold eRg1
  (first | rw [RW_bind] | rw [RW_bindN])
  refine RW_ext fun d S1 => ?_
  cases d <;> try rfl
  exact RW_ite
theorem w_rg2 {mk : List D → D} : RW (eRg2 mk m1 m2 env S) Q = RW (m1 env S) fun c S1 => RW (m2 env S1) fun d S2 => intW c fun a => intW d fun b => if rgOkB a b = true then Q (mk ((rgI a b).map D.int)) S2 else False := by
  unfold eRg2
  (first | rw [RW_bind] | rw [RW_bindN])
  refine RW_ext fun c S1 => ?_
  (first | rw [RW_bind] | rw [RW_bindN])
  refine RW_ext fun d S2 => ?_
  cases c <;> try rfl
  cases d <;> try rfl
  exact RW_ite
variable {B : Bool → Sto → Prop}
theorem w_tE : RW (tE m1 env S) B = RW (m1 env S) fun d S1 => blW d fun b => B b S1 := by
  unfold tE
  (first | rw [RW_bind] | rw [RW_bindN])
  refine RW_ext fun d S1 => ?_
  cases d <;> rfl
theorem w_tNot : RW (N1.tNot t1 env S) B = RW (t1 env S) fun b S1 => B (!b) S1 := by
  unfold N1.tNot
  (first | rw [RW_bind] | rw [RW_bindN])
  rfl
theorem w_tAnd : RW (N1.tAnd t1 t2 env S) B = RW (t1 env S) fun b S1 => if b = true then RW (t2 env S1) B else B false S1 := by
  unfold N1.tAnd
  (first | rw [RW_bind] | rw [RW_bindN])
  refine RW_ext fun b S1 => ?_
  exact RW_ite
theorem w_tOr : RW (N1.tOr t1 t2 env S) B = RW (t1 env S) fun b S1 => if b = true then B true S1 else RW (t2 env S1) B := by
  unfold N1.tOr
  (first | rw [RW_bind] | rw [RW_bindN])
  refine RW_ext fun b S1 => ?_
  exact RW_ite
theorem w_yes : RW (tYesM env S) B = B true S := nr rfl
variable {I : List D → Sto → Prop}
theorem w_seq : RW (iSeqM m1 env S) I = RW (m1 env S) fun d S1 => OW (seqOf d) fun ds => I ds S1 := by
  unfold iSeqM
  (first | rw [RW_bind] | rw [RW_bindN])
  refine RW_ext fun d S1 => ?_
  cases seqOf d <;> rfl
theorem w_args {h : List D → Option (List D)} : RW (iArgs h as env S) I = RW (as env S) fun ds S1 => OW (h ds) fun items => I items S1 := by
  unfold iArgs
  (first | rw [RW_bind] | rw [RW_bindN])
  refine RW_ext fun ds S1 => ?_
  cases h ds <;> rfl
variable {P : Fl → Sto → Prop}
def seqQ (m2 : MS) (P : Fl → Sto → Prop) : Fl → Sto → Prop := fun fl S => match fl with
  | .nx e => RW (m2 e S) P
  | .rt d => P (.rt d) S
  | .bk e => P (.bk e) S
  | .ct e => P (.ct e) S
theorem q_nx : seqQ s2 P (.nx env) S = RW (s2 env S) P := nr rfl
theorem q_rt {d : D} : seqQ s2 P (.rt d) S = P (.rt d) S := nr rfl
theorem q_bk : seqQ s2 P (.bk env) S = P (.bk env) S := nr rfl
theorem q_ct : seqQ s2 P (.ct env) S = P (.ct env) S := nr rfl
theorem x_seq : RW (sSeq s1 s2 env S) P = RW (s1 env S) (seqQ s2 P) := by
  unfold sSeq
  (first | rw [RW_bind] | rw [RW_bindN])
  refine RW_ext fun fl S1 => ?_
  cases fl <;> rfl
theorem x_nil : RW (sNil env S) P = P (.nx env) S := nr rfl
theorem x_if : RW (sIf t1 s1 s2 env S) P = RW (t1 env S) fun b S1 => if b = true then RW (s1 env S1) P else RW (s2 env S1) P := by
  unfold sIf
  (first | rw [RW_bind] | rw [RW_bindN])
  refine RW_ext fun b S1 => ?_
  exact RW_ite
theorem x_ret : RW (sRet m1 env S) P = RW (m1 env S) fun d S1 => P (.rt d) S1 := by
  unfold sRet
  (first | rw [RW_bind] | rw [RW_bindN])
  rfl
theorem x_retN : RW (sRetN env S) P = P (.rt .non) S := nr rfl
theorem x_drop : RW (sDrop m1 env S) P = RW (m1 env S) fun _ S1 => P (.nx env) S1 := by
  unfold sDrop
  (first | rw [RW_bind] | rw [RW_bindN])
  rfl
theorem x_brk : RW (sBrk env S) P = P (.bk env) S := nr rfl
theorem x_cnt : RW (sCnt env S) P = P (.ct env) S := nr rfl
theorem x_set : RW (sSet i m1 env S) P = RW (m1 env S) fun d S1 => if i < env.length then P (.nx (env.set i (some d))) S1 else False := by
  unfold sSet
  (first | rw [RW_bind] | rw [RW_bindN])
  refine RW_ext fun d S1 => ?_
  exact RW_ite
theorem x_for {g : MG} : RW (sFor mi g s1 env S) P = RW (mi env S) fun items S1 => RW (loopF g s1 items env S1) P := by
  unfold sFor
  (first | rw [RW_bind] | rw [RW_bindN])
theorem x_par : RW (sPar i j as env S) P = RW (as env S) fun ds S1 => match ds with
  | [a, b] => if i < env.length ∧ j < env.length then P (.nx ((env.set i (some a)).set j (some b))) S1 else False
  | _ => False := by
  unfold sPar
  (first | rw [RW_bind] | rw [RW_bindN])
  refine RW_ext fun ds S1 => ?_
  cases ds with
  | nil => rfl
  | cons a ds =>
    cases ds with
    | nil => rfl
    | cons b ds =>
      cases ds with
      | nil => exact RW_ite
      | cons c ds => rfl
theorem x_asg {g : MG} : RW (sAsg m1 g env S) P = RW (m1 env S) fun d S1 => OW (g d env) fun e => P (.nx e) S1 := by
  unfold sAsg
  (first | rw [RW_bind] | rw [RW_bindN])
  refine RW_ext fun d S1 => ?_
  cases g d env <;> rfl
theorem x_mut {f : List D → List D → Option (List D)} : RW (sMut i f as env S) P = if isLs i env S = true then RW (as env S) fun ds S1 => OW (mutE i (fun xs => f xs ds) env S1) fun p => P (.nx p.1) p.2 else False := by
  unfold sMut
  rw [RW_ite]
  congr 1
  (first | rw [RW_bind] | rw [RW_bindN])
  refine RW_ext fun ds S1 => ?_
  cases mutE i (fun xs => f xs ds) env S1 <;> rfl
theorem x_put : RW (sPut i mb m1 env S) P = RW (m1 env S) fun d S1 => OW (mb env S1) fun k => match k with
  | .int k => OW (mutE i (fun xs => wSet xs [.int k, d]) env S1) fun p => P (.nx p.1) p.2
  | _ => False := by
  unfold sPut
  (first | rw [RW_bind] | rw [RW_bindN])
  refine RW_ext fun d S1 => ?_
  cases mb env S1 with
  | none => rfl
  | some k =>
    cases k <;> try rfl
    rename_i k
    simp only [OW_some]
    cases mutE i (fun xs => wSet xs [.int k, d]) env S1 <;> rfl
theorem x_mut1 {f : List D → List D → Option (List D)} : RW (sMut1 i f ma mb env S) P = OW (ma env S) fun k => OW (mb env S) fun d => match k with
  | .int k => if d.isF = true then OW (mut1E i k (fun xs => f xs [d]) env) fun e => P (.nx e) S else False
  | _ => False := by
  unfold sMut1
  cases ma env S <;> cases mb env S <;> try rfl
  · rename_i k
    cases k <;> rfl
  rename_i k d
  cases k <;> try rfl
  rename_i k
  simp only [OW_some]
  split
  · cases mut1E i k (fun xs => f xs [d]) env <;> rfl
  · rfl
theorem x_fgt : RW (sForget i s1 env S) P = RW (s1 (env.set i none) S) P := nr rfl
theorem x_fz : RW (sFreeze i s1 env S) P = RW (s1 (fzE i env) S) P := by
  unfold sFreeze
  exact congrArg (fun e => RW (s1 e S) P) (fzE_eq i env)
theorem x_dput : RW (sDPutM i mb m1 env S) P = RW (m1 env S) fun d S1 => OW (slot i env) fun x => OW (mb env S1) fun kd => match x with
  | .dct true ks vs => OW (keyD kd) fun k => if isFs vs = true ∧ d.isF = true ∧ ks.length < 16777216 then P (.nx (env.set i (some (.dct true (putD ks vs k d).1 (putD ks vs k d).2)))) S1 else False
  | _ => False := by
  unfold sDPutM
  (first | rw [RW_bind] | rw [RW_bindN])
  refine RW_ext fun d S1 => ?_
  unfold slot OW
  cases (env[i]?).join with
  | none => rfl
  | some x =>
    cases mb env S1 with
    | none => cases x <;> try rfl
              rename_i o _ _
              cases o <;> rfl
    | some kd =>
      cases x <;> try rfl
      rename_i o ks vs
      cases o
      · rfl
      · simp only
        cases keyD kd with
        | none => rfl
        | some k => exact RW_ite
theorem x_appPop : RW (sAppPop i j m1 env S) P = RW (m1 env S) fun k S1 => OW (slot i env) fun a => OW (slot j env) fun b => match k, a, b with
  | .int k, .lst true ds, .lst true es => if i = j ∨ ¬ ds.length < 16777216 ∨ ¬ es.length ≤ 16777216 then False else OW (ixN es.length k) fun m => OW es[m]? fun d => P (.nx ((env.set j (some (.lst true (es.eraseIdx m)))).set i (some (.lst true (ds ++ [d]))))) S1
  | _, _, _ => False := by
  unfold sAppPop
  (first | rw [RW_bind] | rw [RW_bindN])
  refine RW_ext fun k S1 => ?_
  unfold slot
  cases (env[i]?).join with
  | none => cases k <;> rfl
  | some a =>
    cases (env[j]?).join with
    | none => cases k <;> cases a <;> try rfl
              rename_i o _
              cases o <;> rfl
    | some b =>
      simp only [OW_some]
      cases k <;> try rfl
      cases a <;> try rfl
      rename_i o ds
      cases o <;> try rfl
      cases b <;> try rfl
      rename_i o es
      cases o <;> try rfl
      rename_i k
      simp only
      rw [RW_ite]
      congr 1
      cases ixN es.length k with
      | none => rfl
      | some m =>
        simp only [OW_some]
        cases es[m]? <;> rfl
end
end Z
structure Bx (p : Prop) : Prop where
  get : p
theorem Bx_eq {p : Prop} : Bx p = p := propext ⟨Bx.get, Bx.mk⟩
def RW {a : Type} (r : R a) (Q : a → Sto → Prop) (t : Tk Q := ⟨⟩) : Prop := Bx (Z.RW r Q)
def OW {a : Type} (o : Option a) (k : a → Prop) (t : Tk k := ⟨⟩) : Prop := Bx (Z.OW o k)
def blW (d : D) (k : Bool → Prop) (t : Tk k := ⟨⟩) : Prop := Bx (Z.blW d k)
def intW (d : D) (k : Int → Prop) (t : Tk k := ⟨⟩) : Prop := Bx (Z.intW d k)
theorem RW_def {a : Type} {r : R a} {Q : a → Sto → Prop} : RW r Q = Z.RW r Q := Bx_eq
theorem OW_def {a : Type} {o : Option a} {k : a → Prop} : OW o k = Z.OW o k := Bx_eq
theorem blW_def {d : D} {k : Bool → Prop} : blW d k = Z.blW d k := Bx_eq
theorem intW_def {d : D} {k : Int → Prop} : intW d k = Z.intW d k := Bx_eq
def flR (Q : D → Sto → Prop) : Fl → Sto → Prop := fun fl S => match fl with
  | .rt d => Q d.frz S
  | .nx _ => Q .non S
  | .bk _ => False
  | .ct _ => False
theorem flR_def {Q : D → Sto → Prop} : flR Q = Z.flR Q := by funext fl S; cases fl <;> rfl
def seqQ (m2 : MS) (P : Fl → Sto → Prop) : Fl → Sto → Prop := fun fl S => match fl with
  | .nx e => RW (m2 e S) P
  | .rt d => P (.rt d) S
  | .bk e => P (.bk e) S
  | .ct e => P (.ct e) S
theorem seqQ_def {m2 : MS} {P : Fl → Sto → Prop} : seqQ m2 P = Z.seqQ m2 P := by
  funext fl S
  cases fl <;> try rfl
  exact RW_def
def lcQ (g : MG) (mt : MT) (me : ME) (env : Env) (Q : D → Sto → Prop) : List D → Sto → Prop := fun items S1 => if items.length ≤ 16777216 then RW (loopC g mt me env items S1) (fun ys S2 => Q (.lst true ys) S2) else False
theorem lcQ_def {g : MG} {mt : MT} {me : ME} {env : Env} {Q : D → Sto → Prop} : lcQ g mt me env Q = Z.lcQ g mt me env Q := by
  funext items S
  unfold lcQ Z.lcQ
  rw [RW_def]
theorem RW.ex {a : Type} {r : R a} {Q : a → Sto → Prop} (h : RW r Q) : ∃ x S', r = .ok x S' ∧ Q x S' := by
  rw [RW_def] at h
  exact h.ex
theorem RW.of {a : Type} {r : R a} {x : a} {S : Sto} {Q : a → Sto → Prop} (h : r = .ok x S) (q : Q x S) : RW r Q := by
  rw [RW_def]
  exact Z.RW.of h q
theorem RW.mono {a : Type} {r : R a} {Q Q' : a → Sto → Prop} (h : RW r Q) (k : ∀ x S, Q x S → Q' x S) : RW r Q' := by
  obtain ⟨x, S, e, q⟩ := h.ex
  exact .of e (k x S q)
theorem RW.eq {a : Type} {r : R a} {v : a} {S : Sto} (h : RW r (Is v S)) : r = .ok v S := by
  obtain ⟨x, S', e, rfl, rfl⟩ := h.ex
  exact e
theorem RW_ok {a : Type} {x : a} {S : Sto} {Q : a → Sto → Prop} : RW (.ok x S) Q = Q x S := by
  simp only [RW_def, OW_def, blW_def, intW_def, flR_def, seqQ_def, lcQ_def]
  exact Z.RW_ok
theorem RW_bind {a b : Type} {r : R a} {f : a → Sto → R b} {Q : b → Sto → Prop} : RW (r.bind f) Q = RW r fun x S' => RW (f x S') Q := by
  simp only [RW_def, OW_def, blW_def, intW_def, flR_def, seqQ_def, lcQ_def]
  exact Z.RW_bind
theorem RW_bindN {a b : Type} {r : R a} {f : a → Sto → R b} {Q : b → Sto → Prop} : RW (r.bindN f) Q = RW r fun x S' => RW (f x S') Q := by
  simp only [RW_def, OW_def, blW_def, intW_def, flR_def, seqQ_def, lcQ_def]
  exact Z.RW_bindN
theorem RW_ite {a : Type} {c : Prop} [Decidable c] {x y : R a} {Q : a → Sto → Prop} : RW (if c then x else y) Q = if c then RW x Q else RW y Q := by
  simp only [RW_def, OW_def, blW_def, intW_def, flR_def, seqQ_def, lcQ_def]
  exact Z.RW_ite
theorem RW_fn {N : Nat} {body : MS} {ds : List D} {S : Sto} {Q : D → Sto → Prop} : RW (fnOf N body ds S) Q = RW (body (ds.map some ++ List.replicate (N - ds.length) none) S) (flR Q) := by
  simp only [RW_def, OW_def, blW_def, intW_def, flR_def, seqQ_def, lcQ_def]
  exact Z.RW_fn
theorem flR_rt {Q : D → Sto → Prop} {d : D} {S : Sto} : flR Q (.rt d) S = Q d.frz S := by
  simp only [RW_def, OW_def, blW_def, intW_def, flR_def, seqQ_def, lcQ_def]
  exact Z.flR_rt
theorem flR_nx {Q : D → Sto → Prop} {e : Env} {S : Sto} : flR Q (.nx e) S = Q .non S := by
  simp only [RW_def, OW_def, blW_def, intW_def, flR_def, seqQ_def, lcQ_def]
  exact Z.flR_nx
theorem OW_some {a : Type} {x : a} {k : a → Prop} : OW (some x) k = k x := by
  simp only [RW_def, OW_def, blW_def, intW_def, flR_def, seqQ_def, lcQ_def]
  exact Z.OW_some
section
variable {S : Sto} {env : Env} {i j n : Nat} {f g : Sto → D → D → Option D} {ma mb mc : MB} {xa : MAB} {me m1 m2 m3 : ME} {as : MA} {t1 t2 : MT} {s1 s2 : MS} {mi : MI}
variable {Q : D → Sto → Prop}
theorem w_b : RW (eB ma env S) Q = OW (ma env S) fun d => if d.isF = true then Q d S else False := by
  simp only [RW_def, OW_def, blW_def, intW_def, flR_def, seqQ_def, lcQ_def]
  exact Z.w_b
theorem w_op : RW (eOp f m1 m2 env S) Q = RW (m1 env S) fun a S1 => RW (m2 env S1) fun b S2 => OW (f S2 a b) fun c => if c.isF = true then Q c S2 else False := by
  simp only [RW_def, OW_def, blW_def, intW_def, flR_def, seqQ_def, lcQ_def]
  exact Z.w_op
theorem w_opA : RW (eOpA f m1 m2 env S) Q = RW (m1 env S) fun a S1 => RW (m2 env S1) fun b S2 => OW (f S2 a b) fun c => Q c S2 := by
  simp only [RW_def, OW_def, blW_def, intW_def, flR_def, seqQ_def, lcQ_def]
  exact Z.w_opA
theorem w_opV : RW (eOpV f i m2 env S) Q = OW (slot i env) fun a => RW (m2 env S) fun b S2 => OW (f S2 a b) fun c => if c.isF = true then Q c S2 else False := by
  simp only [RW_def, OW_def, blW_def, intW_def, flR_def, seqQ_def, lcQ_def]
  exact Z.w_opV
theorem w_fn {h : Sto → List D → Option D} : RW (eFn h as env S) Q = RW (as env S) fun ds S1 => OW (h S1 ds) fun c => Q c S1 := by
  simp only [RW_def, OW_def, blW_def, intW_def, flR_def, seqQ_def, lcQ_def]
  exact Z.w_fn
theorem w_fnB {h : Sto → List D → Option D} : RW (eFnB h xa env S) Q = OW (xa env S) fun ds => OW (h S ds) fun c => Q c S := by
  simp only [RW_def, OW_def, blW_def, intW_def, flR_def, seqQ_def, lcQ_def]
  exact Z.w_fnB
theorem w_frz : RW (eFrz m1 env S) Q = RW (m1 env S) fun d S1 => Q d.frz S1 := by
  simp only [RW_def, OW_def, blW_def, intW_def, flR_def, seqQ_def, lcQ_def]
  exact Z.w_frz
theorem w_tup : RW (eTup as env S) Q = RW (as env S) fun ds S1 => if ds.length ≤ 16777216 then Q (.tup ds) S1 else False := by
  simp only [RW_def, OW_def, blW_def, intW_def, flR_def, seqQ_def, lcQ_def]
  exact Z.w_tup
theorem w_lst : RW (eLst as env S) Q = RW (as env S) fun ds S1 => if ds.length ≤ 16777216 then Q (.lst true ds) S1 else False := by
  simp only [RW_def, OW_def, blW_def, intW_def, flR_def, seqQ_def, lcQ_def]
  exact Z.w_lst
theorem w_dct : RW (eDct env S) Q = Q (.dct true [] []) S := by
  simp only [RW_def, OW_def, blW_def, intW_def, flR_def, seqQ_def, lcQ_def]
  exact Z.w_dct
theorem w_cell : RW (eCell m1 env S) Q = RW (m1 env S) fun d S1 => match d with
  | .lst true ds => Q (.ref S1.length) (S1 ++ [.lst true ds])
  | _ => False := by
  simp only [RW_def, OW_def, blW_def, intW_def, flR_def, seqQ_def, lcQ_def]
  exact Z.w_cell
theorem w_if : RW (eIf t1 m1 m2 env S) Q = RW (t1 env S) fun b S1 => if b = true then RW (m1 env S1) Q else RW (m2 env S1) Q := by
  simp only [RW_def, OW_def, blW_def, intW_def, flR_def, seqQ_def, lcQ_def]
  exact Z.w_if
theorem w_sl {lo hi : Option MB} : RW (eSl ma lo hi env S) Q = OW (ma env S) fun d => OW (partD lo env S) fun l => OW (partD hi env S) fun u => OW (slD d l u) fun c => Q c S := by
  simp only [RW_def, OW_def, blW_def, intW_def, flR_def, seqQ_def, lcQ_def]
  exact Z.w_sl
theorem w_catS : RW (eCatS ma xa env S) Q = OW (ma env S) fun a => OW (xa env S) fun es => OW (N1.listOfD S a) fun ds => OW (scs es) fun _ => if isFs ds = true ∧ ds.length + es.length ≤ 16777216 then Q (.lst true (ds ++ es)) S else False := by
  simp only [RW_def, OW_def, blW_def, intW_def, flR_def, seqQ_def, lcQ_def]
  exact Z.w_catS
theorem w_call {f : Fn} : RW (eCall n f as env S) Q = RW (as env S) fun ds S1 => if ds.length = n then RW (f (frzs ds) S1) Q else False := by
  simp only [RW_def, OW_def, blW_def, intW_def, flR_def, seqQ_def, lcQ_def]
  exact Z.w_call
theorem w_callK {f : Fn} {is : List Nat} : RW (eCallK n f is as env S) Q = RW (as env S) fun ds S1 => if (permL is ds).length = n ∧ isFs ds = true then RW (f (permL is ds) S1) Q else False := by
  simp only [RW_def, OW_def, blW_def, intW_def, flR_def, seqQ_def, lcQ_def]
  exact Z.w_callK
theorem w_nil {Q : List D → Sto → Prop} : RW (aNil env S) Q = Q [] S := by
  simp only [RW_def, OW_def, blW_def, intW_def, flR_def, seqQ_def, lcQ_def]
  exact Z.w_nil
theorem w_cons {Q : List D → Sto → Prop} : RW (aCons m1 as env S) Q = RW (m1 env S) fun d S1 => RW (as env S1) fun ds S2 => Q (d :: ds) S2 := by
  simp only [RW_def, OW_def, blW_def, intW_def, flR_def, seqQ_def, lcQ_def]
  exact Z.w_cons
theorem blW_bl {b : Bool} {k : Bool → Prop} : blW (.bl b) k = k b := by
  simp only [RW_def, OW_def, blW_def, intW_def, flR_def, seqQ_def, lcQ_def]
  exact Z.blW_bl
theorem w_and : RW (eAnd m1 m2 env S) Q = RW (m1 env S) fun d S1 => blW d fun b => if b = true then RW (m2 env S1) Q else Q (.bl false) S1 := by
  simp only [RW_def, OW_def, blW_def, intW_def, flR_def, seqQ_def, lcQ_def]
  exact Z.w_and
theorem w_or : RW (eOr m1 m2 env S) Q = RW (m1 env S) fun d S1 => blW d fun b => if b = true then Q (.bl true) S1 else RW (m2 env S1) Q := by
  simp only [RW_def, OW_def, blW_def, intW_def, flR_def, seqQ_def, lcQ_def]
  exact Z.w_or
theorem w_not : RW (eNot m1 env S) Q = RW (m1 env S) fun d S1 => blW d fun b => Q (.bl (!b)) S1 := by
  simp only [RW_def, OW_def, blW_def, intW_def, flR_def, seqQ_def, lcQ_def]
  exact Z.w_not
theorem w_chain : RW (eChain f g m1 m2 m3 env S) Q = RW (m1 env S) fun a S1 => RW (m2 env S1) fun b S2 => OW (f S2 a b) fun k => blW k fun k => if k = true then RW (m3 env S2) fun c S3 => OW (g S3 b c) fun d => if d.isF = true then Q d S3 else False else Q (.bl false) S2 := by
  simp only [RW_def, OW_def, blW_def, intW_def, flR_def, seqQ_def, lcQ_def]
  exact Z.w_chain
theorem lcQ_map {α : Type} {h : α → D} {l : List α} {g : MG} (hl : l.length ≤ 16777216) : lcQ g t1 m1 env Q (l.map h) S = RW (loopC g t1 m1 env (l.map h) S) (fun ys S2 => Q (.lst true ys) S2) := by
  simp only [RW_def, OW_def, blW_def, intW_def, flR_def, seqQ_def, lcQ_def]
  exact Z.lcQ_map hl
theorem w_lc {vs : List Nat} {g : MG} : RW (eLc vs mi g t1 m1 env S) Q = if freeAt vs env = true then RW (mi env S) (lcQ g t1 m1 env Q) else False := by
  simp only [RW_def, OW_def, blW_def, intW_def, flR_def, seqQ_def, lcQ_def]
  exact Z.w_lc
theorem intW_i {b : Int} {k : Int → Prop} : intW (.int b) k = k b := by
  simp only [RW_def, OW_def, blW_def, intW_def, flR_def, seqQ_def, lcQ_def]
  exact Z.intW_i
theorem w_rg1 {mk : List D → D} : RW (eRg1 mk m1 env S) Q = RW (m1 env S) fun d S1 => intW d fun n => if rgOkB 0 n = true then Q (mk ((rgI 0 n).map D.int)) S1 else False := by
  simp only [RW_def, OW_def, blW_def, intW_def, flR_def, seqQ_def, lcQ_def]
  exact Z.w_rg1
theorem w_rg2 {mk : List D → D} : RW (eRg2 mk m1 m2 env S) Q = RW (m1 env S) fun c S1 => RW (m2 env S1) fun d S2 => intW c fun a => intW d fun b => if rgOkB a b = true then Q (mk ((rgI a b).map D.int)) S2 else False := by
  simp only [RW_def, OW_def, blW_def, intW_def, flR_def, seqQ_def, lcQ_def]
  exact Z.w_rg2
variable {B : Bool → Sto → Prop}
theorem w_tE : RW (tE m1 env S) B = RW (m1 env S) fun d S1 => blW d fun b => B b S1 := by
  simp only [RW_def, OW_def, blW_def, intW_def, flR_def, seqQ_def, lcQ_def]
  exact Z.w_tE
theorem w_tNot : RW (N1.tNot t1 env S) B = RW (t1 env S) fun b S1 => B (!b) S1 := by
  simp only [RW_def, OW_def, blW_def, intW_def, flR_def, seqQ_def, lcQ_def]
  exact Z.w_tNot
theorem w_tAnd : RW (N1.tAnd t1 t2 env S) B = RW (t1 env S) fun b S1 => if b = true then RW (t2 env S1) B else B false S1 := by
  simp only [RW_def, OW_def, blW_def, intW_def, flR_def, seqQ_def, lcQ_def]
  exact Z.w_tAnd
theorem w_tOr : RW (N1.tOr t1 t2 env S) B = RW (t1 env S) fun b S1 => if b = true then B true S1 else RW (t2 env S1) B := by
  simp only [RW_def, OW_def, blW_def, intW_def, flR_def, seqQ_def, lcQ_def]
  exact Z.w_tOr
theorem w_yes : RW (tYesM env S) B = B true S := by
  simp only [RW_def, OW_def, blW_def, intW_def, flR_def, seqQ_def, lcQ_def]
  exact Z.w_yes
variable {I : List D → Sto → Prop}
theorem w_seq : RW (iSeqM m1 env S) I = RW (m1 env S) fun d S1 => OW (seqOf d) fun ds => I ds S1 := by
  simp only [RW_def, OW_def, blW_def, intW_def, flR_def, seqQ_def, lcQ_def]
  exact Z.w_seq
theorem w_args {h : List D → Option (List D)} : RW (iArgs h as env S) I = RW (as env S) fun ds S1 => OW (h ds) fun items => I items S1 := by
  simp only [RW_def, OW_def, blW_def, intW_def, flR_def, seqQ_def, lcQ_def]
  exact Z.w_args
variable {P : Fl → Sto → Prop}
theorem q_nx : seqQ s2 P (.nx env) S = RW (s2 env S) P := by
  simp only [RW_def, OW_def, blW_def, intW_def, flR_def, seqQ_def, lcQ_def]
  exact Z.q_nx
theorem q_rt {d : D} : seqQ s2 P (.rt d) S = P (.rt d) S := by
  simp only [RW_def, OW_def, blW_def, intW_def, flR_def, seqQ_def, lcQ_def]
  exact Z.q_rt
theorem q_bk : seqQ s2 P (.bk env) S = P (.bk env) S := by
  simp only [RW_def, OW_def, blW_def, intW_def, flR_def, seqQ_def, lcQ_def]
  exact Z.q_bk
theorem q_ct : seqQ s2 P (.ct env) S = P (.ct env) S := by
  simp only [RW_def, OW_def, blW_def, intW_def, flR_def, seqQ_def, lcQ_def]
  exact Z.q_ct
theorem x_seq : RW (sSeq s1 s2 env S) P = RW (s1 env S) (seqQ s2 P) := by
  simp only [RW_def, OW_def, blW_def, intW_def, flR_def, seqQ_def, lcQ_def]
  exact Z.x_seq
theorem x_nil : RW (sNil env S) P = P (.nx env) S := by
  simp only [RW_def, OW_def, blW_def, intW_def, flR_def, seqQ_def, lcQ_def]
  exact Z.x_nil
theorem x_if : RW (sIf t1 s1 s2 env S) P = RW (t1 env S) fun b S1 => if b = true then RW (s1 env S1) P else RW (s2 env S1) P := by
  simp only [RW_def, OW_def, blW_def, intW_def, flR_def, seqQ_def, lcQ_def]
  exact Z.x_if
theorem x_ret : RW (sRet m1 env S) P = RW (m1 env S) fun d S1 => P (.rt d) S1 := by
  simp only [RW_def, OW_def, blW_def, intW_def, flR_def, seqQ_def, lcQ_def]
  exact Z.x_ret
theorem x_retN : RW (sRetN env S) P = P (.rt .non) S := by
  simp only [RW_def, OW_def, blW_def, intW_def, flR_def, seqQ_def, lcQ_def]
  exact Z.x_retN
theorem x_drop : RW (sDrop m1 env S) P = RW (m1 env S) fun _ S1 => P (.nx env) S1 := by
  simp only [RW_def, OW_def, blW_def, intW_def, flR_def, seqQ_def, lcQ_def]
  exact Z.x_drop
theorem x_brk : RW (sBrk env S) P = P (.bk env) S := by
  simp only [RW_def, OW_def, blW_def, intW_def, flR_def, seqQ_def, lcQ_def]
  exact Z.x_brk
theorem x_cnt : RW (sCnt env S) P = P (.ct env) S := by
  simp only [RW_def, OW_def, blW_def, intW_def, flR_def, seqQ_def, lcQ_def]
  exact Z.x_cnt
theorem x_set : RW (sSet i m1 env S) P = RW (m1 env S) fun d S1 => if i < env.length then P (.nx (env.set i (some d))) S1 else False := by
  simp only [RW_def, OW_def, blW_def, intW_def, flR_def, seqQ_def, lcQ_def]
  exact Z.x_set
theorem x_for {g : MG} : RW (sFor mi g s1 env S) P = RW (mi env S) fun items S1 => RW (loopF g s1 items env S1) P := by
  simp only [RW_def, OW_def, blW_def, intW_def, flR_def, seqQ_def, lcQ_def]
  exact Z.x_for
theorem x_par : RW (sPar i j as env S) P = RW (as env S) fun ds S1 => match ds with
  | [a, b] => if i < env.length ∧ j < env.length then P (.nx ((env.set i (some a)).set j (some b))) S1 else False
  | _ => False := by
  simp only [RW_def, OW_def, blW_def, intW_def, flR_def, seqQ_def, lcQ_def]
  exact Z.x_par
theorem x_asg {g : MG} : RW (sAsg m1 g env S) P = RW (m1 env S) fun d S1 => OW (g d env) fun e => P (.nx e) S1 := by
  simp only [RW_def, OW_def, blW_def, intW_def, flR_def, seqQ_def, lcQ_def]
  exact Z.x_asg
theorem x_mut {f : List D → List D → Option (List D)} : RW (sMut i f as env S) P = if isLs i env S = true then RW (as env S) fun ds S1 => OW (mutE i (fun xs => f xs ds) env S1) fun p => P (.nx p.1) p.2 else False := by
  simp only [RW_def, OW_def, blW_def, intW_def, flR_def, seqQ_def, lcQ_def]
  exact Z.x_mut
theorem x_put : RW (sPut i mb m1 env S) P = RW (m1 env S) fun d S1 => OW (mb env S1) fun k => match k with
  | .int k => OW (mutE i (fun xs => wSet xs [.int k, d]) env S1) fun p => P (.nx p.1) p.2
  | _ => False := by
  simp only [RW_def, OW_def, blW_def, intW_def, flR_def, seqQ_def, lcQ_def]
  exact Z.x_put
theorem x_mut1 {f : List D → List D → Option (List D)} : RW (sMut1 i f ma mb env S) P = OW (ma env S) fun k => OW (mb env S) fun d => match k with
  | .int k => if d.isF = true then OW (mut1E i k (fun xs => f xs [d]) env) fun e => P (.nx e) S else False
  | _ => False := by
  simp only [RW_def, OW_def, blW_def, intW_def, flR_def, seqQ_def, lcQ_def]
  exact Z.x_mut1
theorem x_fgt : RW (sForget i s1 env S) P = RW (s1 (env.set i none) S) P := by
  simp only [RW_def, OW_def, blW_def, intW_def, flR_def, seqQ_def, lcQ_def]
  exact Z.x_fgt
theorem x_fz : RW (sFreeze i s1 env S) P = RW (s1 (fzE i env) S) P := by
  simp only [RW_def, OW_def, blW_def, intW_def, flR_def, seqQ_def, lcQ_def]
  exact Z.x_fz
theorem x_dput : RW (sDPutM i mb m1 env S) P = RW (m1 env S) fun d S1 => OW (slot i env) fun x => OW (mb env S1) fun kd => match x with
  | .dct true ks vs => OW (keyD kd) fun k => if isFs vs = true ∧ d.isF = true ∧ ks.length < 16777216 then P (.nx (env.set i (some (.dct true (putD ks vs k d).1 (putD ks vs k d).2)))) S1 else False
  | _ => False := by
  simp only [RW_def, OW_def, blW_def, intW_def, flR_def, seqQ_def, lcQ_def]
  exact Z.x_dput
theorem x_appPop : RW (sAppPop i j m1 env S) P = RW (m1 env S) fun k S1 => OW (slot i env) fun a => OW (slot j env) fun b => match k, a, b with
  | .int k, .lst true ds, .lst true es => if i = j ∨ ¬ ds.length < 16777216 ∨ ¬ es.length ≤ 16777216 then False else OW (ixN es.length k) fun m => OW es[m]? fun d => P (.nx ((env.set j (some (.lst true (es.eraseIdx m)))).set i (some (.lst true (ds ++ [d]))))) S1
  | _, _, _ => False := by
  simp only [RW_def, OW_def, blW_def, intW_def, flR_def, seqQ_def, lcQ_def]
  exact Z.x_appPop
end
theorem RW.lc {α β : Type} {xs : List α} {f : α → D} {g : MG} {mt : MT} {me : ME} {env : Env} {S : Sto} {Q : List D → Sto → Prop} (p : α → Bool) (h : α → β) (k : β → D) {up : α → Env}
    (hg : ∀ x, g (f x) env = some (up x)) (ht : ∀ x ∈ xs, RW (mt (up x) S) (Is (p x) S)) (he : ∀ x ∈ xs, p x = true → RW (me (up x) S) (Is (k (h x)) S)) (hq : Q (((xs.filter p).map h).map k) S) : RW (loopC g mt me env (xs.map f) S) Q := by
  refine RW.of ?_ hq
  clear hq
  induction xs with
  | nil => rfl
  | cons x xs ih =>
    have ih := ih (fun y hy => ht y (List.mem_cons_of_mem _ hy)) (fun y hy => he y (List.mem_cons_of_mem _ hy))
    have h2 := (ht x List.mem_cons_self).eq
    rw [List.map_cons]
    unfold loopC
    rw [hg x]
    cases hp : p x with
    | true =>
      have h3 := (he x List.mem_cons_self hp).eq
      simp only [h2, R.bind, R.bindN, hp, if_true, h3, ih, List.filter_cons, List.map_cons]
    | false =>
      simp only [h2, R.bind, R.bindN, hp, Bool.false_eq_true, if_false, ih, List.filter_cons]
theorem filter_yes {α : Type} {l : List α} : l.filter (fun _ => true) = l := by
  induction l with
  | nil => rfl
  | cons a l ih => rw [List.filter_cons, if_pos rfl, ih]
/-- [e for x in xs] -/
theorem RW.lcm {α β : Type} {xs : List α} {f : α → D} {g : MG} {me : ME} {env : Env} {S : Sto} {Q : List D → Sto → Prop} (h : α → β) (k : β → D) {up : α → Env}
    (hg : ∀ x, g (f x) env = some (up x)) (he : ∀ x ∈ xs, RW (me (up x) S) (Is (k (h x)) S)) (hq : Q ((xs.map h).map k) S) : RW (loopC g tYesM me env (xs.map f) S) Q :=
  RW.lc (fun _ => true) h k hg (fun x _ => ⟨rfl, rfl⟩) (fun x hx _ => he x hx) (by rw [filter_yes]; exact hq)
/-- [x for x in xs if c] -/
theorem RW.lcf {α : Type} {xs : List α} {f : α → D} {g : MG} {mt : MT} {me : ME} {env : Env} {S : Sto} {Q : List D → Sto → Prop} (p : α → Bool) {up : α → Env}
    (hg : ∀ x, g (f x) env = some (up x)) (ht : ∀ x ∈ xs, RW (mt (up x) S) (Is (p x) S)) (he : ∀ x ∈ xs, p x = true → RW (me (up x) S) (Is (f x) S)) (hq : Q ((xs.filter p).map f) S) : RW (loopC g mt me env (xs.map f) S) Q :=
  RW.lc p id f hg ht he (by rw [List.map_id]; exact hq)
/-- what a loop's turn leaves -/
def turnQ (J : Env → Sto → Prop) (Q : Fl → Sto → Prop) : Fl → Sto → Prop := fun fl S => match fl with
  | .nx e => J e S
  | .ct e => J e S
  | .bk e => Q (.nx e) S
  | .rt d => Q (.rt d) S
theorem turn_nx {J : Env → Sto → Prop} {Q : Fl → Sto → Prop} {e : Env} {S : Sto} : turnQ J Q (.nx e) S = J e S := nr rfl
theorem turn_ct {J : Env → Sto → Prop} {Q : Fl → Sto → Prop} {e : Env} {S : Sto} : turnQ J Q (.ct e) S = J e S := nr rfl
theorem turn_bk {J : Env → Sto → Prop} {Q : Fl → Sto → Prop} {e : Env} {S : Sto} : turnQ J Q (.bk e) S = Q (.nx e) S := nr rfl
theorem turn_rt {J : Env → Sto → Prop} {Q : Fl → Sto → Prop} {d : D} {S : Sto} : turnQ J Q (.rt d) S = Q (.rt d) S := nr rfl
theorem RW.forI {α : Type} {xs : List α} {f : α → D} {g : MG} {body : MS} {Q : Fl → Sto → Prop} (I : List α → Env → Sto → Prop) {env : Env} {S : Sto} (h0 : I [] env S)
    (hs : ∀ (d : List α) (x : α) (r : List α) (e : Env) (T : Sto), xs = d ++ x :: r → I d e T → ∃ e1, g (f x) e = some e1 ∧ RW (body e1 T) (turnQ (I (d ++ [x])) Q)) (hq : ∀ e T, I xs e T → Q (.nx e) T) : RW (loopF g body (xs.map f) env S) Q := by
  suffices k : ∀ (r d : List α) (e : Env) (T : Sto), xs = d ++ r → I d e T → RW (loopF g body (r.map f) e T) Q from k xs [] env S rfl h0
  intro r
  induction r with
  | nil =>
    intro d e T hx h
    rw [List.append_nil] at hx
    subst hx
    exact .of rfl (hq e T h)
  | cons x r ih =>
    intro d e T hx h
    obtain ⟨e1, hg, hb⟩ := hs d x r e T hx h
    rw [List.map_cons]
    unfold loopF
    simp only [hg]
    (first | rw [RW_bind] | rw [RW_bindN])
    refine hb.mono fun fl T1 q => ?_
    cases fl with
    | nx e2 => exact ih (d ++ [x]) e2 T1 (by rw [hx, List.append_assoc]; rfl) q
    | ct e2 => exact ih (d ++ [x]) e2 T1 (by rw [hx, List.append_assoc]; rfl) q
    | bk e2 => exact .of rfl q
    | rt z => exact .of rfl q
theorem RW.lcD {α : Type} {xs : List α} {f : α → D} {g : MG} {mt : MT} {me : ME} {env : Env} {Q : List D → Sto → Prop} (I : List α → List D → Sto → Prop) {S : Sto} (h0 : I [] [] S)
    (hs : ∀ (d : List α) (x : α) (r : List α) (zs : List D) (T : Sto), xs = d ++ x :: r → I d zs T → ∃ e1, g (f x) env = some e1 ∧ RW (mt e1 T) fun b T1 => if b = true then RW (me e1 T1) fun y T2 => I (d ++ [x]) (zs ++ [y]) T2 else I (d ++ [x]) zs T1)
    (hq : ∀ zs T, I xs zs T → Q zs T) : RW (loopC g mt me env (xs.map f) S) Q := by
  suffices k : ∀ (r d : List α) (zs : List D) (T : Sto), xs = d ++ r → I d zs T → RW (loopC g mt me env (r.map f) T) fun ws T' => I xs (zs ++ ws) T' from (k xs [] [] S rfl h0).mono fun ws T h => hq ws T (by simpa using h)
  intro r
  induction r with
  | nil =>
    intro d zs T hx h
    rw [List.append_nil] at hx
    subst hx
    refine .of rfl ?_
    rwa [List.append_nil]
  | cons x r ih =>
    intro d zs T hx h
    obtain ⟨e1, hg, hb⟩ := hs d x r zs T hx h
    rw [List.map_cons]
    unfold loopC
    simp only [hg]
    (first | rw [RW_bind] | rw [RW_bindN])
    refine hb.mono fun b T1 q => ?_
    cases b with
    | true =>
      simp only [if_true] at q ⊢
      (first | rw [RW_bind] | rw [RW_bindN])
      refine q.mono fun y T2 q => ?_
      (first | rw [RW_bind] | rw [RW_bindN])
      refine (ih (d ++ [x]) (zs ++ [y]) T2 (by rw [hx, List.append_assoc]; rfl) q).mono fun ws T3 q => ?_
      refine .of rfl ?_
      show I xs (zs ++ (y :: ws)) T3
      rwa [List.append_assoc] at q
    | false =>
      simp only [Bool.false_eq_true, if_false] at q ⊢
      exact ih (d ++ [x]) zs T1 (by rw [hx, List.append_assoc]; rfl) q
end N1
end
section
namespace N1
open PySem PySem.Spec PyProof.Rows L2
def sMutR (mo : MB) (f : List D → List D → Option (List D)) (ma : MA) : MS := fun env S => match mo env S with
  | some (.ref n) => match S[n]? with
    | some (.lst _ _) => (ma env S).bind fun as S1 => match S1[n]? with
      | some (.lst true ds) => match f ds as with
        | some ds' => .ok (.nx env) (S1.set n (.lst true ds'))
        | none => .bad
      | _ => .bad
    | _ => .bad
  | _ => .bad
def leastI : List Int → Int
  | [] => 0
  | [n] => n
  | n :: m :: ns => min n (leastI (m :: ns))
def fMin : Sto → List D → Option D := fun S ds => match ds with
  | [d] => match N1.listOfD S d with
    | some es => match intsOf es with
      | some [] => none
      | some (n :: ns) => some (.int (leastI (n :: ns)))
      | none => none
    | none => none
  | _ => none
end N1
end
section
namespace N1
open PySem PySem.Spec PyProof.Rows L2
/-- ascending, each number once -/
def insU (n : Int) : List Int → List Int
  | [] => [n]
  | m :: ms => if n < m then n :: m :: ms else if n = m then m :: ms else m :: insU n ms
def sortU : List Int → List Int
  | [] => []
  | n :: ns => insU n (sortU ns)
/-- sorted(set(x)) -/
def eSortSet (m : ME) : ME := fun env S => (m env S).bind fun d S1 => match itemsOf S1 d with
  | some es => match intsOf es with
    | some ns => if ns.length < 64 then .ok (.lst true ((sortU ns).map D.int)) S1 else .bad
    | none => .bad
  | none => .bad
end N1
end
section
namespace N1
open PySem PySem.Spec PyProof.Rows L2
section
variable {prog : Program} {w : World} {A : Around} {E : Value → Shared → Prop} {s : Shared}
theorem fm_congr {α β : Type} {f g : α → Option β} : ∀ {l : List α}, (∀ x ∈ l, f x = g x) → l.filterMap f = l.filterMap g
  | [], _ => rfl
  | x :: l, h => by rw [List.filterMap_cons, List.filterMap_cons, h x List.mem_cons_self, fm_congr fun y hy => h y (List.mem_cons_of_mem _ hy)]
theorem turned (xs : Array Value) : ((List.range xs.size).filterMap fun (k : Nat) => xs[((xs.size : Int) - 1 + (k : Int) * -1).toNat]?) = xs.toList.reverse := by
  apply List.ext_getElem?
  intro i
  have e : ((List.range xs.size).filterMap fun (k : Nat) => xs[((xs.size : Int) - 1 + (k : Int) * -1).toNat]?) = (List.range xs.size).map fun k => xs.getD (xs.size - 1 - k) default := by
    rw [← List.filterMap_eq_map]
    apply fm_congr
    intro k hk
    have hk := List.mem_range.mp hk
    have h1 : ((xs.size : Int) - 1 + (k : Int) * -1).toNat = xs.size - 1 - k := by omega
    have h2 : xs.size - 1 - k < xs.size := by omega
    rw [h1, Array.getElem?_eq_getElem h2]
    show some xs[xs.size - 1 - k] = some (xs.getD (xs.size - 1 - k) default)
    rw [Array.getD_eq_getD_getElem?, Array.getElem?_eq_getElem h2]
    rfl
  rw [e]
  by_cases hi : i < xs.size
  · have h2 : xs.size - 1 - i < xs.size := by omega
    rw [List.getElem?_map, List.getElem?_range hi, List.getElem?_reverse (by simpa using hi)]
    simp only [Option.map_some, Array.length_toList, Array.getElem?_toList]
    rw [Array.getD_eq_getD_getElem?, Array.getElem?_eq_getElem h2]
    rfl
  · rw [List.getElem?_eq_none (by simp; omega), List.getElem?_eq_none (by simp; omega)]
end
/-- x[::-1], x a tuple or a list -/
def backD : D → Option D
  | .tup ds => if isFs ds = true ∧ ds.length ≤ 16777216 then some (.tup ds.reverse) else none
  | _ => none
def eBack (m : MB) : ME := fun env S => match m env S with
  | some d => match backD d with
    | some c => .ok c S
    | none => .bad
  | none => .bad
end N1
end
section
namespace N1
open PySem PySem.Spec PyProof.Rows L2
def fSortT : Sto → List D → Option D := fun _ ds => match ds with
  | [.tup es] => (intsOf es).map fun ns => .lst true ((sortI ns).map D.int)
  | _ => none
end N1
end
section
namespace N1
open PySem PySem.Spec PyProof.Rows L2
def loopIn (g1 : MG) (mt1 : MT) (me : ME) (env : Env) : List D → List D → Sto → R (List D)
  | [], acc, S => .ok acc S
  | d :: ds, acc, S => match g1 d env with
    | none => .bad
    | some e2 => (mt1 e2 S).bind fun b S1 => if b = true then (me e2 S1).bind fun y S2 => if acc.length < 16777216 then loopIn g1 mt1 me env ds (acc ++ [y]) S2 else .bad
      else loopIn g1 mt1 me env ds acc S1
def loopOut (g : MG) (mt : MT) (vs1 : List Nat) (mi1 : MI) (g1 : MG) (mt1 : MT) (me : ME) (env : Env) : List D → List D → Sto → R (List D)
  | [], acc, S => .ok acc S
  | d :: ds, acc, S => match g d env with
    | none => .bad
    | some e1 => (mt e1 S).bind fun b S1 => if b = true then if freeAt vs1 e1 = true then (mi1 e1 S1).bind fun items S2 => (loopIn g1 mt1 me e1 items acc S2).bind fun acc' S3 => loopOut g mt vs1 mi1 g1 mt1 me env ds acc' S3 else .bad
      else loopOut g mt vs1 mi1 g1 mt1 me env ds acc S1
def eLc2 (vs vs1 : List Nat) (mi : MI) (g : MG) (mt : MT) (mi1 : MI) (g1 : MG) (mt1 : MT) (me : ME) : ME := fun env S => if freeAt vs env = true then (mi env S).bind fun items S1 => (loopOut g mt vs1 mi1 g1 mt1 me env items [] S1).bindN fun ys S2 => .ok (.lst true ys) S2
  else .bad
section
variable {K : KT} {vs vs1 : List Nat} {mi mi1 : MI} {g g1 : MG} {mt mt1 : MT} {me : ME} {sl sl1 : List Nat}
/-- what is asked behind a list that is being made -/
def PostL (K : KT) (env : Env) (σ : L2.St) (tp : Env) (tv : List (Option V)) (Q : VK) : R (List D) → Prop
  | .ok ys S' => ∀ v H', Rel K S' env σ (some (.lst true ys) :: tp) (some v :: tv) H' → Q v H'
  | _ => False
theorem PostL.bind {env : Env} {σ : L2.St} {tp : Env} {tv : List (Option V)} {Q : VK} {r : R (List D)} {f : List D → Sto → R (List D)} (h : PostL K env σ tp tv Q (r.bind f)) : ∃ ys S, r = .ok ys S ∧ PostL K env σ tp tv Q (f ys S) := by
  cases r with
  | ok ys S => exact ⟨ys, S, rfl, h⟩
  | exn _ _ => exact h.elim
  | bad => exact h.elim
end
end N1
end
section
namespace N1
open PySem PySem.Spec PyProof.Rows L2
theorem OW_none {a : Type} {k : a → Prop} : OW none k = False := by rw [OW_def]; rfl
theorem RW_bad {a : Type} {Q : a → Sto → Prop} : RW .bad Q = False := by rw [RW_def]; rfl
theorem RW_ext {a : Type} {r : R a} {Q Q' : a → Sto → Prop} (h : ∀ x S, Q x S = Q' x S) : RW r Q = RW r Q' := by
  have : Q = Q' := by funext x S; exact h x S
  subst this
  rfl
def refW (d : D) (k : Nat → Prop) (t : Tk k := ⟨⟩) : Prop := Bx (match d with
  | .ref n => k n
  | _ => False)
theorem refW_r {n : Nat} {k : Nat → Prop} : refW (.ref n) k = k n := Bx_eq
def lstW (d : D) (k : Bool → List D → Prop) (t : Tk k := ⟨⟩) : Prop := Bx (match d with
  | .lst o ds => k o ds
  | _ => False)
theorem lstW_l {o : Bool} {ds : List D} {k : Bool → List D → Prop} : lstW (.lst o ds) k = k o ds := Bx_eq
theorem refW_no {d : D} {k : Nat → Prop} (h : ∀ n, d ≠ .ref n) : refW d k = False := by
  cases d <;> first | exact Bx_eq | exact absurd rfl (h _)
theorem lstW_no {d : D} {k : Bool → List D → Prop} (h : ∀ o ds, d ≠ .lst o ds) : lstW d k = False := by
  cases d <;> first | exact Bx_eq | exact absurd rfl (h _ _)
section
variable {S : Sto} {env : Env} {i j n : Nat} {mo : MB} {m1 : ME} {as : MA} {Q : D → Sto → Prop} {P : Fl → Sto → Prop} {f : List D → List D → Option (List D)}
theorem x_mutR : RW (sMutR mo f as env S) P = OW (mo env S) fun d => refW d fun n => OW S[n]? fun x => lstW x fun _ _ => RW (as env S) fun ds S1 => OW S1[n]? fun y => lstW y fun o xs => if o = true then OW (f xs ds) fun xs' => P (.nx env) (S1.set n (.lst true xs')) else False := by
  unfold sMutR
  cases mo env S with
  | none => rw [OW_none]; exact RW_bad
  | some d =>
    rw [OW_some]
    cases d with
    | ref n =>
      rw [refW_r]
      simp only
      cases S[n]? with
      | none => rw [OW_none]; exact RW_bad
      | some x =>
        rw [OW_some]
        cases x with
        | lst o ds =>
          rw [lstW_l]
          simp only
          (first | rw [RW_bind] | rw [RW_bindN])
          refine RW_ext fun zs S1 => ?_
          cases S1[n]? with
          | none => rw [OW_none]; exact RW_bad
          | some y =>
            rw [OW_some]
            cases y with
            | lst o xs =>
              rw [lstW_l]
              cases o with
              | false => simp only [Bool.false_eq_true, if_false]; exact RW_bad
              | true =>
                simp only [if_true]
                cases f xs zs with
                | none => rw [OW_none]; exact RW_bad
                | some xs' => rw [OW_some]; exact RW_ok
            | _ => rw [lstW_no (fun _ _ e => by cases e)]; exact RW_bad
        | _ => rw [lstW_no (fun _ _ e => by cases e)]; exact RW_bad
    | _ => rw [refW_no (fun _ e => by cases e)]; exact RW_bad
theorem w_sortSet : RW (eSortSet m1 env S) Q = RW (m1 env S) fun d S1 => OW (itemsOf S1 d) fun es => OW (intsOf es) fun ns => if ns.length < 64 then Q (.lst true ((sortU ns).map D.int)) S1 else False := by
  unfold eSortSet
  (first | rw [RW_bind] | rw [RW_bindN])
  refine RW_ext fun d S1 => ?_
  cases itemsOf S1 d with
  | none => rw [OW_none]; exact RW_bad
  | some es =>
    rw [OW_some]
    simp only
    cases intsOf es with
    | none => rw [OW_none]; exact RW_bad
    | some ns =>
      rw [OW_some]
      simp only
      rw [RW_ite, RW_ok, RW_bad]
theorem w_back : RW (eBack mo env S) Q = OW (mo env S) fun d => OW (backD d) fun c => Q c S := by
  unfold eBack
  cases mo env S with
  | none => rw [OW_none]; exact RW_bad
  | some d =>
    rw [OW_some]
    simp only
    cases backD d with
    | none => rw [OW_none]; exact RW_bad
    | some c => rw [OW_some]; exact RW_ok
end
theorem back_tup {ds : List D} : backD (.tup ds) = if isFs ds = true ∧ ds.length ≤ 16777216 then some (.tup ds.reverse) else none := nr rfl
theorem it_tup {S : Sto} {ds : List D} : itemsOf S (.tup ds) = some ds := nr rfl
theorem it_lst {S : Sto} {o : Bool} {ds : List D} : itemsOf S (.lst o ds) = some ds := nr rfl
theorem sortT_ints {S : Sto} {r : List Int} : fSortT S [.tup (r.map D.int)] = some (.lst true ((sortI r).map D.int)) := by
  unfold fSortT
  simp only [intsOf_map, Option.map_some]
theorem min_ints {S : Sto} {b : Bool} {r : List Int} (h : r ≠ []) : fMin S [.lst b (r.map D.int)] = some (.int (leastI r)) := by
  unfold fMin
  simp only [N1.listOfD, itemsOf, intsOf_map]
  cases r with
  | nil => exact absurd rfl h
  | cons x r => rfl
theorem w_lc2 {vs vs1 : List Nat} {mi mi1 : MI} {g g1 : MG} {mt mt1 : MT} {me : ME} {env : Env} {S : Sto} {Q : D → Sto → Prop} : RW (eLc2 vs vs1 mi g mt mi1 g1 mt1 me env S) Q = if freeAt vs env = true then RW (mi env S) fun items S1 => RW (loopOut g mt vs1 mi1 g1 mt1 me env items [] S1) fun ys S2 => Q (.lst true ys) S2 else False := by
  unfold eLc2
  rw [RW_ite, RW_bad]
  congr 1
  (first | rw [RW_bind] | rw [RW_bindN])
  refine RW_ext fun items S1 => ?_
  (first | rw [RW_bind] | rw [RW_bindN])
  exact RW_ext fun ys S2 => RW_ok
end N1
end
section
namespace N1
open PySem PySem.Spec PyProof.Rows L2
theorem map_cons' {α β : Type} (f : α → β) (a : α) (l : List α) : List.map f (a :: l) = f a :: List.map f l := nr rfl
theorem F_int {i : Int} : (D.int i).isF = true := nr rfl
theorem F_bl {b : Bool} : (D.bl b).isF = true := nr rfl
theorem F_non : D.non.isF = true := nr rfl
theorem F_str {x : Str} : (D.str x).isF = true := nr rfl
theorem F_ref {n : Nat} : (D.ref n).isF = true := nr rfl
theorem F_tup {ds : List D} : (D.tup ds).isF = isFs ds := by rw [D.isF]
theorem F_lst {ds : List D} : (D.lst false ds).isF = isFs ds := by rw [D.isF]; rfl
theorem F_dct {ks : List Key} {ds : List D} : (D.dct false ks ds).isF = isFs ds := by rw [D.isF]; rfl
theorem Fs_nil : isFs [] = true := nr rfl
theorem Fs_cons {d : D} {ds : List D} : isFs (d :: ds) = (d.isF && isFs ds) := by rw [isFs]
theorem Fs_app {as bs : List D} : isFs (as ++ bs) = (isFs as && isFs bs) := by rw [isFs_all, isFs_all, isFs_all, List.all_append]
theorem Fs_map {α : Type} {f : α → D} (h : ∀ x, (f x).isF = true) (l : List α) : isFs (l.map f) = true := by
  rw [isFs_all, List.all_eq_true]
  intro d hd
  obtain ⟨x, _, e⟩ := List.mem_map.mp hd
  rw [← e]
  exact h x
theorem Fs_ints {r : List Int} : isFs (r.map D.int) = true := isFs_ints r
theorem Fs_bls {r : List Bool} : isFs (r.map D.bl) = true := Fs_map (fun _ => rfl) r
theorem Fs_strs {r : List Str} : isFs (r.map D.str) = true := Fs_map (fun _ => rfl) r
theorem Fs_rows {t : List (List Int)} : isFs (t.map rowD) = true := isFs_rows t
theorem Fs_tabs {t : List (List (List Int))} : isFs (t.map tabD) = true := Fs_map (fun x => by unfold D.isF; exact isFs_rows x) t
theorem z_non : D.non.frz = .non := nr rfl
theorem z_bl {b : Bool} : (D.bl b).frz = .bl b := nr rfl
theorem z_int {i : Int} : (D.int i).frz = .int i := nr rfl
theorem z_str {x : Str} : (D.str x).frz = .str x := nr rfl
theorem z_ref {n : Nat} : (D.ref n).frz = .ref n := nr rfl
theorem z_tup {ds : List D} : (D.tup ds).frz = .tup (frzs ds) := by rw [D.frz]
theorem z_lst {b : Bool} {ds : List D} : (D.lst b ds).frz = .lst false (frzs ds) := by rw [D.frz]
theorem z_dct {b : Bool} {ks : List Key} {ds : List D} : (D.dct b ks ds).frz = .dct false ks (frzs ds) := by rw [D.frz]
theorem zs_nil : frzs [] = [] := nr rfl
theorem zs_cons {d : D} {ds : List D} : frzs (d :: ds) = d.frz :: frzs ds := by rw [frzs]
theorem zs_app {as bs : List D} : frzs (as ++ bs) = frzs as ++ frzs bs := by rw [frzs_map, frzs_map, frzs_map, List.map_append]
theorem zs_map {α : Type} {f : α → D} (h : ∀ x, (f x).frz = f x) (l : List α) : frzs (l.map f) = l.map f := by
  rw [frzs_map, List.map_map]
  exact List.map_congr_left fun x _ => h x
theorem zs_ints {r : List Int} : frzs (r.map D.int) = r.map D.int := frzs_ints r
theorem zs_bls {r : List Bool} : frzs (r.map D.bl) = r.map D.bl := zs_map (fun _ => rfl) r
theorem zs_strs {r : List Str} : frzs (r.map D.str) = r.map D.str := zs_map (fun _ => rfl) r
theorem zs_rows {t : List (List Int)} : frzs (t.map rowD) = t.map rowD := frzs_tab t
theorem zs_tabs {t : List (List (List Int))} : frzs (t.map tabD) = t.map tabD := zs_map (fun x => by rw [z_tup, zs_rows]) t
theorem len_tup {S : Sto} {ds : List D} : fLen S [.tup ds] = some (.int ds.length) := nr rfl
theorem len_lst {S : Sto} {b : Bool} {ds : List D} : fLen S [.lst b ds] = some (.int ds.length) := nr rfl
theorem all_bls {S : Sto} {b : Bool} {bs : List Bool} : fAll S [.lst b (bs.map D.bl)] = some (.bl (bs.all id)) := by
  unfold fAll
  simp only [N1.listOfD, itemsOf, blsOf_map, Option.map_some]
theorem any_bls {S : Sto} {b : Bool} {bs : List Bool} : fAny S [.lst b (bs.map D.bl)] = some (.bl (bs.any id)) := by
  unfold fAny
  simp only [N1.listOfD, itemsOf, blsOf_map, Option.map_some]
theorem sum_ints {S : Sto} {b : Bool} {r : List Int} : fSum S [.lst b (r.map D.int)] = some (.int r.sum) := by
  unfold fSum
  simp only [N1.listOfD, itemsOf, intsOf_map, Option.map_some]
theorem sort_ints {S : Sto} {b : Bool} {r : List Int} : fSort S [.lst b (r.map D.int)] = some (.lst true ((sortI r).map D.int)) := by
  unfold fSort
  simp only [N1.listOfD, itemsOf, intsOf_map, Option.map_some]
theorem tup_tup {S : Sto} {ds : List D} : fTup S [.tup ds] = if isFs ds = true then some (.tup ds) else none := nr rfl
theorem tup_lst {S : Sto} {b : Bool} {ds : List D} : fTup S [.lst b ds] = if isFs ds = true then some (.tup ds) else none := nr rfl
theorem lst_tup {S : Sto} {ds : List D} : fLst S [.tup ds] = if isFs ds = true then some (.lst true ds) else none := nr rfl
theorem lst_lst {S : Sto} {b : Bool} {ds : List D} : fLst S [.lst b ds] = if isFs ds = true then some (.lst true ds) else none := nr rfl
theorem at_map {α : Type} {f : α → D} {l : List α} {i : Int} (z : α) (h0 : 0 ≤ i) (h1 : i < l.length) : atI (l.map f) i = some (f (l.getD i.toNat z)) := by
  rw [atI_rows h0, List.getD_eq_getElem?_getD, List.getElem?_eq_getElem (by omega)]
  rfl
theorem ix_tup {S : Sto} {ds : List D} {i : Int} : ixD S (.tup ds) (.int i) = atI ds i := nr rfl
theorem ix_lst {S : Sto} {b : Bool} {ds : List D} {i : Int} : ixD S (.lst b ds) (.int i) = atI ds i := nr rfl
theorem at_ints {r : List Int} {i : Int} (h0 : 0 ≤ i) (h1 : i < r.length) : atI (r.map D.int) i = some (.int (r.getD i.toNat 0)) := at_map 0 h0 h1
theorem at_rows {t : List (List Int)} {i : Int} (h0 : 0 ≤ i) (h1 : i < t.length) : atI (t.map rowD) i = some (rowD (t.getD i.toNat [])) := at_map [] h0 h1
theorem add_i {S : Sto} {i j : Int} : fAddI S (.int i) (.int j) = some (.int (i + j)) := nr rfl
theorem sub_i {S : Sto} {i j : Int} : fSubI S (.int i) (.int j) = some (.int (i - j)) := nr rfl
theorem mul_i {S : Sto} {i j : Int} (h : mulOk i j = true) : fMulI S (.int i) (.int j) = some (.int (i * j)) := if_pos h
theorem mulOk_s {i j : Int} (h0 : -4611686018427387904 < i) (h1 : i < 4611686018427387904) : mulOk i j = true := mulOk_l (by unfold big; apply decide_eq_true; omega)
theorem mul_l {S : Sto} {i j : Int} (h0 : -4611686018427387904 < i) (h1 : i < 4611686018427387904) : fMulI S (.int i) (.int j) = some (.int (i * j)) := mul_i (mulOk_s h0 h1)
theorem mul_r {S : Sto} {i j : Int} (h0 : -4611686018427387904 < j) (h1 : j < 4611686018427387904) : fMulI S (.int i) (.int j) = some (.int (i * j)) := mul_i (mulOk_r (by unfold big; apply decide_eq_true; omega))
theorem div_i {S : Sto} {i j : Int} (h0 : 0 < j) (h1 : j < 1073741824) : fDivI S (.int i) (.int j) = some (.int (i / j)) := if_pos (decide_eq_true ⟨h0, h1⟩)
theorem mod_i {S : Sto} {i j : Int} (h0 : 0 < j) : fModI S (.int i) (.int j) = some (.int (i % j)) := if_pos (decide_eq_true h0)
theorem lt_i {S : Sto} {i j : Int} : fLtI S (.int i) (.int j) = some (.bl (decide (i < j))) := nr rfl
theorem le_i {S : Sto} {i j : Int} : fLeI S (.int i) (.int j) = some (.bl (decide (i ≤ j))) := nr rfl
theorem gt_i {S : Sto} {i j : Int} : fGtI S (.int i) (.int j) = some (.bl (decide (j < i))) := nr rfl
theorem ge_i {S : Sto} {i j : Int} : fGeI S (.int i) (.int j) = some (.bl (decide (j ≤ i))) := nr rfl
theorem enum_map {α : Type} (f : α → D) (l : List α) : enumD (l.map f) = l.zipIdx.map fun p => .tup [.int (p.2 : Nat), f p.1] := by
  unfold enumD
  rw [List.zipIdx_map, List.map_map]
  rfl
theorem zip_map {α β : Type} (f : α → D) (g : β → D) (l : List α) (m : List β) : zipD (l.map f) (m.map g) = (l.zip m).map fun p => .tup [f p.1, g p.2] := by
  unfold zipD
  rw [List.zip_map, List.map_map]
  rfl
theorem rng1_n {m : Nat} (h : m ≤ 16777216) : rngOf1 [.int (m : Nat)] = some ((List.range m).map fun i : Nat => D.int (i : Int)) := by
  unfold rngOf1
  have h1 : -(2 ^ 62 : Int) ≤ (m : Int) := by omega
  have h2 : (m : Int) < 2 ^ 62 := by omega
  simp only [h1, h2, and_self, if_true, Int.toNat_natCast, Int.zero_add]
theorem rng1_i {m : Int} (h0 : -4611686018427387904 ≤ m) (h : m ≤ 16777216) : rngOf1 [.int m] = some ((List.range m.toNat).map fun i : Nat => D.int (i : Int)) := by
  unfold rngOf1
  have h1 : -(2 ^ 62 : Int) ≤ m := by omega
  have h2 : m < 2 ^ 62 := by omega
  simp only [h1, h2, and_self, if_true, Int.zero_add]
theorem rng2_i {l m : Int} (l0 : -4611686018427387904 ≤ l) (l1 : l ≤ 16777216) (h0 : -4611686018427387904 ≤ m) (h : m ≤ 16777216) : rngOf2 [.int l, .int m] = some ((List.range (m - l).toNat).map fun i : Nat => D.int (l + (i : Int))) := by
  unfold rngOf2
  have h1 : -(2 ^ 62 : Int) ≤ m := by omega
  have h2 : m < 2 ^ 62 := by omega
  have h3 : -(2 ^ 62 : Int) ≤ l := by omega
  have h4 : l < 2 ^ 62 := by omega
  simp only [h1, h2, h3, h4, and_self, if_true]
theorem rgok {a b : Int} (h0 : -16777216 ≤ a) (h1 : a ≤ 16777216) (h2 : -16777216 ≤ b) (h3 : b ≤ 16777216) (h4 : b - a ≤ 16777216) : rgOkB a b = true := by
  unfold rgOkB
  apply decide_eq_true
  omega
theorem rgI_0 (n : Nat) : rgI 0 (n : Int) = (List.range n).map fun i : Nat => (i : Int) := by
  unfold rgI
  have : ((n : Int) - 0).toNat = n := by omega
  rw [this]
  exact List.map_congr_left fun i _ => by omega
theorem rgI_len {a b : Int} : (rgI a b).length = (b - a).toNat := by unfold rgI; rw [List.length_map, List.length_range]
theorem rgI_mem {a b x : Int} : x ∈ rgI a b ↔ a ≤ x ∧ x < b := by
  unfold rgI
  rw [List.mem_map]
  constructor
  · rintro ⟨k, hk, rfl⟩
    have := List.mem_range.mp hk
    omega
  · rintro ⟨h, k⟩
    exact ⟨(x - a).toNat, List.mem_range.mpr (by omega), by omega⟩
theorem ty_non {S : Sto}  : tyD S D.non = some "NoneType" := nr rfl
theorem ty_bl {S : Sto} {b : Bool} : tyD S (.bl b) = some "bool" := nr rfl
theorem ty_int {S : Sto} {i : Int} : tyD S (.int i) = some "int" := nr rfl
theorem ty_str {S : Sto} {x : Str} : tyD S (.str x) = some "str" := nr rfl
theorem ty_tup {S : Sto} {ds : List D} : tyD S (.tup ds) = some "tuple" := nr rfl
theorem ty_lst {S : Sto} {o : Bool} {ds : List D} : tyD S (.lst o ds) = some "list" := nr rfl
theorem ty_dct {S : Sto} {o : Bool} {ks : List Key} {ds : List D} : tyD S (.dct o ks ds) = some "dict" := nr rfl
theorem isT_non_int : isT "NoneType" "int" = false := nr (by decide +kernel)
theorem isT_non_bool : isT "NoneType" "bool" = false := nr (by decide +kernel)
theorem isT_non_str : isT "NoneType" "str" = false := nr (by decide +kernel)
theorem isT_non_tuple : isT "NoneType" "tuple" = false := nr (by decide +kernel)
theorem isT_non_list : isT "NoneType" "list" = false := nr (by decide +kernel)
theorem isT_non_dict : isT "NoneType" "dict" = false := nr (by decide +kernel)
theorem isT_bl_int : isT "bool" "int" = true := nr (by decide +kernel)
theorem isT_bl_bool : isT "bool" "bool" = true := nr (by decide +kernel)
theorem isT_bl_str : isT "bool" "str" = false := nr (by decide +kernel)
theorem isT_bl_tuple : isT "bool" "tuple" = false := nr (by decide +kernel)
theorem isT_bl_list : isT "bool" "list" = false := nr (by decide +kernel)
theorem isT_bl_dict : isT "bool" "dict" = false := nr (by decide +kernel)
theorem isT_int_int : isT "int" "int" = true := nr (by decide +kernel)
theorem isT_int_bool : isT "int" "bool" = false := nr (by decide +kernel)
theorem isT_int_str : isT "int" "str" = false := nr (by decide +kernel)
theorem isT_int_tuple : isT "int" "tuple" = false := nr (by decide +kernel)
theorem isT_int_list : isT "int" "list" = false := nr (by decide +kernel)
theorem isT_int_dict : isT "int" "dict" = false := nr (by decide +kernel)
theorem isT_str_int : isT "str" "int" = false := nr (by decide +kernel)
theorem isT_str_bool : isT "str" "bool" = false := nr (by decide +kernel)
theorem isT_str_str : isT "str" "str" = true := nr (by decide +kernel)
theorem isT_str_tuple : isT "str" "tuple" = false := nr (by decide +kernel)
theorem isT_str_list : isT "str" "list" = false := nr (by decide +kernel)
theorem isT_str_dict : isT "str" "dict" = false := nr (by decide +kernel)
theorem isT_tup_int : isT "tuple" "int" = false := nr (by decide +kernel)
theorem isT_tup_bool : isT "tuple" "bool" = false := nr (by decide +kernel)
theorem isT_tup_str : isT "tuple" "str" = false := nr (by decide +kernel)
theorem isT_tup_tuple : isT "tuple" "tuple" = true := nr (by decide +kernel)
theorem isT_tup_list : isT "tuple" "list" = false := nr (by decide +kernel)
theorem isT_tup_dict : isT "tuple" "dict" = false := nr (by decide +kernel)
theorem isT_lst_int : isT "list" "int" = false := nr (by decide +kernel)
theorem isT_lst_bool : isT "list" "bool" = false := nr (by decide +kernel)
theorem isT_lst_str : isT "list" "str" = false := nr (by decide +kernel)
theorem isT_lst_tuple : isT "list" "tuple" = false := nr (by decide +kernel)
theorem isT_lst_list : isT "list" "list" = true := nr (by decide +kernel)
theorem isT_lst_dict : isT "list" "dict" = false := nr (by decide +kernel)
theorem isT_dct_int : isT "dict" "int" = false := nr (by decide +kernel)
theorem isT_dct_bool : isT "dict" "bool" = false := nr (by decide +kernel)
theorem isT_dct_str : isT "dict" "str" = false := nr (by decide +kernel)
theorem isT_dct_tuple : isT "dict" "tuple" = false := nr (by decide +kernel)
theorem isT_dct_list : isT "dict" "list" = false := nr (by decide +kernel)
theorem isT_dct_dict : isT "dict" "dict" = true := nr (by decide +kernel)
theorem sl_tup {ds : List D} {l u : Option Int} : slD (.tup ds) l u = if isFs ds = true then some (.tup (cutG ds l u)) else none := nr rfl
theorem sl_lst {o : Bool} {ds : List D} {l u : Option Int} : slD (.lst o ds) l u = if isFs ds = true then some (.lst true (cutG ds l u)) else none := nr rfl
theorem cut_from {α : Type} {xs : List α} {k : Int} (h : 0 ≤ k) : cutG xs (some k) none = xs.drop k.toNat := by
  unfold cutG HT.sIx
  simp only [if_neg (show ¬ k < 0 by omega)]
  rw [List.take_of_length_le (by rw [List.length_drop]; omega)]
  by_cases h1 : k.toNat ≤ xs.length
  · rw [Nat.min_eq_left h1]
  · rw [Nat.min_eq_right (by omega), List.drop_length, List.drop_of_length_le (by omega)]
theorem cut_to {α : Type} {xs : List α} {k : Int} (h : 0 ≤ k) : cutG xs none (some k) = xs.take k.toNat := by
  unfold cutG HT.sIx
  simp only [if_neg (show ¬ k < 0 by omega), List.drop_zero, Nat.sub_zero]
  by_cases h1 : k.toNat ≤ xs.length
  · rw [Nat.min_eq_left h1]
  · rw [Nat.min_eq_right (by omega), List.take_length, List.take_of_length_le (by omega)]
theorem cut_m1 {α : Type} {xs : List α} : cutG xs none (some (-1)) = xs.dropLast := by
  unfold cutG HT.sIx
  simp only [show ((-1 : Int) < 0) from by omega, if_true, List.drop_zero, Nat.sub_zero, List.dropLast_eq_take]
  congr 1
  omega
theorem cut_l1 {α : Type} {xs : List α} : cutG xs (some (-1)) none = xs.drop (xs.length - 1) := by
  unfold cutG HT.sIx
  simp only [show ((-1 : Int) < 0) from by omega, if_true]
  rw [List.take_of_length_le (by rw [List.length_drop]; omega)]
  congr 1
  omega
theorem ite_t {α : Sort _} {c : Prop} [Decidable c] {a b : α} (h : c) : (if c then a else b) = a := if_pos h
theorem ite_f {α : Sort _} {c : Prop} [Decidable c] {a b : α} (h : ¬ c) : (if c then a else b) = b := if_neg h
theorem set_rows {u : List (List Int)} {i : Nat} {r : List Int} : (u.map rowD).set i (.tup (r.map D.int)) = (u.set i r).map rowD := by rw [List.map_set]
theorem app_rows {u : List (List Int)} {r : List Int} : u.map rowD ++ [.tup (r.map D.int)] = (u ++ [r]).map rowD := by rw [List.map_append]; rfl
theorem app_rows0 {u : List (List Int)} : u.map rowD ++ [.tup []] = (u ++ [[]]).map rowD := by rw [List.map_append]; rfl
theorem app_ints {r : List Int} {x : Int} : r.map D.int ++ [.int x] = (r ++ [x]).map D.int := by rw [List.map_append]; rfl
theorem app_bls {r : List Bool} {x : Bool} : r.map D.bl ++ [.bl x] = (r ++ [x]).map D.bl := by rw [List.map_append]; rfl
theorem app_map {α : Type} {f : α → D} {a b : List α} : a.map f ++ b.map f = (a ++ b).map f := by rw [List.map_append]
theorem rep_rows0 {S : Sto} {m : Nat} (h : m ≤ 16777216) : fRepL S (.lst true [.tup []]) (.int (m : Nat)) = some (.lst true ((List.replicate m ([] : List Int)).map rowD)) := by
  unfold fRepL
  have e : (List.replicate m [D.tup []]).flatten = (List.replicate m ([] : List Int)).map rowD := by
    clear h
    induction m with
    | zero => rfl
    | succ m ih => rw [List.replicate_succ, List.flatten_cons, ih, List.replicate_succ, List.map_cons]; rfl
  simp only [Int.toNat_natCast, e]
  rw [if_pos ⟨rfl, by omega, by omega, by simp; omega⟩]
theorem max_i {S : Sto} {i j : Int} : fMax2 S [.int i, .int j] = some (.int (if j > i then j else i)) := nr rfl
theorem min_i {S : Sto} {i j : Int} : fMin2 S [.int i, .int j] = some (.int (if j < i then j else i)) := nr rfl
theorem abs_i {S : Sto} {i : Int} : fAbs S [.int i] = some (.int (if i < 0 then -i else i)) := nr rfl
theorem neg_i {i : Int} : negD (.int i) = some (.int (-i)) := nr rfl
theorem int_i {S : Sto} {i : Int} : fInt S [.int i] = some (.int i) := nr rfl
theorem int_b {S : Sto} {b : Bool} : fInt S [.bl b] = some (.int (if b = true then 1 else 0)) := nr rfl
theorem isN_n {S : Sto} {d : D} : fIsN S d .non = some (.bl (isNon d)) := nr rfl
theorem notN_n {S : Sto} {d : D} : fNotN S d .non = some (.bl (!isNon d)) := nr rfl
theorem non_n : isNon .non = true := nr rfl
theorem non_i {i : Int} : isNon (.int i) = false := nr rfl
theorem non_t {ds : List D} : isNon (.tup ds) = false := nr rfl
theorem non_l {o : Bool} {ds : List D} : isNon (.lst o ds) = false := nr rfl
theorem non_b {b : Bool} : isNon (.bl b) = false := nr rfl
theorem if_le {α : Sort _} {n : Nat} {a b : α} (h : n ≤ 16777216) : (if n ≤ 16777216 then a else b) = a := if_pos h
theorem if_lt {α : Sort _} {n : Nat} {a b : α} (h : n < 16777216) : (if n < 16777216 then a else b) = a := if_pos h
class Typ {α : Type} [DecidableEq α] (f : α → D) (n : outParam Nat) : Prop where
  ex : ∃ P : α → PyData, (∀ x, toPy (f x) = some (P x)) ∧ (∀ x, (P x).canLay0 = true) ∧ (∀ x, (P x).depth ≤ n) ∧ ∀ x y, PyData.eqv (P x) (P y) = decide (x = y)
  F : ∀ x, (f x).isF = true
theorem dec_eq {α : Type} [DecidableEq α] [BEq α] [LawfulBEq α] {x y : α} : (x == y) = decide (x = y) := by
  by_cases h : x = y <;> simp [h]
instance : Typ D.int 0 := ⟨⟨PyData.int, fun x => rfl, fun x => by simp [PyData.canLay0], fun x => by simp [PyData.depth], fun x y => by simp [PyData.eqv, dec_eq]⟩, fun x => rfl⟩
instance : Typ D.bl 0 := ⟨⟨PyData.bool, fun x => rfl, fun x => by simp [PyData.canLay0], fun x => by simp [PyData.depth], fun x y => by simp [PyData.eqv, dec_eq]⟩, fun x => rfl⟩
theorem toPys_map {α : Type} {f : α → D} {P : α → PyData} (h : ∀ x, toPy (f x) = some (P x)) : ∀ l : List α, toPys (l.map f) = some (l.map P)
  | [] => rfl
  | x :: l => by
    rw [List.map_cons]
    unfold toPys
    rw [h x, toPys_map h l]
    rfl
theorem canAll_map {α : Type} {P : α → PyData} (h : ∀ x, (P x).canLay0 = true) : ∀ l : List α, PyData.canLayAll0 (l.map P) = true
  | [] => by simp [PyData.canLayAll0]
  | x :: l => by simp [PyData.canLayAll0, h x, canAll_map h l]
theorem depthAll_map {α : Type} {P : α → PyData} {n : Nat} (h : ∀ x, (P x).depth ≤ n) : ∀ l : List α, PyData.depthAll (l.map P) ≤ n
  | [] => by simp [PyData.depthAll]
  | x :: l => by
    have := depthAll_map h l
    have := h x
    simp only [List.map_cons, PyData.depthAll]
    omega
theorem eqvAll_map {α : Type} [DecidableEq α] {P : α → PyData} (h : ∀ x y, PyData.eqv (P x) (P y) = decide (x = y)) : ∀ l m : List α, PyData.eqvAll (l.map P) (m.map P) = decide (l = m)
  | [], [] => by simp [PyData.eqvAll]
  | [], _ :: _ => by simp [PyData.eqvAll]
  | _ :: _, [] => by simp [PyData.eqvAll]
  | x :: l, y :: m => by
    simp only [List.map_cons, PyData.eqvAll, h, eqvAll_map h l m, List.cons.injEq]
    by_cases e : x = y <;> by_cases k : l = m <;> simp [e, k]
theorem Typ.tup {α : Type} [DecidableEq α] {f : α → D} {n : Nat} [t : Typ f n] : Typ (fun l : List α => D.tup (l.map f)) (n + 1) := by
  obtain ⟨P, h1, h2, h3, h4⟩ := t.ex
  refine ⟨⟨fun l => .tuple (l.map P), fun l => ?_, fun l => ?_, fun l => ?_, fun l m => ?_⟩, fun l => ?_⟩
  · unfold toPy; rw [toPys_map h1]
  · simp only [PyData.canLay0]; exact canAll_map h2 l
  · have := depthAll_map h3 l; simp only [PyData.depth]; omega
  · simp only [PyData.eqv]; exact eqvAll_map h4 l m
  · rw [F_tup]; exact Fs_map t.F l
instance : Typ rowD 1 := Typ.tup
instance : Typ tabD 2 := Typ.tup (f := rowD)
theorem fEq_typ {α : Type} [DecidableEq α] {f : α → D} {n : Nat} [t : Typ f n] (hn : n ≤ 60) {S : Sto} {x y : α} : fEq S (f x) (f y) = some (.bl (decide (x = y))) := by
  obtain ⟨P, h1, h2, h3, h4⟩ := t.ex
  have hs : ∀ x, SeqAt.shaped (P x) = true := fun x => by
    unfold SeqAt.shaped
    rw [h2 x, decide_eq_true (by have := h3 x; omega)]
    rfl
  unfold fEq eqD
  simp only [h1, hs, and_self, if_true, h4, Option.map_some]
theorem fNe_typ {α : Type} [DecidableEq α] {f : α → D} {n : Nat} [t : Typ f n] (hn : n ≤ 60) {S : Sto} {x y : α} : fNe S (f x) (f y) = some (.bl (!decide (x = y))) := by
  have := fEq_typ (f := f) hn (S := S) (x := x) (y := y)
  unfold fEq at this
  unfold fNe
  cases h : eqD (f x) (f y) with
  | none => rw [h] at this; cases this
  | some k => rw [h] at this; simp only [Option.map_some, Option.some.injEq, D.bl.injEq] at this ⊢; rw [this]
theorem Typ.lst {α : Type} [DecidableEq α] {f : α → D} {n : Nat} [t : Typ f n] : Typ (fun l : List α => D.lst false (l.map f)) (n + 1) := by
  obtain ⟨P, h1, h2, h3, h4⟩ := t.ex
  refine ⟨⟨fun l => .list (l.map P), fun l => ?_, fun l => ?_, fun l => ?_, fun l m => ?_⟩, fun l => ?_⟩
  · unfold toPy; rw [toPys_map h1]
  · simp only [PyData.canLay0]; exact canAll_map h2 l
  · have := depthAll_map h3 l; simp only [PyData.depth]; omega
  · simp only [PyData.eqv]; exact eqvAll_map h4 l m
  · rw [F_lst]; exact Fs_map t.F l
theorem fEq_lst {α : Type} [DecidableEq α] {f : α → D} {n : Nat} [t : Typ f n] (hn : n < 60) {S : Sto} {a b : Bool} {x y : List α} : fEq S (.lst a (x.map f)) (.lst b (y.map f)) = some (.bl (decide (x = y))) :=
  (show fEq S (.lst a (x.map f)) (.lst b (y.map f)) = fEq S (.lst false (x.map f)) (.lst false (y.map f)) from rfl).trans (@fEq_typ _ _ _ _ (Typ.lst (f := f)) (by omega) S x y)
theorem fNe_lst {α : Type} [DecidableEq α] {f : α → D} {n : Nat} [t : Typ f n] (hn : n < 60) {S : Sto} {a b : Bool} {x y : List α} : fNe S (.lst a (x.map f)) (.lst b (y.map f)) = some (.bl (!decide (x = y))) :=
  (show fNe S (.lst a (x.map f)) (.lst b (y.map f)) = fNe S (.lst false (x.map f)) (.lst false (y.map f)) from rfl).trans (@fNe_typ _ _ _ _ (Typ.lst (f := f)) (by omega) S x y)
theorem fEq_tup {α : Type} [DecidableEq α] {f : α → D} {n : Nat} [t : Typ f n] (hn : n < 60) {S : Sto} {x y : List α} : fEq S (.tup (x.map f)) (.tup (y.map f)) = some (.bl (decide (x = y))) := @fEq_typ _ _ _ _ (Typ.tup (f := f)) (by omega) S x y
theorem fNe_tup {α : Type} [DecidableEq α] {f : α → D} {n : Nat} [t : Typ f n] (hn : n < 60) {S : Sto} {x y : List α} : fNe S (.tup (x.map f)) (.tup (y.map f)) = some (.bl (!decide (x = y))) := @fNe_typ _ _ _ _ (Typ.tup (f := f)) (by omega) S x y
theorem fEq_lst0 {α : Type} [DecidableEq α] {f : α → D} {n : Nat} [t : Typ f n] (hn : n < 60) {S : Sto} {a b : Bool} {x : List α} : fEq S (.lst a (x.map f)) (.lst b []) = some (.bl (decide (x = []))) := fEq_lst (y := []) hn
theorem fNe_lst0 {α : Type} [DecidableEq α] {f : α → D} {n : Nat} [t : Typ f n] (hn : n < 60) {S : Sto} {a b : Bool} {x : List α} : fNe S (.lst a (x.map f)) (.lst b []) = some (.bl (!decide (x = []))) := fNe_lst (y := []) hn
theorem fEq_tup0 {α : Type} [DecidableEq α] {f : α → D} {n : Nat} [t : Typ f n] (hn : n < 60) {S : Sto} {x : List α} : fEq S (.tup (x.map f)) (.tup []) = some (.bl (decide (x = []))) := fEq_tup (y := []) hn
theorem fNe_tup0 {α : Type} [DecidableEq α] {f : α → D} {n : Nat} [t : Typ f n] (hn : n < 60) {S : Sto} {x : List α} : fNe S (.tup (x.map f)) (.tup []) = some (.bl (!decide (x = []))) := fNe_tup (y := []) hn
theorem fEq_str {S : Sto} {x : Str} (h : PyData.strOk x = true) : fEq S (.str x) (.str x) = some (.bl true) := by
  unfold fEq eqD
  have hs : SeqAt.shaped (.str x) = true := by
    unfold SeqAt.shaped
    simp [PyData.canLay0, PyData.depth, h]
  simp only [toPy, hs, and_self, if_true, PyData.eqv, Option.map_some, beq_self_eq_true]
theorem inD_typ {α : Type} [DecidableEq α] {f : α → D} {n : Nat} [t : Typ f n] (hn : n < 60) {S : Sto} {x : α} {l : List α} {d : D} (hd : itemsOf S d = some (l.map f)) (hd2 : ∀ z, d ≠ .str z) : inD S (f x) d = some (decide (x ∈ l)) := by
  obtain ⟨P, h1, h2, h3, h4⟩ := t.ex
  have hs : SeqAt.shaped (P x) = true := by
    unfold SeqAt.shaped
    rw [h2 x, decide_eq_true (by have := h3 x; omega)]
    rfl
  have hs2 : SeqAt.shaped (.list (l.map P)) = true := by
    unfold SeqAt.shaped
    simp only [PyData.canLay0, PyData.depth, canAll_map h2 l, Bool.true_and]
    apply decide_eq_true
    have := depthAll_map h3 l
    omega
  have ha : ((l.map P).any fun z => PyData.eqv z (P x)) = decide (x ∈ l) := by
    clear hd hs2
    induction l with
    | nil => rfl
    | cons y l ih =>
      rw [List.map_cons, List.any_cons, h4, ih]
      by_cases e : y = x
      · simp [e]
      · simp [e, Ne.symm e]
  unfold inD
  split
  · rename_i z
    exact absurd rfl (hd2 z)
  · simp only [hd, h1, toPys_map h1, hs, hs2, and_self, if_true, ha]
theorem in_tup {α : Type} [DecidableEq α] {f : α → D} {n : Nat} [t : Typ f n] (hn : n < 60) {S : Sto} {x : α} {l : List α} : fIn S (f x) (.tup (l.map f)) = some (.bl (decide (x ∈ l))) := by
  unfold fIn
  rw [inD_typ hn (l := l) rfl (fun z e => by cases e)]
  simp
theorem in_lst {α : Type} [DecidableEq α] {f : α → D} {n : Nat} [t : Typ f n] (hn : n < 60) {S : Sto} {x : α} {b : Bool} {l : List α} : fIn S (f x) (.lst b (l.map f)) = some (.bl (decide (x ∈ l))) := by
  unfold fIn
  rw [inD_typ hn (l := l) rfl (fun z e => by cases e)]
  simp
theorem notIn_tup {α : Type} [DecidableEq α] {f : α → D} {n : Nat} [t : Typ f n] (hn : n < 60) {S : Sto} {x : α} {l : List α} : fNotIn S (f x) (.tup (l.map f)) = some (.bl (!decide (x ∈ l))) := by
  unfold fNotIn
  rw [inD_typ hn (l := l) rfl (fun z e => by cases e)]
  simp
theorem notIn_lst {α : Type} [DecidableEq α] {f : α → D} {n : Nat} [t : Typ f n] (hn : n < 60) {S : Sto} {x : α} {b : Bool} {l : List α} : fNotIn S (f x) (.lst b (l.map f)) = some (.bl (!decide (x ∈ l))) := by
  unfold fNotIn
  rw [inD_typ hn (l := l) rfl (fun z e => by cases e)]
  simp
theorem eq_i {S : Sto} {i j : Int} : fEq S (.int i) (.int j) = some (.bl (decide (i = j))) := fEq_typ (f := D.int) (by omega)
theorem ne_i {S : Sto} {i j : Int} : fNe S (.int i) (.int j) = some (.bl (!decide (i = j))) := fNe_typ (f := D.int) (by omega)
theorem eq_b {S : Sto} {i j : Bool} : fEq S (.bl i) (.bl j) = some (.bl (decide (i = j))) := fEq_typ (f := D.bl) (by omega)
theorem ne_b {S : Sto} {i j : Bool} : fNe S (.bl i) (.bl j) = some (.bl (!decide (i = j))) := fNe_typ (f := D.bl) (by omega)
theorem in_tup_i {S : Sto} {i : Int} {r : List Int} : fIn S (.int i) (.tup (r.map D.int)) = some (.bl (decide (i ∈ r))) := in_tup (f := D.int) (by omega)
theorem in_lst_i {S : Sto} {i : Int} {b : Bool} {r : List Int} : fIn S (.int i) (.lst b (r.map D.int)) = some (.bl (decide (i ∈ r))) := in_lst (f := D.int) (by omega)
theorem notIn_tup_i {S : Sto} {i : Int} {r : List Int} : fNotIn S (.int i) (.tup (r.map D.int)) = some (.bl (!decide (i ∈ r))) := notIn_tup (f := D.int) (by omega)
theorem notIn_lst_i {S : Sto} {i : Int} {b : Bool} {r : List Int} : fNotIn S (.int i) (.lst b (r.map D.int)) = some (.bl (!decide (i ∈ r))) := notIn_lst (f := D.int) (by omega)
theorem in_tup_r {S : Sto} {i : List Int} {r : List (List Int)} : fIn S (rowD i) (.tup (r.map rowD)) = some (.bl (decide (i ∈ r))) := (in_tup (f := rowD) (by omega)).trans (by congr)
theorem in_lst_r {S : Sto} {i : List Int} {b : Bool} {r : List (List Int)} : fIn S (rowD i) (.lst b (r.map rowD)) = some (.bl (decide (i ∈ r))) := (in_lst (f := rowD) (by omega)).trans (by congr)
theorem notIn_tup_r {S : Sto} {i : List Int} {r : List (List Int)} : fNotIn S (rowD i) (.tup (r.map rowD)) = some (.bl (!decide (i ∈ r))) := (notIn_tup (f := rowD) (by omega)).trans (by congr)
theorem notIn_lst_r {S : Sto} {i : List Int} {b : Bool} {r : List (List Int)} : fNotIn S (rowD i) (.lst b (r.map rowD)) = some (.bl (!decide (i ∈ r))) := (notIn_lst (f := rowD) (by omega)).trans (by congr)
theorem frzd_def {h : Sto → List D → Option D} {S : Sto} {ds : List D} : frzd h S ds = b1 (h S ds) fun c => if c.isF = true then some c else none := by
  unfold frzd b1
  cases h S ds <;> rfl
theorem permL_ap {is : List Nat} {ds : List D} : permL is ds = is.filterMap fun i => ds[i]? := nr rfl
end N1
end
section
namespace N1
open PySem PySem.Spec PyProof.Rows L2
end N1
end
section
namespace N1
open PySem PySem.Spec PyProof.Rows L2
/-- the keys and values of pairs -/
def pairsD : List D → Option (List Key × List D)
  | [] => some ([], [])
  | .tup [kd, v] :: r => match keyD kd, pairsD r with
    | some k, some p => some (k :: p.1, v :: p.2)
    | _, _ => none
  | _ :: _ => none
def fDictP : Sto → List D → Option D := fun S ds => match ds with
  | [.lst _ es] => match pairsD es with
    | some p => if isFs es = true ∧ p.1.Nodup then some (.dct true p.1 p.2) else none
    | none => none
  | _ => none
theorem putK_new {κ α : Type} [DecidableEq κ] {kvs : List (κ × V)} {k : κ} {v : V} (h : ∀ p ∈ kvs, p.1 ≠ k) : putK kvs k v = kvs ++ [(k, v)] := by
  unfold putK
  rw [if_neg]
  intro hx
  obtain ⟨p, hp, e⟩ := List.any_eq_true.mp hx
  exact h p hp (of_decide_eq_true e)
theorem merge_new : ∀ {more kvs : List (Key × V)}, ((kvs ++ more).map (·.1)).Nodup → mergeK kvs more = kvs ++ more
  | [], kvs, _ => by rw [List.append_nil]; rfl
  | p :: r, kvs, h => by
    have e : mergeK kvs (p :: r) = mergeK (putK kvs p.1 p.2) r := rfl
    have hn : ∀ q ∈ kvs, q.1 ≠ p.1 := fun q hq e => by
      rw [List.map_append, List.nodup_append] at h
      exact h.2.2 q.1 (List.mem_map.mpr ⟨q, hq, rfl⟩) p.1 (List.mem_map.mpr ⟨p, List.mem_cons_self, rfl⟩) e
    rw [e, putK_new (α := V) hn, merge_new (by rw [List.append_assoc]; exact h), List.append_assoc]
    rfl
section
variable {K : PySem.W.Frag} {F : Addr → Prop} {mu : List Addr} {H : Hp}
theorem isFs_c {d : D} {ds : List D} : isFs (d :: ds) = (d.isF && isFs ds) := by rw [isFs]
theorem isF_t {ds : List D} : (D.tup ds).isF = isFs ds := by rw [D.isF]
/-- pairs that are held, opened -/
theorem pairs_open : ∀ {es : List D} {ys : List V} {o : List Addr} {p : List Key × List D}, isFs es = true → pairsD es = some p → Rps K F mu H es ys o →
    ∃ (ps : List Addr) (xs : List V), ys = ps.map V.ref ∧ p.1.length = xs.length ∧ Rps K F mu H p.2 xs [] ∧ isFs p.2 = true ∧ Paired (fun q (kv : Key × V) => SqT K H q [kV kv.1, kv.2]) ps (p.1.zip xs)
  | [], ys, o, p, _, e, r => by
    unfold pairsD at e
    injection e with e
    subst e
    unfold Rps at r
    obtain ⟨rfl, _⟩ := r
    exact ⟨[], [], rfl, rfl, Rps.nil_mk, rfl, .nil⟩
  | d :: es, ys, o, p, hf, e, r => by
    unfold pairsD at e
    split at e
    · rename_i e0; cases e0
    · rename_i kd v r' ed
      injection ed with ed1 ed2
      subst ed1 ed2
      split at e
      · rename_i k p' hk hp
        injection e with e
        subst e
        rw [isFs_c, Bool.and_eq_true] at hf
        unfold Rps at r
        obtain ⟨y, ys', o1, o2, rfl, rfl, r1, r2⟩ := r
        obtain ⟨ps, xs, e1, e2, e3, e4, e5⟩ := pairs_open hf.2 hp r2
        unfold Rp at r1
        obtain ⟨a, zs, rfl, hs, r1⟩ := r1
        have hf1 := hf.1
        rw [isF_t, isFs_c, isFs_c, Bool.and_eq_true, Bool.and_eq_true] at hf1
        have on := Rps.noown _ _ _ (by rw [isFs_c, isFs_c, hf1.1, hf1.2.1]; rfl) r1
        subst on
        unfold Rps at r1
        obtain ⟨z1, zs1, q1, q2, rfl, eq0, s1, s2⟩ := r1
        unfold Rps at s2
        obtain ⟨z2, zs2, q3, q4, rfl, eq1, s3, s4⟩ := s2
        unfold Rps at s4
        obtain ⟨rfl, rfl⟩ := s4
        have ez := s1.sc_inv (keyD_sc hk)
        subst ez
        obtain ⟨e00, e01⟩ := List.append_eq_nil_iff.mp eq0.symm
        subst e01
        obtain ⟨e02, _⟩ := List.append_eq_nil_iff.mp eq1.symm
        subst e02
        refine ⟨a :: ps, z2 :: xs, by rw [e1]; rfl, by simp [e2], Rps.cons_mk s3 e3, by rw [isFs_c, hf1.2.1, e4]; rfl, ?_⟩
        exact Paired.cons (.inl (.inl hs)) e5
      · cases e
    · cases e
end
section
variable {K : PySem.W.Frag} {S : List (Option D)} {env : Env} {σ : L2.St} {tp : Env} {tv : List (Option V)} {H : Hp} {d : D} {v : V}
/-- a new dict of what is held last -/
theorem RelO.mkDctP {ks : List Key} {ds : List D} {vs : List V} {p : Addr} (lk : ks.length = ds.length) (l : ds.length = vs.length) (hf : isFs ds = true) (h : RelO K S env σ (ds.map some ++ tp) (vs.map some ++ tv) H) (hp : H p = none) :
    RelO K S env σ (some (.dct true ks ds) :: tp) (some (.ref p) :: tv) (upd H p (.dK (ks.zip vs))) := by
  obtain ⟨F, mu, oS, oE, oT, h1, h2, h3, h4⟩ := h
  obtain ⟨p1, p2, eo, ha, h3'⟩ := RpO.split (by simpa using l) h3
  subst eo
  obtain ⟨xs, e, ha⟩ := RpO.all ha
  have e' := all_map e
  subst e'
  have on := Rps.noown _ _ _ hf ha
  subst on
  have m : Mv F F mu mu H (upd H p (.dK (ks.zip vs))) (fun a => a = p) := mv_new h4 hp
  have np : ∀ a ∈ oS ++ (oE ++ ([] ++ p2)), ¬ a = p := fun a ha e => by
    obtain ⟨⟨u, e1, _⟩, _⟩ := h4.ow a ha
    rw [e, hp] at e1; cases e1
  refine ⟨F, mu, oS, oE, [p] ++ p2, h1.mv m _ _ _ (fun a z => np a (by simp [z])), h2.mv m _ _ _ (fun a z => np a (by simp [z])), RpO.cons_mk ?_ (h3'.mv m _ _ _ (fun a z => np a (by simp [z]))), (h4.add (u := .dK (ks.zip vs)) hp trivial).perm (perm3 oE [p] oS p2)⟩
  unfold Rp
  exact ⟨p, vs, [], rfl, lk, ha.mv m _ _ _ (fun a z => nomatch z), .inl ⟨rfl, upd_same, rfl⟩⟩
end
section
variable {K : PySem.W.Frag}
def rDictP (K : PySem.W.Frag) : List V → Hp → VK → Prop := fun xs H Q => ∃ (a : Addr) (ps : List Addr) (kvs : List (Key × V)), xs = [.ref a] ∧ SqL K H a (ps.map V.ref) ∧ Paired (fun p kv => SqT K H p [kV kv.1, kv.2]) ps kvs ∧
    ∀ p, H p = none → Q (.ref p) (upd H p (.dK (mergeK [] kvs)))
theorem pairs_len : ∀ {es : List D} {p : List Key × List D}, pairsD es = some p → p.1.length = p.2.length
  | [], p, e => by
    unfold pairsD at e
    injection e with e
    subst e
    rfl
  | d :: es, p, e => by
    unfold pairsD at e
    split at e
    · rename_i e0; cases e0
    · rename_i kd v r' ed
      injection ed with ed1 ed2
      subst ed1 ed2
      split at e
      · rename_i k p' hk hp
        injection e with e
        subst e
        have := pairs_len hp
        simp [this]
      · cases e
    · cases e
theorem alv_dictP : AlV K (rDictP K) fDictP := by
  intro S env σ tp tv H ds xs c Q r vw e q
  unfold fDictP at e
  split at e
  · rename_i b es
    split at e
    · rename_i p hp
      split at e
      · rename_i hh
        obtain ⟨hf, hn⟩ := hh
        injection e with e
        subst e
        obtain ⟨x, ex, w⟩ := vw.one
        obtain ⟨a, ys, e1, _, hL, _, l, r1⟩ := w.spread (ds := es) rfl hf
        subst e1
        obtain ⟨F, mu, oS, oE, oT, h1, h2, h3, h4⟩ := r1
        obtain ⟨p1, p2, eo, ha, h3'⟩ := RpO.split (by simpa using l) h3
        subst eo
        obtain ⟨ys', e2, ha⟩ := RpO.all ha
        have e' := all_map e2
        subst e'
        have on := Rps.noown _ _ _ hf ha
        subst on
        obtain ⟨ps, vs, e3, e4, e5, e6, e7⟩ := pairs_open hf hp ha
        subst e3
        have lk := pairs_len hp
        have em : mergeK [] (p.1.zip vs) = p.1.zip vs := merge_new (kvs := []) (by rw [List.nil_append, List.map_fst_zip (by omega)]; exact hn)
        refine ⟨a, ps, p.1.zip vs, ex, hL (fun es' z => by cases z), e7, fun l hl => ?_⟩
        rw [em]
        refine q _ _ (RelO.mkDctP lk (by omega) e6 ?_ hl)
        exact ⟨F, mu, oS, oE, [] ++ p2, h1, h2, RpO.app (o1 := []) (RpO.of_all e5) h3', h4⟩
      · cases e
    · cases e
  · cases e
theorem cr_dictP {X : Cx} (hc : X.calm = true) : CallR X (.type "dict") (rDictP X.K) := call_dictP hc
end
end N1
end
section
namespace N1
open PySem PySem.Spec PyProof.Rows L2
end N1
end
section
namespace N1
open PySem PySem.Spec PyProof.Rows L2
end N1
end
section
namespace N1
open PySem
end N1
end
section
namespace N1
open PySem
def mPre := And.intro @RW_ok (And.intro @RW_fn (And.intro @w_b (And.intro @w_op (And.intro @w_opA (And.intro @w_opV (And.intro @w_fn (And.intro @w_fnB (And.intro @w_frz (And.intro @w_tup (And.intro @w_lst (And.intro @w_dct (And.intro @w_cell (And.intro @w_if (And.intro @w_sl (And.intro @w_catS (And.intro @w_call (And.intro @w_callK (And.intro @w_nil (And.intro @w_cons (And.intro @w_and (And.intro @w_or (And.intro @w_not (And.intro @w_chain (And.intro @w_lc (And.intro @w_lc2 (And.intro @w_tE (And.intro @w_tNot (And.intro @w_tAnd (And.intro @w_tOr (And.intro @w_yes (And.intro @w_seq (And.intro @w_args (And.intro @x_seq (And.intro @x_nil (And.intro @x_if (And.intro @x_ret (And.intro @x_retN (And.intro @x_drop (And.intro @x_brk (And.intro @x_cnt (And.intro @x_set (And.intro @x_for (And.intro @x_par (And.intro @x_asg (And.intro @x_mut (And.intro @x_put (And.intro @x_mut1 (And.intro @x_fgt (And.intro @x_fz (And.intro @x_dput (And.intro @x_appPop (And.intro @x_mutR (And.intro @w_sortSet (And.intro @w_back (And.intro @w_rg1 (And.intro @w_rg2 (And.intro @RW_ite (And.intro @v_var (And.intro @v_c (And.intro @v_op (And.intro @v_neg (And.intro @v_isi (And.intro @v_fn (And.intro @v_nil (And.intro @v_cons (And.intro @v_dget (And.intro @v_dget2 (And.intro @v_din (And.intro @v_p0 (@v_p1))))))))))))))))))))))))))))))))))))))))))))))))))))))))))))))))))))))
def mPost := And.intro @refW_r (And.intro @lstW_l (And.intro @back_tup (And.intro @it_tup (And.intro @it_lst (And.intro @intsOf_map (And.intro @min_ints (And.intro @sortT_ints (And.intro @v_gTup (And.intro @v_gsCons (And.intro @v_gsNil (And.intro @v_gVar (And.intro @OW_some (And.intro @b2_some (And.intro @b1_some (And.intro @blW_bl (And.intro @intW_i (And.intro @nAt_0 (And.intro @nAt_s (And.intro @fr_nil (And.intro @fr_cons (And.intro @q_nx (And.intro @q_rt (And.intro @q_bk (And.intro @q_ct (And.intro @flR_rt (And.intro @flR_nx (And.intro @turn_nx (And.intro @turn_ct (And.intro @turn_bk (And.intro @turn_rt (And.intro @slot_0 (And.intro @slot_s (And.intro @mu_v (And.intro @mu_lst (And.intro @ls_v (And.intro @ls_lst (And.intro @m1_v (And.intro @m1_rows (And.intro @wr_app (And.intro @wr_ext (And.intro @wr_rem (And.intro @wr_set (And.intro @fzE_0 (And.intro @fzE_n (And.intro @fzE_s (And.intro @lcQ_map (And.intro @rgI_len (And.intro @Nat.zero_add (And.intro @Bool.false_eq_true (And.intro @Bool.and_self (And.intro @Bool.and_true (And.intro @Bool.true_and (And.intro @Bool.not_true (And.intro @Bool.not_false (And.intro @and_self (And.intro @and_true (And.intro @true_and (And.intro @F_int (And.intro @F_bl (And.intro @F_non (And.intro @F_str (And.intro @F_ref (And.intro @F_tup (And.intro @F_lst (And.intro @F_dct (And.intro @Fs_nil (And.intro @Fs_cons (And.intro @Fs_app (And.intro @Fs_ints (And.intro @Fs_bls (And.intro @Fs_strs (And.intro @Fs_rows (And.intro @Fs_tabs (And.intro @z_non (And.intro @z_bl (And.intro @z_int (And.intro @z_str (And.intro @z_ref (And.intro @z_tup (And.intro @z_lst (And.intro @z_dct (And.intro @zs_nil (And.intro @zs_cons (And.intro @zs_app (And.intro @zs_ints (And.intro @zs_bls (And.intro @zs_strs (And.intro @zs_rows (And.intro @zs_tabs (And.intro @ty_non (And.intro @ty_bl (And.intro @ty_int (And.intro @ty_str (And.intro @ty_tup (And.intro @ty_lst (And.intro @ty_dct (And.intro @isT_non_int (And.intro @isT_non_bool (And.intro @isT_non_str (And.intro @isT_non_tuple (And.intro @isT_non_list (And.intro @isT_non_dict (And.intro @isT_bl_int (And.intro @isT_bl_bool (And.intro @isT_bl_str (And.intro @isT_bl_tuple (And.intro @isT_bl_list (And.intro @isT_bl_dict (And.intro @isT_int_int (And.intro @isT_int_bool (And.intro @isT_int_str (And.intro @isT_int_tuple (And.intro @isT_int_list (And.intro @isT_int_dict (And.intro @isT_str_int (And.intro @isT_str_bool (And.intro @isT_str_str (And.intro @isT_str_tuple (And.intro @isT_str_list (And.intro @isT_str_dict (And.intro @isT_tup_int (And.intro @isT_tup_bool (And.intro @isT_tup_str (And.intro @isT_tup_tuple (And.intro @isT_tup_list (And.intro @isT_tup_dict (And.intro @isT_lst_int (And.intro @isT_lst_bool (And.intro @isT_lst_str (And.intro @isT_lst_tuple (And.intro @isT_lst_list (And.intro @isT_lst_dict (And.intro @isT_dct_int (And.intro @isT_dct_bool (And.intro @isT_dct_str (And.intro @isT_dct_tuple (And.intro @isT_dct_list (And.intro @isT_dct_dict (And.intro @sl_tup (And.intro @sl_lst (And.intro @cut_from (And.intro @cut_to (And.intro @cut_m1 (And.intro @cut_l1 (And.intro @Int.toNat_one (And.intro @Int.toNat_zero (And.intro @Int.toNat_natCast (And.intro @set_rows (And.intro @app_rows (And.intro @app_rows0 (And.intro @app_ints (And.intro @app_bls (And.intro @app_map (And.intro @rep_rows0 (And.intro @max_i (And.intro @min_i (And.intro @abs_i (And.intro @neg_i (And.intro @int_i (And.intro @int_b (And.intro @isN_n (And.intro @notN_n (And.intro @non_n (And.intro @non_i (And.intro @non_t (And.intro @non_l (And.intro @non_b (And.intro @len_tup (And.intro @len_lst (And.intro @all_bls (And.intro @any_bls (And.intro @sum_ints (And.intro @sort_ints (And.intro @tup_tup (And.intro @tup_lst (And.intro @lst_tup (And.intro @lst_lst (And.intro @ix_tup (And.intro @ix_lst (And.intro @at_ints (And.intro @at_rows (And.intro @add_i (And.intro @sub_i (And.intro @mul_l (And.intro @mul_r (And.intro @div_i (And.intro @mod_i (And.intro @lt_i (And.intro @le_i (And.intro @gt_i (And.intro @ge_i (And.intro @enum_map (And.intro @zip_map (And.intro @rng1_n (And.intro @rng1_i (And.intro @rng2_i (And.intro @rgok (And.intro @sq_tup (And.intro @sq_lst (And.intro @en_tup (And.intro @en_lst (And.intro @zp_tup (And.intro @zp_lst (And.intro @iff_self (And.intro @eq_i (And.intro @ne_i (And.intro @eq_b (And.intro @ne_b (And.intro @fEq_lst (And.intro @fNe_lst (And.intro @fEq_tup (And.intro @fNe_tup (And.intro @fEq_lst0 (And.intro @fNe_lst0 (And.intro @fEq_tup0 (And.intro @fNe_tup0 (And.intro @in_tup_i (And.intro @in_lst_i (And.intro @notIn_tup_i (And.intro @notIn_lst_i (And.intro @in_tup_r (And.intro @in_lst_r (And.intro @notIn_tup_r (And.intro @notIn_lst_r (And.intro @frzd_def (And.intro @Bool.decide_eq_true (And.intro @decide_eq_true_eq (And.intro @D.bl.injEq (And.intro @D.int.injEq (And.intro @D.tup.injEq (@permL_ap)))))))))))))))))))))))))))))))))))))))))))))))))))))))))))))))))))))))))))))))))))))))))))))))))))))))))))))))))))))))))))))))))))))))))))))))))))))))))))))))))))))))))))))))))))))))))))))))))))))))))))))))))))))))))))))))))))))))
end N1
end
section
namespace PySem
open Sem (wp)
namespace LEn
/-- an enumerate amid its run: its last pair is kept by somebody, or there is none yet -/
def IsE (h : Heap) (e it : Addr) (i : Nat) : Prop :=
  ∃ f0 f1 old, h.get? e = some { cls := .type "enumerate", dict := none, data := .fields #[f0, .bool f1, .ref it, rawInt (i : Int), .none, old], slots := #[] } ∧ (f0 = .none ∨ ∃ T, f0 = rawInt ((T : Nat) : Int) ∧ ∃ o, h.get? T = some o)
theorem IsE.keep {h h' : Heap} {e it : Addr} {i : Nat} (x : IsE h e it i) (k : ∀ b o, h.get? b = some o → h'.get? b = some o) : IsE h' e it i := by
  obtain ⟨f0, f1, old, he, q⟩ := x
  exact ⟨f0, f1, old, k e _ he, q.imp id fun ⟨T, e1, o, ho⟩ => ⟨T, e1, o, k T o ho⟩⟩
theorem alive_w {M : Model} {A : Around} {E : Value → Shared → Prop} {s : Shared} {a : Addr} {Q : Option Obj → Shared → Prop} (h : Q (s.heap.get? a) s) : wpAny M A (loadIfAlive a) Q E s :=
  fun Γ p _ => by
    unfold loadIfAlive
    rw [Sem.wp_loadIfAlive]
    exact (Sem.wp_pure ..).mpr h
section
variable {prog : Program} {w : World} {A : Around} {E : Value → Shared → Prop} {s : Shared}
/-- what stays but at one address -/
theorem same_keep {a : Addr} {h h' : Heap} (s : Heap.SameBut a h h') {b : Addr} {o : Obj} (hb : b ≠ a) (e : h.get? b = some o) : h'.get? b = some o := (s.2 b hb).trans e
theorem next_E {e it : Addr} {fp : List Addr} {n i : Nat} {P : Nat → Value → Prop} {St : Nat → Heap → Prop} {Q : Value → Shared → Prop}
    (D : Draws prog w A it fp n P St) (he : IsE s.heap e it i) (hst : St i s.heap) (hlt : i < n) (hne : e ≠ it) (hef : e ∉ fp)
    (hQ : ∀ x h' tk, P i x → IsE h' e it (i + 1) → St (i + 1) h' → h'.get? s.heap.objs.size = some { cls := .type "tuple", data := .seq #[.int i tk, x] } → h'.objs.size = s.heap.objs.size + 1 →
      (∀ b o, b ≠ e → b ≠ it → s.heap.get? b = some o → h'.get? b = some o) → Q (.ref s.heap.objs.size) { s with heap := h', toks := tk + 1 }) :
    wpAny (model prog w) A (Builtin.«enumerate.__next__» ⟨[.ref e], []⟩) (fun fin s' => ∃ v, fin = .done (.ret v) ∧ Q v s') E s := by
  obtain ⟨hp, g, d, tk₀, os⟩ := s
  obtain ⟨f0, f1, old, he, alv⟩ := he
  have hel : e < hp.objs.size := Heap.lt_size he
  have ne0 : ∀ T o, hp.get? T = some o → T ≠ hp.objs.size := fun T o q => Nat.ne_of_lt (Heap.lt_size q)
  show wpAny _ _ (field (.ref e) 2 >>= _) _ _ _
  refine wpAny_bind (wpAny_field he rfl (x := .ref it) rfl ?_)
  refine wpAny_bind (D.item i _ _ _ hlt hst fun x h₁ tk hPx hit₁ hs₁ => ?_)
  replace hs₁ : Heap.SameBut it hp h₁ := hs₁
  have a₁ := same_keep hs₁ hne he
  show wpAny _ _ (field (.ref e) 3 >>= _) _ _ ⟨h₁, g, d, tk, os⟩
  refine wpAny_bind (wpAny_field a₁ rfl (x := rawInt (i : Int)) rfl ?_)
  show wpAny _ _ (field (.ref e) 4 >>= _) _ _ ⟨h₁, g, d, tk, os⟩
  refine wpAny_bind (wpAny_field a₁ rfl (x := .none) rfl ?_)
  show wpAny _ _ (mkInt (i : Int) >>= _) _ _ ⟨h₁, g, d, tk, os⟩
  refine wpAny_bind (wpAny_mkInt ?_)
  show wpAny _ _ (setField (.ref e) 3 (rawInt ((i : Int) + 1)) >>= _) _ _ ⟨h₁, g, d, tk + 1, os⟩
  refine wpAny_bind (wpAny_setField_rec a₁ (by simp) fun h₂ a₂ hs₂ => ?_)
  replace hs₂ : Heap.SameBut e h₁ h₂ := hs₂
  replace a₂ : h₂.get? e = some { cls := .type "enumerate", dict := none, data := .fields #[f0, .bool f1, .ref it, rawInt ((i : Int) + 1), .none, old], slots := #[] } := a₂
  show wpAny _ _ (setField (.ref e) 4 .none >>= _) _ _ ⟨h₂, g, d, tk + 1, os⟩
  refine wpAny_bind (wpAny_setField_rec a₂ (by simp) fun h₃ a₃ hs₃ => ?_)
  replace hs₃ : Heap.SameBut e h₂ h₃ := hs₃
  replace a₃ : h₃.get? e = some { cls := .type "enumerate", dict := none, data := .fields #[f0, .bool f1, .ref it, rawInt ((i : Int) + 1), .none, old], slots := #[] } := a₃
  show wpAny _ _ (newTuple [.int i tk, x] >>= _) _ _ ⟨h₃, g, d, tk + 1, os⟩
  refine wpAny_bind (wpAny_newTuple ?_)
  have hsz : h₃.objs.size = hp.objs.size := by rw [hs₃.1, hs₂.1, hs₁.1]
  have k3 : ∀ b o, b ≠ e → b ≠ it → hp.get? b = some o → h₃.get? b = some o := fun b o hbe hbi hb => same_keep hs₃ hbe (same_keep hs₂ hbe (same_keep hs₁ hbi hb))
  have st3 : St (i + 1) h₃ := D.frame _ _ _ hit₁ fun b hb o y => same_keep hs₃ (fun q => hef (q ▸ hb)) (same_keep hs₂ (fun q => hef (q ▸ hb)) y)
  have alv3 : f0 = .none ∨ ∃ T, f0 = rawInt ((T : Nat) : Int) ∧ T ≠ hp.objs.size ∧ ∃ o, h₃.get? T = some o := alv.imp id fun ⟨T, e1, o, ho⟩ => by
    refine ⟨T, e1, ne0 T o ho, ?_⟩
    by_cases hTe : T = e
    · rw [hTe]; exact ⟨_, a₃⟩
    by_cases hTi : T = it
    · rw [hTi]
      obtain ⟨o2, h2⟩ := D.live _ _ st3
      exact ⟨o2, h2⟩
    exact ⟨o, k3 T o hTe hTi ho⟩
  clear hs₁ hs₂ hs₃ a₁ a₂ hit₁ alv he
  rw [hsz]
  have ht₄ : (h₃.push { cls := .type "tuple", data := .seq #[.int i tk, x] }).get? hp.objs.size = some { cls := .type "tuple", data := .seq #[.int i tk, x] } := by rw [← hsz]; exact Heap.get?_push_size _ rfl
  have hz₄ : (h₃.push { cls := .type "tuple", data := .seq #[.int i tk, x] }).objs.size = hp.objs.size + 1 := by rw [Heap.size_push, hsz]
  have k4 : ∀ b o, h₃.get? b = some o → (h₃.push { cls := .type "tuple", data := .seq #[.int i tk, x] }).get? b = some o := fun b o q => Heap.get?_push_of_some _ q
  show wpAny _ _ (Builtin.SmallTypes.ownedTupleIsFree (.ref e) >>= _) _ _ ⟨h₃.push { cls := .type "tuple", data := .seq #[.int i tk, x] }, g, d, tk + 1, os⟩
  generalize h₃.push { cls := .type "tuple", data := .seq #[.int i tk, x] } = h₄ at ht₄ hz₄ k4
  have a₄ := k4 _ _ a₃
  have st4 : St (i + 1) h₄ := D.frame _ _ _ st3 fun b _ o y => k4 b o y
  rcases alv3 with rfl | ⟨T, rfl, hTn, oT, hoT⟩
  · refine wpAny_bind ?_
    unfold Builtin.SmallTypes.ownedTupleIsFree
    refine wpAny_bind (wpAny_field a₄ rfl (x := .none) rfl (wpAny_pure ?_))
    simp only [if_true]
    refine wpAny_bind (wpAny_rule ?_)
    refine wpAny_bind (wpAny_field a₄ rfl (x := old) rfl ?_)
    refine wpAny_bind (wpAny_setField_rec a₄ (by simp) fun h₅ a₅ hs₅ => ?_)
    replace hs₅ : Heap.SameBut e h₄ h₅ := hs₅
    show wpAny _ _ (Builtin.SmallTypes.ownedTupleHandOut (.ref e) (.ref hp.objs.size) >>= _) _ _ ⟨h₅, g, d, tk + 1, os⟩
    refine wpAny_bind ?_
    unfold Builtin.SmallTypes.ownedTupleHandOut
    refine wpAny_bind (wpAny_setField_rec a₅ (by simp) fun h₆ a₆ hs₆ => ?_)
    replace hs₆ : Heap.SameBut e h₅ h₆ := hs₆
    refine wpAny_setField_rec a₆ (by simp) fun h₇ a₇ hs₇ => ?_
    replace hs₇ : Heap.SameBut e h₆ h₇ := hs₇
    have k7 : ∀ b o, b ≠ e → h₄.get? b = some o → h₇.get? b = some o := fun b o hb y => same_keep hs₇ hb (same_keep hs₆ hb (same_keep hs₅ hb y))
    have t7 := k7 _ _ (Nat.ne_of_gt hel) ht₄
    refine wpAny_bind (wpAny_letGo (wpAny_pure ⟨_, rfl, hQ x h₇ tk hPx ⟨rawInt ((hp.objs.size : Nat) : Int), false, x, a₇, .inr ⟨_, rfl, _, t7⟩⟩ (D.frame _ _ _ st4 fun b hb o y => k7 b o (fun q => hef (q ▸ hb)) y) t7 (by rw [hs₇.1, hs₆.1, hs₅.1, hz₄]) fun b o hbe hbi hb => k7 b o hbe (k4 b o (k3 b o hbe hbi hb))⟩))
  · have hT4 := k4 _ _ hoT
    refine wpAny_bind ?_
    unfold Builtin.SmallTypes.ownedTupleIsFree
    refine wpAny_bind (wpAny_field a₄ rfl (x := rawInt ((T : Nat) : Int)) rfl ?_)
    show wpAny _ _ (loadIfAlive ((T : Nat) : Int).toNat >>= _) _ _ _
    refine wpAny_bind (alive_w ?_)
    rw [Int.toNat_natCast]
    show wpAny _ _ (if (h₄.get? T).isNone = true then _ else _) _ _ _
    rw [if_neg (by rw [hT4]; simp)]
    refine wpAny_bind (wpAny_field a₄ rfl (x := .bool f1) rfl ?_)
    cases f1 with
    | true =>
      rw [if_neg (by decide)]
      refine wpAny_pure ?_
      simp only [Bool.false_eq_true, if_false]
      exact wpAny_pure ⟨_, rfl, hQ x h₄ tk hPx ⟨rawInt ((T : Nat) : Int), true, old, a₄, .inr ⟨T, rfl, oT, hT4⟩⟩ st4 ht₄ hz₄ fun b o hbe hbi hb => k4 b o (k3 b o hbe hbi hb)⟩
    | false =>
      rw [if_pos (by decide)]
      refine wpAny_bind (wpAny_setField_rec a₄ (by simp) fun h₅ a₅ hs₅ => ?_)
      replace hs₅ : Heap.SameBut e h₄ h₅ := hs₅
      refine wpAny_pure ?_
      simp only [Bool.false_eq_true, if_false]
      have k5 : ∀ b o, b ≠ e → h₄.get? b = some o → h₅.get? b = some o := fun b o hb y => same_keep hs₅ hb y
      have hT5 : ∃ o, h₅.get? T = some o := by
        by_cases hTe : T = e
        · rw [hTe]; exact ⟨_, a₅⟩
        · exact ⟨oT, k5 T oT hTe hT4⟩
      exact wpAny_pure ⟨_, rfl, hQ x h₅ tk hPx ⟨rawInt ((T : Nat) : Int), true, old, a₅, .inr ⟨T, rfl, hT5⟩⟩ (D.frame _ _ _ st4 fun b hb o y => k5 b o (fun q => hef (q ▸ hb)) y) (k5 _ _ (Nat.ne_of_gt hel) ht₄) (by rw [hs₅.1, hz₄])
        fun b o hbe hbi hb => k5 b o hbe (k4 b o (k3 b o hbe hbi hb))⟩
theorem pyNext_E {e it : Addr} {fp : List Addr} {n i : Nat} {P : Nat → Value → Prop} {St : Nat → Heap → Prop} {Q : Option Value → Shared → Prop}
    (D : Draws prog w A.in1 it fp n P St) (he : IsE s.heap e it i) (hst : St i s.heap) (hlt : i < n) (hne : e ≠ it) (hef : e ∉ fp)
    (hQ : ∀ x h' tk, P i x → IsE h' e it (i + 1) → St (i + 1) h' → h'.get? s.heap.objs.size = some { cls := .type "tuple", data := .seq #[.int i tk, x] } → h'.objs.size = s.heap.objs.size + 1 →
      (∀ b o, b ≠ e → b ≠ it → s.heap.get? b = some o → h'.get? b = some o) → Q (some (.ref s.heap.objs.size)) { s with heap := h', toks := tk + 1 }) :
    wpAny (model prog w) A (pyNext (.ref e)) Q E s := by
  have hT : s.TypeIs (.ref e) "enumerate" := by obtain ⟨f0, f1, old, q, _⟩ := he; exact ⟨_, q, rfl⟩
  unfold pyNext
  exact wpAny_bind (wpAny_attempt (wpAny_callSpecial?_slot (name := Str.ofString "__next__") hT F.slot_enumerate_next
    (wpAny_call_entry F.slot_enumerate_next hT F.entry_enumerate_next (next_E D he hst hlt hne hef fun x h' tk a b c d k q => wpAny_pure (hQ x h' tk a b c d k q)) (F.args_enumerate_next_1 _))))
theorem pyNext_Eend {e it : Addr} {fp : List Addr} {n i : Nat} {P : Nat → Value → Prop} {St : Nat → Heap → Prop} {Q : Option Value → Shared → Prop}
    (D : Draws prog w A.in1 it fp n P St) (he : IsE s.heap e it i) (hst : St n s.heap) (hQ : ∀ h', Heap.ExtBut it s.heap h' → Q none { s with heap := h' }) : wpAny (model prog w) A (pyNext (.ref e)) Q E s := by
  have hT : s.TypeIs (.ref e) "enumerate" := by obtain ⟨f0, f1, old, q, _⟩ := he; exact ⟨_, q, rfl⟩
  obtain ⟨f0, f1, old, q, _⟩ := he
  unfold pyNext
  refine wpAny_bind (wpAny_attempt (wpAny_callSpecial?_slot (name := Str.ofString "__next__") hT F.slot_enumerate_next
    (wpAny_call_entry F.slot_enumerate_next hT F.entry_enumerate_next ?_ (F.args_enumerate_next_1 _))))
  show wpAny _ _ (field (.ref e) 2 >>= _) _ _ _
  refine wpAny_bind (wpAny_field q rfl (x := .ref it) rfl ?_)
  refine wpAny_bind (D.done _ _ _ hst fun h' x he' hx' => ?_)
  obtain ⟨o, ho, hc⟩ := hx'
  refine wpAny_bind (wpAny_isInstance (T := "StopIteration") (b := true) ⟨o, ho, hc⟩ isSubtype_stop ?_)
  exact wpAny_pure (hQ _ he')
/-- the pairs that were made, in a row -/
structure Prs (its : List Value) (lo : Addr) (h : Heap) (as : List Addr) : Prop where
  nd : as.Nodup
  lo : ∀ a ∈ as, lo < a
  at_ : ∀ j a, as[j]? = some a → ∃ x t, its[j]? = some x ∧ h.get? a = some { cls := .type "tuple", data := .seq #[.int (j : Nat) t, x] }
theorem Prs.keep {its : List Value} {lo : Addr} {h h' : Heap} {as : List Addr} (g : Prs its lo h as) (k : ∀ b o, lo < b → h.get? b = some o → h'.get? b = some o) : Prs its lo h' as :=
  ⟨g.nd, g.lo, fun j a hj => let ⟨x, t, q1, q2⟩ := g.at_ j a hj; ⟨x, t, q1, k a _ (g.lo a (List.mem_of_getElem? hj)) q2⟩⟩
theorem loop_E {R : Result → Shared → Prop} {e it a S lo : Addr} {its : List Value} (hh : A.handled = none) (hei : e ≠ it) (hea : e ≠ a) (hai : a ≠ it) (hSe : S ≠ e) (hSi : S ≠ it) (hSa : S ≠ a) (hlS : S ≤ lo) (hle : e ≤ lo) (hli : it ≤ lo) (hn : its.length ≤ sizeLine) (res : Value) {h0 : Heap}
    (hR : ∀ h' tk acc c as, (∀ b o, b ≠ e → b ≠ it → b ≠ S → h0.get? b = some o → h'.get? b = some o) → h'.get? S = some { cls := .type "list", dict := none, data := .seq acc c, slots := #[] } → acc.toList = as.map Value.ref → as.length = its.length → Prs its lo h' as → R (.ok (.ret res)) { s with heap := h', toks := tk }) :
    ∀ (k i : Nat) (h : Heap) (tk : Nat) (acc : Array Value) (c : Nat) (as : List Addr), its.length - i = k → i ≤ its.length → IsE h e it i → h.IsTupleIter it a i → h.IsTuple a its.toArray → (∀ b o, b ≠ e → b ≠ it → b ≠ S → h0.get? b = some o → h.get? b = some o) → lo < h.objs.size →
      h.get? S = some { cls := .type "list", dict := none, data := .seq acc c, slots := #[] } → acc.toList = as.map Value.ref → as.length = i → Prs its lo h as →
      codeAny (model prog w) A (.builtin "list.extend.loop" ⟨[.ref S, .ref e, res], []⟩) R { s with heap := h, toks := tk } := by
  have hh1 : A.in1.in1.handled = none := hh
  intro k
  induction k with
  | zero =>
    intro i h tk acc c as hk hi he hit ha keep hlo hS hacc hal hG
    have hin : i = its.length := by omega
    subst hin
    refine codeAny_builtin F.entry_extend_loop ?_
    rw [Around.under_plainId F.plain_extend_loop _]
    show wpAny _ A.in1 (pyNext (.ref e) >>= _) _ _ _
    refine wpAny_bind (pyNext_Eend (s := { s with heap := h, toks := tk }) (Draws.tuple (prog := prog) (w := w) (A := A.in1.in1) hh1 it a hai its.toArray) he ⟨by simpa using hit, ha⟩ fun h' hx => ?_)
    replace hx : Heap.ExtBut it h h' := hx
    exact wpAny_pure (hR h' tk acc c as (fun b o b1 b2 b3 q => hx b o b2 (keep b o b1 b2 b3 q)) (hx S _ hSi hS) hacc hal (hG.keep fun b o hb q => hx b o (Nat.ne_of_gt (Nat.lt_of_le_of_lt hli hb)) q))
  | succ k ih =>
    intro i h tk acc c as hk hi he hit ha keep hlo hS hacc hal hG
    have hlt : i < its.length := by omega
    refine codeAny_builtin F.entry_extend_loop ?_
    rw [Around.under_plainId F.plain_extend_loop _]
    show wpAny _ A.in1 (pyNext (.ref e) >>= _) _ _ _
    refine wpAny_bind (pyNext_E (s := { s with heap := h, toks := tk }) (Draws.tuple (prog := prog) (w := w) (A := A.in1.in1) hh1 it a hai its.toArray) he ⟨hit, ha⟩ (by simpa using hlt) hei (by simp [hei, hea]) fun x h' tk' hx he' hst' hT hsz hkp => ?_)
    replace hsz : h'.objs.size = h.objs.size + 1 := hsz
    replace hT : h'.get? h.objs.size = some { cls := .type "tuple", data := .seq #[.int i tk', x] } := hT
    replace hkp : ∀ b o, b ≠ e → b ≠ it → h.get? b = some o → h'.get? b = some o := hkp
    replace hx : its[i]? = some x := by simpa using hx
    have hS' := hkp S _ hSe hSi hS
    have asz : acc.size = i := by rw [← Array.length_toList, hacc, List.length_map, hal]
    have up : ∀ b o, b ≠ S → h'.get? b = some o → (h'.update S (Obj.mapSeq (·.push (Value.ref h.objs.size)))).get? b = some o := fun b o hb q => (Heap.get?_update_other _ _ (Ne.symm hb)).trans q
    have hTS : h.objs.size ≠ S := Nat.ne_of_gt (Heap.lt_size hS)
    show wpAny _ A.in1 (updateSeq S (·.push (Value.ref h.objs.size)) >>= _) _ _ _
    refine wpAny_bind ?_
    refine wpAny_updateSeq hS' rfl (wpAny_pure ⟨plainId_quiet F.plain_extend_loop _, ih (i + 1) _ (tk' + 1) (acc.push (Value.ref h.objs.size)) _ (as ++ [h.objs.size]) (by omega) hlt ?_ ?_ ?_ ?_ ?_ (Heap.get?_update_self _ hS' rfl) ?_ ?_ ?_⟩) (by rw [asz]; omega) (by show (acc.push (Value.ref h.objs.size)).size ≤ sizeLine + 1; rw [Array.size_push, asz]; omega)
    · obtain ⟨f0, f1, old, q1, q2⟩ := he'
      refine ⟨f0, f1, old, up _ _ (Ne.symm hSe) q1, q2.imp id fun ⟨T, e1, o, ho⟩ => ⟨T, e1, ?_⟩⟩
      by_cases hT2 : T = S
      · rw [hT2]; exact ⟨_, Heap.get?_update_self _ hS' rfl⟩
      · exact ⟨o, up T o hT2 ho⟩
    · exact hst'.1.at fun o q => up it o (Ne.symm hSi) q
    · exact hst'.2.at fun o q => up a o (Ne.symm hSa) q
    · exact fun b o b1 b2 b3 q => up b o b3 (hkp b o b1 b2 (keep b o b1 b2 b3 q))
    · rw [Heap.size_update, hsz]; exact Nat.lt_succ_of_lt hlo
    · rw [Array.toList_push, hacc, List.map_append]; rfl
    · rw [List.length_append, hal]; rfl
    · refine ⟨List.nodup_append.mpr ⟨hG.nd, by simp, fun b hb y hy z => ?_⟩, fun b hb => ?_, fun j b hj => ?_⟩
      · rw [List.mem_singleton] at hy
        obtain ⟨jj, hjj⟩ := List.mem_iff_getElem?.mp hb
        obtain ⟨_, _, _, q2⟩ := hG.at_ jj b hjj
        exact absurd z (by rw [hy]; exact Nat.ne_of_lt (Heap.lt_size q2))
      · rcases List.mem_append.mp hb with hb | hb
        · exact hG.lo b hb
        · rw [List.mem_singleton.mp hb]; exact hlo
      · rcases Nat.lt_trichotomy j as.length with h1 | h1 | h1
        · rw [List.getElem?_append_left h1] at hj
          obtain ⟨y, t, q1, q2⟩ := hG.at_ j b hj
          have hlb := hG.lo b (List.mem_of_getElem? hj)
          exact ⟨y, t, q1, up b _ (Nat.ne_of_gt (Nat.lt_of_le_of_lt hlS hlb)) (hkp b _ (Nat.ne_of_gt (Nat.lt_of_le_of_lt hle hlb)) (Nat.ne_of_gt (Nat.lt_of_le_of_lt hli hlb)) q2)⟩
        · subst h1
          have hb : h.objs.size = b := by simpa using hj
          subst hb
          rw [hal]
          exact ⟨x, tk', hx, up _ _ hTS hT⟩
        · have hnone : (as ++ [h.objs.size])[j]? = none := List.getElem?_eq_none (by rw [List.length_append, List.length_singleton]; omega)
          rw [hnone] at hj; cases hj
theorem nolen_enum : typeLookup (.type "enumerate") "__len__" = pure none := by rw [typeLookup_type]; kernel_rfl
theorem nohint_enum : typeLookup (.type "enumerate") "__length_hint__" = pure none := by rw [typeLookup_type]; kernel_rfl
theorem extend_E {R : Result → Shared → Prop} {e it a S lo : Addr} {its : List Value} (hh : A.handled = none) (hei : e ≠ it) (hea : e ≠ a) (hai : a ≠ it) (hSe : S ≠ e) (hSi : S ≠ it) (hSa : S ≠ a) (hlS : S ≤ lo) (hle : e ≤ lo) (hli : it ≤ lo) (hn : its.length ≤ sizeLine) (res : Value) (c₀ : Nat)
    (he : IsEnum s.heap e it 0 .none) (hit : s.heap.IsTupleIter it a 0) (ha : s.heap.IsTuple a its.toArray) (hlo : lo < s.heap.objs.size) (hS : s.heap.get? S = some { cls := .type "list", data := .seq #[] c₀ })
    (hR : ∀ h' tk acc c as, (∀ b o, b ≠ e → b ≠ it → b ≠ S → s.heap.get? b = some o → h'.get? b = some o) → h'.get? S = some { cls := .type "list", dict := none, data := .seq acc c, slots := #[] } → acc.toList = as.map Value.ref → as.length = its.length → Prs its lo h' as → R (.ok (.ret res)) { s with heap := h', toks := tk }) :
    wpAny (model prog w) A.in1 (Builtin.List.listExtendWith (.ref S) (.ref e) res)
      (fun fin s' => match fin with | .done f => R (.ok f) s' | .again c' => c'.quiet = true ∧ codeAny (model prog w) A c' R s') (fun e s' => R (.error e) s') s := by
  have hT : s.TypeIs (.ref e) "enumerate" := ⟨_, he, rfl⟩
  have key : ∀ (h : Heap) (c₁ : Nat), (∀ b o, b ≠ S → s.heap.get? b = some o → h.get? b = some o) → h.objs.size = s.heap.objs.size → h.get? S = some { cls := .type "list", data := .seq #[] c₁ } → codeAny (model prog w) A (.builtin "list.extend.loop" ⟨[.ref S, .ref e, res], []⟩) R { s with heap := h } := by
    intro h c₁ hk hz hS₁
    have he1 : IsE h e it 0 := ⟨.none, false, .none, hk _ _ (Ne.symm hSe) he, .inl rfl⟩
    exact loop_E (s := s) (h0 := s.heap) hh hei hea hai hSe hSi hSa hlS hle hli hn res hR its.length 0 h s.toks #[] c₁ [] (Nat.sub_zero _) (Nat.zero_le _) he1 (hit.at fun o q => hk it o (Ne.symm hSi) q) (ha.at fun o q => hk a o (Ne.symm hSa) q)
      (fun b o _ _ b3 q => hk b o b3 q) (by rw [hz]; exact hlo) hS₁ rfl rfl ⟨List.nodup_nil, (fun _ h => nomatch h), (fun j a hj => by simp at hj)⟩
  unfold Builtin.List.listExtendWith
  refine wpAny_bind (wpAny_typeOf (T := "enumerate") hT ?_)
  have h1 : Builtin.List.listSameRef (.ref S) (.ref e) = false := by simp [Builtin.List.listSameRef, hSe]
  have h2 : (Value.type "enumerate" == Value.type "list") = false := by decide
  have h3 : (Value.type "enumerate" == Value.type "tuple") = false := by decide
  simp only [h1, h2, h3, Bool.or_false, Bool.false_eq_true, if_false]
  refine wpAny_bind (wpAny_pyIter_enum he ?_)
  refine wpAny_bind (wpAny_holding ?_)
  unfold Builtin.List.listLengthHint
  refine wpAny_bind (wpAny_specialOf hT nolen_enum ?_)
  show wpAny _ A.in1 (specialOf (Value.ref e) (Str.ofString "__length_hint__") >>= _) _ _ _
  refine wpAny_bind (wpAny_specialOf hT nohint_enum (wpAny_pure ?_))
  show wpAny _ A.in1 (rule "list.extend.makes-room" >>= fun _ => Builtin.List.listTouch (.ref S) >>= fun _ => again (.builtin "list.extend.loop" ⟨[.ref S, .ref e, res], []⟩)) _ _ _
  refine wpAny_bind (wpAny_rule (wpAny_bind ?_))
  show wpAny _ A.in1 (updateSeq S (·.push .none) >>= fun _ => updateSeq S (·.pop)) _ _ _
  refine wpAny_bind (wpAny_updateSeq hS rfl ?_)
  have hS₂ := Heap.get?_update_self (Obj.mapSeq (·.push Value.none)) hS rfl
  refine wpAny_updateSeq (hz := by seq_fits) hS₂ rfl ?_
  have hS₃ := Heap.get?_update_self (Obj.mapSeq (·.pop)) hS₂ rfl
  exact wpAny_pure ⟨plainId_quiet F.plain_extend_loop _, key _ _ (fun b o hb q => (Heap.get?_update_other _ _ (Ne.symm hb)).trans ((Heap.get?_update_other _ _ (Ne.symm hb)).trans q)) (by rw [Heap.size_update, Heap.size_update]) hS₃⟩
/-- list(e), e an enumerate that was just made over a tuple -/
theorem call_E {e it a : Addr} {its : List Value} {Q : Value → Shared → Prop} (hh : A.handled = none) (hei : e ≠ it) (hea : e ≠ a) (hai : a ≠ it) (hn : its.length ≤ sizeLine)
    (he : IsEnum s.heap e it 0 .none) (hit : s.heap.IsTupleIter it a 0) (ha : s.heap.IsTuple a its.toArray)
    (hQ : ∀ h' tk acc c as, (∀ b o, b ≠ e → b ≠ it → s.heap.get? b = some o → h'.get? b = some o) → h'.get? s.heap.objs.size = some { cls := .type "list", dict := none, data := .seq acc c, slots := #[] } → acc.toList = as.map Value.ref → as.length = its.length → Prs its s.heap.objs.size h' as → Q (.ref s.heap.objs.size) { s with heap := h', toks := tk }) :
    wpAny (model prog w) A (call (.type "list") [.ref e]) Q E s := by
  refine callType_codes (Q₁ := fun obj s₁ => obj = .ref s.heap.objs.size ∧ s₁ = { s with heap := s.heap.push { cls := .type "list", data := .seq #[] } }) F.called_list (F.typeCall_list_1 _) F.entry_list_init (code_list_new _ ⟨rfl, rfl⟩) fun obj s₁ h₁ => ?_
  obtain ⟨rfl, rfl⟩ := h₁
  have hS : (s.heap.push { cls := .type "list", data := .seq #[] }).get? s.heap.objs.size = some { cls := .type "list", data := .seq #[] } := Heap.get?_push_size _ rfl
  have le : e < s.heap.objs.size := Heap.lt_size he
  have li : it < s.heap.objs.size := by obtain ⟨o, q, _⟩ := hit; exact Heap.lt_size q
  have la : a < s.heap.objs.size := by obtain ⟨o, q, _⟩ := ha; exact Heap.lt_size q
  have hsz : (s.heap.push { cls := .type "list", data := .seq #[] }).objs.size = s.heap.objs.size + 1 := Heap.size_push ..
  refine ⟨⟨_, hS, rfl⟩, F.args_list_init_2 _ _, ?_⟩
  show wpAny _ _ (do let old ← Builtin.List.listItems (.ref s.heap.objs.size); Builtin.List.listUpdate (.ref s.heap.objs.size) (fun _ => #[]); letGo old.toList.reverse; Builtin.List.listExtendWith (.ref s.heap.objs.size) (.ref e) .none) _ _ _
  refine wpAny_bind ?_
  unfold Builtin.List.listItems
  refine wpAny_bind (wpAny_seqItems hS rfl (wpAny_pure ?_))
  show wpAny _ _ (updateSeq s.heap.objs.size (fun _ => #[]) >>= fun _ => letGo (#[] : Array Value).toList.reverse >>= fun _ => Builtin.List.listExtendWith (.ref s.heap.objs.size) (.ref e) .none) _ _ _
  refine wpAny_bind (wpAny_updateSeq hS rfl ?_)
  have hS₂ := Heap.get?_update_self (Obj.mapSeq (fun _ => (#[] : Array Value))) hS rfl
  have oth : ∀ b o, b ≠ s.heap.objs.size → (s.heap.push { cls := .type "list", data := .seq #[] }).get? b = some o → ((s.heap.push { cls := .type "list", data := .seq #[] }).update s.heap.objs.size (Obj.mapSeq (fun _ => (#[] : Array Value)))).get? b = some o :=
    fun b o hb q => (Heap.get?_update_other _ _ (Ne.symm hb)).trans q
  refine wpAny_bind (wpAny_letGo ?_)
  refine extend_E (prog := prog) (w := w) (A := A.in1) (R := wants (fun r s₂ => r = Value.none ∧ Q (Value.ref s.heap.objs.size) s₂) E) (s := { s with heap := (s.heap.push { cls := .type "list", data := .seq #[] }).update s.heap.objs.size (Obj.mapSeq (fun _ => (#[] : Array Value))) }) (a := a) (its := its) (lo := s.heap.objs.size) hh hei hea hai (Nat.ne_of_gt le) (Nat.ne_of_gt li) (Nat.ne_of_gt la) (Nat.le_refl _) (Nat.le_of_lt le) (Nat.le_of_lt li) hn .none _ (oth _ _ (Nat.ne_of_lt le) (Heap.get?_push_of_some _ he)) (hit.at fun o q => oth it o (Nat.ne_of_lt li) (Heap.get?_push_of_some _ q)) (ha.at fun o q => oth a o (Nat.ne_of_lt la) (Heap.get?_push_of_some _ q))
    (by rw [Heap.size_update, hsz]; exact Nat.lt_succ_self _) hS₂ fun h' tk acc c as hk hS' hacc hal hG => ?_
  exact ⟨rfl, hQ h' tk acc c as (fun b o b1 b2 q => hk b o b1 b2 (Nat.ne_of_lt (Heap.lt_size q)) (oth b o (Nat.ne_of_lt (Heap.lt_size q)) (Heap.get?_push_of_some _ q))) hS' hacc hal hG⟩
end
end LEn
end PySem
namespace N1
open PySem PySem.Spec PyProof.Rows L2
/-- the pairs laid, the last one first -/
def layE (H : Hp) : List Addr → List V → Nat → Hp
  | a :: as, x :: xs, i => upd (layE H as xs (i + 1)) a (.tup [.int (i : Nat), x])
  | _, _, _ => H
theorem layE_ne {H : Hp} {b : Addr} : ∀ {as : List Addr} {xs : List V} {i : Nat}, b ∉ as → layE H as xs i b = H b
  | [], xs, i, _ => by cases xs <;> rfl
  | a :: as, [], i, _ => rfl
  | a :: as, x :: xs, i, h => by
    unfold layE
    rw [upd_ne (fun e => h (by simp [e]))]
    exact layE_ne fun z => h (List.mem_cons_of_mem _ z)
def enumI : Nat → List D → List D
  | _, [] => []
  | i, d :: ds => .tup [.int (i : Nat), d] :: enumI (i + 1) ds
theorem enumI_eq : ∀ (i : Nat) (ds : List D), enumI i ds = (ds.zipIdx i).map fun p => D.tup [.int (p.2 : Nat), p.1]
  | _, [] => rfl
  | i, d :: ds => by rw [List.zipIdx_cons, List.map_cons, ← enumI_eq (i + 1) ds]; rfl
theorem enumI_len : ∀ (i : Nat) (ds : List D), (enumI i ds).length = ds.length
  | _, [] => rfl
  | i, d :: ds => by unfold enumI; rw [List.length_cons, enumI_len, List.length_cons]
section
variable {K : PySem.W.Frag} {S : List (Option D)} {env : List (Option D)} {σ : L2.St} {tp : List (Option D)} {tv : List (Option V)} {H : Hp}
theorem RelO.pops : ∀ {ds : List D} {vs : List V}, ds.length = vs.length → RelO K S env σ (ds.map some ++ tp) (vs.map some ++ tv) H → RelO K S env σ tp tv H
  | [], [], _, h => h
  | [], _ :: _, l, _ => by cases l
  | _ :: _, [], l, _ => by cases l
  | d :: ds, v :: vs, l, h => RelO.pops (Nat.succ.inj l) h.pop
end
theorem enum_build {K : PySem.W.Frag} {S : Sto} {env : Env} {σ : L2.St} {tp : Env} {tv : List (Option V)} {H : Hp} {ds : List D} {xs : List V} (r : Rel K S env σ (ds.map some ++ tp) (xs.map some ++ tv) H) (hF : isFs ds = true) :
    ∀ (dS : List D) (xS : List V) (as : List Addr) (i : Nat) (pD : List D) (pX : List V), ds = pD ++ dS → xs = pX ++ xS → pD.length = i → pX.length = i → dS.length = xS.length → as.length = xS.length → as.Nodup → (∀ a ∈ as, H a = none) →
      Rel K S env σ ((enumI i dS).map some ++ (ds.map some ++ tp)) ((as.map V.ref).map some ++ (xs.map some ++ tv)) (layE H as xS i)
  | [], [], [], i, pD, pX, _, _, _, _, _, _, _, _ => r
  | d :: dS, x :: xS, a :: as, i, pD, pX, e1, e2, l1, l2, l3, l4, nd, hn => by
    obtain ⟨na, nd⟩ := List.nodup_cons.mp nd
    have ih := enum_build r hF dS xS as (i + 1) (pD ++ [d]) (pX ++ [x]) (by rw [e1]; simp) (by rw [e2]; simp) (by simp [l1]) (by simp [l2]) (Nat.succ.inj l3) (Nat.succ.inj l4) nd fun b hb => hn b (List.mem_cons_of_mem _ hb)
    have la : as.length = dS.length := by simp at l3 l4; omega
    have ha : layE H as xS (i + 1) a = none := by rw [layE_ne na]; exact hn a List.mem_cons_self
    obtain ⟨v, ev, w⟩ := View.tmp (k := dS.length + i) ih (d := d) (by rw [List.getElem?_append_right (by simp [enumI_len])]; simp [enumI_len, e1, l1])
    have hv : v = x := by
      rw [List.getElem?_append_right (by simp [la])] at ev
      simp [la, e2, l2] at ev
      exact ev.symm
    subst hv
    have dF : d.isF = true := by
      rw [isFs_all, e1] at hF
      exact List.all_eq_true.mp hF d (by simp)
    have q := RelO.mkTup (ds := [.int (i : Nat), d]) (vs := [.int (i : Nat), v]) rfl (RelO.sc (d := .int (i : Nat)) (v := .int (i : Nat)) (w.push dF) rfl) ha
    unfold layE enumI
    exact q
  | [], _ :: _, _, _, _, _, _, _, _, _, l, _, _, _ => by cases l
  | _ :: _, [], _, _, _, _, _, _, _, _, l, _, _, _ => by cases l
  | [], [], _ :: _, _, _, _, _, _, _, _, _, l, _, _ => by cases l
  | _ :: _, _ :: _, [], _, _, _, _, _, _, _, _, l, _, _ => by cases l
/-- one more new object tracked, the heap being there already -/
theorem lay_one {P : Program} {w : World} {fs : List Addr} {H Hi : Hp} {h h' : Heap} {a : Addr} {o : HO} (u : Un fs [] H Hi h h') (ok : HOk P w Hi h') (hp : h.objs.size ≤ a) (hn : Hi a = none) (new : ObjOk P w (upd Hi a o) h' a o) : Un fs [] H (upd Hi a o) h h' ∧ HOk P w (upd Hi a o) h' := by
  refine ⟨⟨u.keep, u.slot, fun b ob q n hx => ?_, u.there, fun b xs q => ?_, fun b ob y q => ?_, fun b qs q => ?_⟩, fun b y q => ?_⟩
  · rw [upd_ne (Nat.ne_of_lt (Nat.lt_of_lt_of_le (Heap.lt_size q) hp))]; exact u.free b ob q n hx
  · have q2 := u.tups b xs q
    rw [upd_ne (ne_of_none q2 hn)]; exact q2
  · have q2 := u.frzs b ob y q
    rw [upd_ne (ne_of_none q2 hn)]; exact q2
  · obtain ⟨more, q2⟩ := u.tbls b qs q
    exact ⟨more, by rw [upd_ne (ne_of_none q2 hn)]; exact q2⟩
  · by_cases hb : b = a
    · subst hb; rw [upd_same] at q; cases q; exact new
    · rw [upd_ne hb] at q
      exact (ok b y q).stay (fun _ _ _ z => z) (fun d z => by rw [upd_ne (ne_of_none z hn)]; exact z) fun d xs z => by rw [upd_ne (ne_of_none z hn)]; exact z
theorem lay_all {P : Program} {w : World} {fs : List Addr} {H : Hp} {h h' : Heap} (u : Un fs [] H H h h') (ok : HOk P w H h') :
    ∀ (xs : List V) (its : List Value) (as : List Addr) (i : Nat), Vals xs its → as.length = its.length → as.Nodup → (∀ a ∈ as, h.objs.size ≤ a ∧ H a = none) → (∀ j a, as[j]? = some a → ∃ x t, its[j]? = some x ∧ h'.get? a = some { cls := .type "tuple", data := .seq #[.int ((i + j : Nat) : Int) t, x] }) →
      Un fs [] H (layE H as xs i) h h' ∧ HOk P w (layE H as xs i) h'
  | _, _, [], i, .nil, _, _, _, _ => ⟨u, ok⟩
  | x :: xs, y :: its, a :: as, i, .cons r rs, l, nd, hn, g => by
    obtain ⟨na, nd⟩ := List.nodup_cons.mp nd
    obtain ⟨u1, ok1⟩ := lay_all u ok xs its as (i + 1) rs (Nat.succ.inj l) nd (fun b hb => hn b (List.mem_cons_of_mem _ hb)) fun j b hj => by
      obtain ⟨z, t, q1, q2⟩ := g (j + 1) b hj
      exact ⟨z, t, q1, by rw [show i + 1 + j = i + (j + 1) from by omega]; exact q2⟩
    obtain ⟨z, t, q1, q2⟩ := g 0 a rfl
    have ez : y = z := by simpa using q1
    subst ez
    exact lay_one u1 ok1 (hn a List.mem_cons_self).1 (by rw [layE_ne na]; exact (hn a List.mem_cons_self).2) ⟨by show 2 ≤ sizeLine; decide, [.int (i : Nat) t, y], .cons ⟨_, rfl⟩ (.cons r .nil), ⟨_, q2, rfl, _, rfl⟩⟩
  | _, _, _ :: _, _, .nil, l, _, _, _ => by cases l
  | _, _, [], _, .cons _ _, l, _, _, _ => by cases l
def tLstEn (K : PySem.W.Frag) (ta : TA) : TE := fun σ H Q => ta σ H fun vs H1 => ∃ a xs, vs = [.ref a] ∧ SqT K H1 a xs ∧ ∀ (as : List Addr) (p : Addr), as.length = xs.length → as.Nodup → p ∉ as → (∀ b ∈ as, H1 b = none) → H1 p = none → xs.length ≤ sizeLine → Q (.ref p) (upd (layE H1 as xs 0) p (.lst (as.map V.ref)))
theorem vals_refs : ∀ as : List Addr, Vals (as.map V.ref) (as.map Value.ref)
  | [] => .nil
  | a :: as => .cons rfl (vals_refs as)
theorem pe_lstEn {X : Cx} {e : Expr} {ta : TA} {p p2 q pos : Pos} (hc : X.calm = true) (hg : Gl X "list") (hm : X.mg "list" = none) (hg2 : Gl X "enumerate") (hm2 : X.mg "enumerate" = none) (ha : PA X [e] ta)
    (na : starEach [e] X.env = [(false, eval e X.env)] := by rfl) (na2 : starEach [.Call (.Name "enumerate" p2) [e] [] q] X.env = (false, eval (.Call (.Name "enumerate" p2) [e] [] q) X.env) :: starEach [] X.env := by rfl) :
    PE X (.Call (.Name "list" p) [.Call (.Name "enumerate" p2) [e] [] q] [] pos) (tLstEn X.K ta) := by
  refine ⟨fun pins s σ H Q I h => ?_⟩
  refine wpAny_Call_Name_kw (ld_blt I hg hm bt_list ?_ (by decide) (by decide))
  refine PyProof.Rows.callWith_type1 ?_ na2 rfl
  rw [na2]
  show wpAny _ _ (spliced ((false, eval (.Call (.Name "enumerate" p2) [e] [] q) X.env) :: backTo pos (starEach [] X.env))) _ _ s
  refine Calls.spliced_cons ?_
  refine wpAny_Call_Name_kw (ld_blt I hg2 hm2 boot_enumerate ?_ (by decide) (by decide))
  refine PyProof.Rows.callWith_type1 (thn (ha.run q pins s σ H _ I h) fun us s1 ⟨vs, H1, I1, r1, a, xs, ev, hq, k⟩ => ?_) na rfl
  subst ev
  cases r1 with
  | cons r rr =>
    cases rr
    cases r
    obtain ⟨its, rv, pt, hz⟩ := I1.tuple hq
    have la : a < s1.heap.objs.size := by obtain ⟨o, q', _⟩ := pt; exact Heap.lt_size q'
    have hl := rv.length
    refine call_enumerate_tuple (show s1.heap.IsTuple a its.toArray from pt) fun h1 he hit hsz hk => ?_
    refine Calls.spliced_nil ?_
    refine LEn.call_E (s := { s1 with heap := h1 }) (e := s1.heap.objs.size + 1) (it := s1.heap.objs.size) (a := a) (its := its) (I1.ok.hd hc) (Nat.succ_ne_self _) (Nat.ne_of_gt (Nat.lt_succ_of_lt la)) (Nat.ne_of_lt la) (by rw [← hl]; exact hz) he hit
      ((show s1.heap.IsTuple a its.toArray from pt).at fun o q' => hk a o q') fun h' tk acc c as hkp hS hacc hal hG => ?_
    have sz1 : s1.heap.objs.size ≤ h1.objs.size := by rw [hsz]; exact Nat.le_add_right _ _
    have kept : ∀ b o, s1.heap.get? b = some o → h'.get? b = some o := fun b o q' => hkp b o (Nat.ne_of_lt (Nat.lt_succ_of_lt (Heap.lt_size q'))) (Nat.ne_of_lt (Heap.lt_size q')) (hk b o q')
    have fr : ∀ b, s1.heap.objs.size ≤ b → H1 b = none := fun b hb => I1.hok.fresh hb
    have asb : ∀ b ∈ as, h1.objs.size < b := hG.lo
    have pna : h1.objs.size ∉ as := fun z => Nat.lt_irrefl _ (asb _ z)
    have asn : ∀ b ∈ as, s1.heap.objs.size ≤ b ∧ H1 b = none := fun b hb => ⟨Nat.le_trans sz1 (Nat.le_of_lt (asb b hb)), fr b (Nat.le_trans sz1 (Nat.le_of_lt (asb b hb)))⟩
    obtain ⟨u1, ok1⟩ := lay_all (fs := X.fs) (Un.kept kept) (I1.hok.kept kept) xs its as 0 rv hal hG.nd asn fun j b hj => by
      obtain ⟨x, t, q1, q2⟩ := hG.at_ j b hj
      exact ⟨x, t, q1, by rw [Nat.zero_add]; exact q2⟩
    obtain ⟨u2, ok2⟩ := lay_one (o := .lst (as.map V.ref)) u1 ok1 (a := h1.objs.size) sz1 (by rw [layE_ne pna]; exact fr _ sz1) ⟨by rw [List.length_map, hal, ← hl]; exact hz, acc.toList, c, by rw [hacc]; exact vals_refs as, by rw [show h'.get? h1.objs.size = _ from hS]⟩
    exact ⟨.ref h1.objs.size, _, I1.un (t' := tk) u2 ok2, rfl, k as h1.objs.size (by rw [hal, hl]) hG.nd pna (fun b hb => (asn b hb).2) (fr _ sz1) hz⟩
/-- list(enumerate(t)) -/
def eLstEn (ma : MA) : ME := fun env S => (ma env S).bind fun ds S1 => match ds with
  | [.tup es] => if isFs es = true then .ok (.lst true (enumD es)) S1 else .bad
  | _ => .bad
theorem se_lstEn {X : Cx} {e : Expr} {p p2 q pos : Pos} {ma : MA} (hc : X.calm = true) (ha : SA X [e] ma) (hm : X.mg "list" = none := by rfl) (hm2 : X.mg "enumerate" = none := by rfl) (hg : Gl X "list" := by rfl) (hg2 : Gl X "enumerate" := by rfl)
    (na : starEach [e] X.env = [(false, eval e X.env)] := by rfl) (na2 : starEach [.Call (.Name "enumerate" p2) [e] [] q] X.env = (false, eval (.Call (.Name "enumerate" p2) [e] [] q) X.env) :: starEach [] X.env := by rfl) :
    SE X (.Call (.Name "list" p) [.Call (.Name "enumerate" p2) [e] [] q] [] pos) (eLstEn ma) := by
  refine pe_imp (pe_lstEn hc hg hm hg2 hm2 ha na na2) ?_
  rintro σ H Q ⟨env, S, tp, tv, h, q⟩
  refine ⟨env, S, tp, tv, h, ?_⟩
  unfold eLstEn at q
  cases z1 : ma env S with
  | bad => rw [z1] at q; exact q.elim
  | exn _ _ => rw [z1] at q; first | exact q | exact PostX.pop q | exact PostX.pop (PostX.pop q) | exact PostX.popA (by assumption) q | exact PostXS.toX q | exact PostX.pop (PostXS.toX q) | exact PostX.popA (by assumption) (PostXS.toX q) | exact PostXS.pop q | exact False.elim q
  | ok ds S1 =>
    rw [z1] at q
    intro vs H1 l r1
    simp only [R.bind] at q
    split at q
    · rename_i es
      split at q
      · rename_i hF
        obtain ⟨v, rfl⟩ : ∃ v, vs = [v] := by
          match vs, l with
          | [v], _ => exact ⟨v, rfl⟩
        obtain ⟨a, xs, e1, _, _, hT, ll, r2⟩ := (View.top r1).spread (ds := es) rfl hF
        subst e1
        refine ⟨a, xs, rfl, hT ⟨es, rfl⟩, fun as pp l1 nd np hn hp hz => ?_⟩
        refine q _ _ ?_
        have b := enum_build r2 hF es xs as 0 [] [] rfl rfl rfl rfl ll l1 nd hn
        have b2 := RelO.mkLst (ds := enumI 0 es) (vs := as.map V.ref) (by rw [enumI_len, List.length_map, l1, ll]) b (p := pp) (by rw [layE_ne np]; exact hp)
        rw [enumI_eq] at b2
        have b3 := RelO.swap (as := [some (.lst true (enumD es))]) (bs := es.map some) (xs := [some (.ref pp)]) (ys := xs.map some) rfl (by rw [List.length_map, List.length_map, ll]) b2
        exact RelO.pop2 (RelO.pops ll b3)
      · exact q.elim
    · exact q.elim
end N1
end
section
namespace N1
open PySem PySem.Spec PyProof.Rows L2
section
variable {prog : Program} {w : World} {A : Around} {R : Result → Shared → Prop} {s : Shared} {kx vx t0 i0 t1 i1 : Expr} {f0 f1 : List Expr} {scope : Scope} {pos : Pos} {it : Value} {D : Addr} {env : PySem.Env}
/-- where an exception goes -/
abbrev out (prog : Program) (w : World) (A : Around) (env : PySem.Env) (R : Result → Shared → Prop) : Value → Shared → Prop := notedBy (model prog w) A env fun e s' => R (.error e) s'
end
end N1
end
section
namespace N1
open PySem PySem.Spec PyProof.Rows L2
end N1
end
section
namespace N1
open PySem PySem.Spec PyProof.Rows L2
section
variable {K : PySem.W.Frag} {F : Addr → Prop} {mu : List Addr} {H : Hp} {c : Addr} {od : Obj} {kvs : List (Key × V)}
theorem lk_rd {a : Addr} {u : HO} (hc : H c = some (.dK kvs)) (h : Rd H a u) : Rd (upd H c (.frz od (.dK kvs))) a u := by
  by_cases e : a = c
  · subst e
    rcases h with h | ⟨o, h⟩
    · rw [hc] at h
      cases h
      exact .inr ⟨od, upd_same⟩
    · rw [hc] at h
      cases h
  · rcases h with h | ⟨o, h⟩
    · exact .inl (by rw [upd_ne e]; exact h)
    · exact .inr ⟨o, by rw [upd_ne e]; exact h⟩
mutual
theorem Rp.lk (hc : H c = some (.dK kvs)) : ∀ (d : D) (v : V) (o : List Addr), (∀ a ∈ o, a ≠ c) → Rp K F mu H d v o → Rp K F mu (upd H c (.frz od (.dK kvs))) d v o
  | .non, _, _, _, h => by unfold Rp at h ⊢; exact h
  | .bl _, _, _, _, h => by unfold Rp at h ⊢; exact h
  | .int _, _, _, _, h => by unfold Rp at h ⊢; exact h
  | .str _, _, _, _, h => by unfold Rp at h ⊢; exact h
  | .tup ds, v, o, hp, h => by
    unfold Rp at h ⊢
    obtain ⟨a, xs, e, hs, r⟩ := h
    refine ⟨a, xs, e, ?_, Rps.lk hc ds xs o hp r⟩
    rw [upd_ne (fun z => by rw [← z, hs] at hc; cases hc)]
    exact hs
  | .lst own ds, v, o, hp, h => by
    unfold Rp at h ⊢
    obtain ⟨a, xs, o', e, r, q⟩ := h
    rcases q with ⟨e1, q, e2⟩ | ⟨e1, q, e2, e3⟩
    · exact ⟨a, xs, o', e, Rps.lk hc ds xs o' (fun b hb => hp b (by rw [e2]; exact List.mem_cons_of_mem _ hb)) r, .inl ⟨e1, by rw [upd_ne (hp a (by rw [e2]; exact List.mem_cons_self))]; exact q, e2⟩⟩
    · refine ⟨a, xs, o', e, Rps.lk hc ds xs o' (fun b hb => by rw [e3] at hb; cases hb) r, .inr ⟨e1, ?_, e2, e3⟩⟩
      rcases q with ⟨f, q⟩ | q
      · exact .inl ⟨f, lk_rd hc q⟩
      · exact .inr q
  | .dct own ks ds, v, o, hp, h => by
    unfold Rp at h ⊢
    obtain ⟨a, xs, o', e, hl, r, q⟩ := h
    rcases q with ⟨e1, q, e2⟩ | ⟨e1, f, q, e2, e3⟩
    · exact ⟨a, xs, o', e, hl, Rps.lk hc ds xs o' (fun b hb => hp b (by rw [e2]; exact List.mem_cons_of_mem _ hb)) r, .inl ⟨e1, by rw [upd_ne (hp a (by rw [e2]; exact List.mem_cons_self))]; exact q, e2⟩⟩
    · exact ⟨a, xs, o', e, hl, Rps.lk hc ds xs o' (fun b hb => by rw [e3] at hb; cases hb) r, .inr ⟨e1, f, lk_rd hc q, e2, e3⟩⟩
  | .ref n, _, _, _, h => by
    unfold Rp at h ⊢
    exact h
  | .dtt own ks ds, v, o, hp, h => by
    unfold Rp at h ⊢
    obtain ⟨a, xs, o', e, hl, r, q⟩ := h
    rcases q with ⟨e1, q, e2⟩ | ⟨e1, f, q, e2, e3⟩
    · exact ⟨a, xs, o', e, hl, Rps.lk hc ds xs o' (fun b hb => hp b (by rw [e2]; exact List.mem_cons_of_mem _ hb)) r, .inl ⟨e1, by rw [upd_ne (hp a (by rw [e2]; exact List.mem_cons_self))]; exact q, e2⟩⟩
    · exact ⟨a, xs, o', e, hl, Rps.lk hc ds xs o' (fun b hb => by rw [e3] at hb; cases hb) r, .inr ⟨e1, f, lk_rd hc q, e2, e3⟩⟩
  | .lck a q u, v, o, hp, h => by
    unfold Rp at h ⊢
    refine ⟨h.1, ?_, h.2.2⟩
    rw [upd_ne (fun e => by rw [← e, h.2.1] at hc; cases hc)]
    exact h.2.1
  | .obj own c' ks ds, v, o, hp, h => by
    unfold Rp at h ⊢
    obtain ⟨a, dx, C, xs, o', e, hl, hn, r, q⟩ := h
    rcases q with ⟨e1, q, e2⟩ | ⟨e1, f, q, e2, e3⟩
    · exact ⟨a, dx, C, xs, o', e, hl, hn, Rps.lk hc ds xs o' (fun b hb => hp b (by rw [e2]; exact List.mem_cons_of_mem _ hb)) r, .inl ⟨e1, by rw [upd_ne (hp a (by rw [e2]; exact List.mem_cons_self))]; exact q, e2⟩⟩
    · exact ⟨a, dx, C, xs, o', e, hl, hn, Rps.lk hc ds xs o' (fun b hb => by rw [e3] at hb; cases hb) r, .inr ⟨e1, f, lk_rd hc q, e2, e3⟩⟩
  | .exc c' ks ds, v, o, hp, h => by
    unfold Rp at h ⊢
    obtain ⟨a, d, C, xs, e, hl, hn, r, q1, q2⟩ := h
    refine ⟨a, d, C, xs, e, hl, hn, Rps.lk hc ds xs o hp r, ?_, ?_⟩
    · rw [upd_ne (fun e => by rw [← e, q1] at hc; cases hc)]
      exact q1
    · cases d with
      | none => exact q2
      | some d =>
        show upd H c _ d = _
        rw [upd_ne (fun e => by rw [← e] at hc; rw [show H d = _ from q2] at hc; cases hc)]
        exact q2
  | .lam f c' q, v, o, hp, h => by
    unfold Rp at h ⊢
    refine ⟨h.1, ?_, h.2.2⟩
    rw [upd_ne (fun e => by rw [← e, h.2.1] at hc; cases hc)]
    exact h.2.1
  | .tab q, v, o, hp, h => by
    unfold Rp at h ⊢
    obtain ⟨P, e, ht, ⟨ps, h1, h2, h3⟩, h4⟩ := h
    refine ⟨P, e, ht, ⟨ps, ?_, h2, fun pos cv hcv => ?_⟩, h4⟩
    · rw [upd_ne (fun e => by rw [← e, h1] at hc; cases hc)]
      exact h1
    · obtain ⟨c', e1, e2⟩ := h3 pos cv hcv
      exact ⟨c', e1, by rw [upd_ne (fun e => by rw [← e, e2] at hc; cases hc)]; exact e2⟩
theorem Rps.lk (hc : H c = some (.dK kvs)) : ∀ (ds : List D) (vs : List V) (o : List Addr), (∀ a ∈ o, a ≠ c) → Rps K F mu H ds vs o → Rps K F mu (upd H c (.frz od (.dK kvs))) ds vs o
  | [], _, _, _, h => by unfold Rps at h ⊢; exact h
  | d :: ds, vs, o, hp, h => by
    unfold Rps at h ⊢
    obtain ⟨x, xs, o1, o2, e1, e2, r, rs⟩ := h
    exact ⟨x, xs, o1, o2, e1, e2, Rp.lk hc d x o1 (fun a ha => hp a (by rw [e2]; exact List.mem_append_left _ ha)) r, Rps.lk hc ds xs o2 (fun a ha => hp a (by rw [e2]; exact List.mem_append_right _ ha)) rs⟩
end
theorem RpO.lk (hc : H c = some (.dK kvs)) : ∀ (ds : List (Option D)) (vs : List (Option V)) (o : List Addr), (∀ a ∈ o, a ≠ c) → RpO K F mu H ds vs o → RpO K F mu (upd H c (.frz od (.dK kvs))) ds vs o
  | [], _, _, _, h => by unfold RpO at h ⊢; exact h
  | none :: ds, vs, o, hp, h => by
    unfold RpO at h ⊢
    obtain ⟨v, vs', e, r⟩ := h
    exact ⟨v, vs', e, RpO.lk hc ds vs' o hp r⟩
  | some d :: ds, vs, o, hp, h => by
    unfold RpO at h ⊢
    obtain ⟨x, xs, o1, o2, e1, e2, r, rs⟩ := h
    exact ⟨x, xs, o1, o2, e1, e2, Rp.lk hc d x o1 (fun a ha => hp a (by rw [e2]; exact List.mem_append_left _ ha)) r, RpO.lk hc ds xs o2 (fun a ha => hp a (by rw [e2]; exact List.mem_append_right _ ha)) rs⟩
end
section
variable {K : PySem.W.Frag} {S : Sto} {env : Env} {σ : L2.St} {tp : Env} {tv : List (Option V)} {H : Hp} {v : V}
theorem RelO.lk {F : Addr → Prop} {mu oS oE oT : List Addr} {SS : List (Option D)} {c : Addr} {od : Obj} {kvs : List (Key × V)} (hc : H c = some (.dK kvs)) (hf : F c) (h : RelW K F mu oS oE oT SS env σ tp tv H) : RelW K F mu oS oE oT SS env σ tp tv (upd H c (.frz od (.dK kvs))) := by
  obtain ⟨h1, h2, h3, h4⟩ := h
  have ne : ∀ a ∈ oS ++ (oE ++ oT), a ≠ c := fun a ha e => (h4.ow a ha).2 (by rw [e]; exact hf)
  refine ⟨RpO.lk hc _ _ _ (fun a z => ne a (by simp [z])) h1, RpO.lk hc _ _ _ (fun a z => ne a (by simp [z])) h2, RpO.lk hc _ _ _ (fun a z => ne a (by simp [z])) h3, h4.nd, fun a ha => ?_, fun a q => ?_⟩
  · rw [upd_ne (ne a ha)]
    exact h4.ow a ha
  · by_cases e : a = c
    · subst e; rw [upd_same]; simp
    · rw [upd_ne e]; exact h4.tr a q
/-- a dict that stands still, seen: it may be locked -/
theorem View.lk {ks : List Key} {vs : List D} (h : View K S env σ tp tv H (.dct false ks vs) v) : ∃ (a : Addr) (kvs : List (Key × V)), v = .ref a ∧
    ((H a = some (.dK kvs) ∧ ∀ od, Rel K S env σ (some (.dct false ks vs) :: some (.lck a od (.dK kvs)) :: tp) (some v :: some (.ref a) :: tv) (upd H a (.frz od (.dK kvs)))) ∨
     ∃ od, H a = some (.frz od (.dK kvs)) ∧ Rel K S env σ (some (.dct false ks vs) :: some (.lck a od (.dK kvs)) :: tp) (some v :: some (.ref a) :: tv) H) := by
  obtain ⟨F, mu, oS, oE, oT, o, h, r, _⟩ := h
  have r' := r
  unfold Rp at r'
  obtain ⟨a, xs, o', e, lk, r1, q⟩ := r'
  rcases q with ⟨e1, _⟩ | ⟨_, f, q, e2, e3⟩
  · cases e1
  · subst e2
    refine ⟨a, ks.zip xs, e, ?_⟩
    rcases q with q | ⟨od, q⟩
    · refine .inl ⟨q, fun od => ?_⟩
      have h5 := RelO.lk (od := od) q f h
      have r5 : Rp K F mu (upd H a (.frz od (.dK (ks.zip xs)))) (.lck a od (.dK (ks.zip xs))) (.ref a) [] := by
        unfold Rp
        exact ⟨rfl, upd_same, rfl⟩
      have h6 : RelW K F mu oS oE ([] ++ oT) (S.map some) env σ (some (.lck a od (.dK (ks.zip xs))) :: tp) (some (.ref a) :: tv) (upd H a (.frz od (.dK (ks.zip xs)))) := ⟨h5.1, h5.2.1, RpO.cons_mk r5 h5.2.2.1, h5.2.2.2⟩
      exact RelO.push h6 (Rp.lk q _ _ _ (fun b hb => nomatch hb) r)
    · refine .inr ⟨od, q, ?_⟩
      have r5 : Rp K F mu H (.lck a od (.dK (ks.zip xs))) (.ref a) [] := by
        unfold Rp
        exact ⟨rfl, q, rfl⟩
      have h6 : RelW K F mu oS oE ([] ++ oT) (S.map some) env σ (some (.lck a od (.dK (ks.zip xs))) :: tp) (some (.ref a) :: tv) H := ⟨h.1, h.2.1, RpO.cons_mk r5 h.2.2.1, h.2.2.2⟩
      exact RelO.push h6 r
end
end N1
end
section
namespace N1
open PySem PySem.Spec PyProof.Rows L2
theorem View.dtt {K : PySem.W.Frag} {S : Sto} {env : Env} {σ : L2.St} {tp : Env} {tv : List (Option V)} {H : Hp} {b : Bool} {ks : List (List Key)} {vs : List D} {v : V} (h : View K S env σ tp tv H (.dtt b ks vs) v) : ∃ a xs, v = .ref a ∧ Rd H a (.dT (ks.zip xs)) ∧ ks.length = vs.length ∧ vs.length = xs.length ∧ ∀ (i : Nat) (c : D), vs[i]? = some c → ∃ x, xs[i]? = some x ∧ View K S env σ tp tv H c x := by
  obtain ⟨F, mu, oS, oE, oT, o, w, r, s⟩ := h
  unfold Rp at r
  obtain ⟨a, xs, o', e1, lk, r, q⟩ := r
  have ho : ∀ z ∈ o', z ∈ oS ++ (oE ++ oT) := fun z hz => by
    rcases q with ⟨_, _, e2⟩ | ⟨_, _, _, _, e3⟩
    · exact s z (by rw [e2]; exact List.mem_cons_of_mem _ hz)
    · rw [e3] at hz; cases hz
  refine ⟨a, xs, e1, ?_, lk, r.len, fun i c ei => ?_⟩
  · rcases q with ⟨_, q, _⟩ | ⟨_, _, q, _⟩
    · exact .inl q
    · exact q
  · obtain ⟨x, q1, e2, r1, s1⟩ := r.at_ ei
    exact ⟨x, e2, F, mu, oS, oE, oT, q1, w, r1, fun z hz => ho z (s1 z hz)⟩
end N1
end
section
namespace N1
open PySem PySem.Spec PyProof.Rows L2
end N1
end
section
namespace N1
open PySem PySem.Spec PyProof.Rows L2
abbrev TupI (its : List Value) (ns : List Int) : Prop := IntsAre its ns
/-- v is a tuple of these ints -/
def IsTI (h : Heap) (v : Value) (ns : List Int) : Prop := ∃ (a : Addr) (o : Obj) (items : Array Value) (n : Nat), v = .ref a ∧ h.get? a = some o ∧ o.cls = .type "tuple" ∧ o.data = .seq items n ∧ TupI items.toList ns
theorem IsTI.keeps {h h' : Heap} {v : Value} {ns : List Int} (x : IsTI h v ns) (k : ∀ b o, h.get? b = some o → o.cls = .type "tuple" → h'.get? b = some o) : IsTI h' v ns := by
  obtain ⟨a, o, items, n, e, g, c, d, i⟩ := x
  exact ⟨a, o, items, n, e, k a o g c, c, d, i⟩
end N1
end
section
namespace N1
open PySem PySem.Spec PyProof.Rows L2 SrtO
end N1
end
section
namespace N1
open PySem PySem.Spec PyProof.Rows L2
end N1
end
section
namespace N1
open PySem PySem.Spec PyProof.Rows L2
section
variable {K : PySem.W.Frag} {S : Sto} {env : Env} {σ : L2.St} {tp : Env} {tv : List (Option V)} {H : Hp} {d : D} {v : V}
theorem View.obj {c : Str} {ks : List Str} {vs : List D} (h : View K S env σ tp tv H (.obj true c ks vs) v) : ∃ a dx C xs, v = .ref a ∧ H a = some (.ins C dx (ks.zip xs)) ∧ PySem.W.nsIn K mainGlobals c = some (some (.ref C)) ∧ ks.length = vs.length ∧ vs.length = xs.length ∧
    ∀ (i : Nat) (d : D), vs[i]? = some d → ∃ x, xs[i]? = some x ∧ View K S env σ tp tv H d x := by
  obtain ⟨F, mu, oS, oE, oT, o, w, r, s⟩ := h
  unfold Rp at r
  obtain ⟨a, dx, C, xs, o', e1, lk, hn, r, q⟩ := r
  rcases q with ⟨_, q, e2⟩ | ⟨e1, _⟩
  · refine ⟨a, dx, C, xs, e1, q, hn, lk, r.len, fun i d ei => ?_⟩
    obtain ⟨x, q1, e3, r1, s1⟩ := r.at_ ei
    exact ⟨x, e3, F, mu, oS, oE, oT, q1, w, r1, fun z hz => s z (by rw [e2]; exact List.mem_cons_of_mem _ (s1 z hz))⟩
  · cases e1
end
end N1
end
section
namespace N1
open PySem PySem.Spec PyProof.Rows L2
end N1
end
section
namespace N1
open PySem PySem.Spec PyProof.Rows L2
end N1
end
section
namespace N1
open PySem PySem.Spec PyProof.Rows L2
end N1
end
section
namespace N1
open PySem PySem.Spec PyProof.Rows L2
end N1
end
section
namespace N1
open PySem PySem.Spec PyProof.Rows L2
end N1
end
section
namespace N1
open PySem PySem.Spec PyProof.Rows L2 PySem.Calls PySem.Builtin
end N1
end
section
namespace N1
open PySem PySem.Spec PyProof.Rows L2
end N1
end
section
namespace N1
open PySem PySem.Spec PyProof.Rows L2
end N1
end
section
namespace N1
open PySem PySem.Spec PyProof.Rows L2
section
variable {X : Cx} {k n np : Nat} {sp : Sp} {E : XK} {x : Str} {p pos : Pos} {e : Expr} {es : List Expr} {kws : List Keyword} {t tk : TA} {ks : List Str}
theorem RelO.scs {K : PySem.W.Frag} {S : Sto} {env : Env} {σ : L2.St} {tp : Env} {tv : List (Option V)} {H : Hp} (h : Rel K S env σ tp tv H) : ∀ {dd : List D} {dv : List V}, dd.map D.sc = dv.map some → Rel K S env σ (dd.map some ++ tp) (dv.map some ++ tv) H
  | [], [], _ => h
  | [], _ :: _, e => by simp at e
  | _ :: _, [], e => by simp at e
  | d :: dd, v :: dv, e => by
    simp only [List.map_cons, List.cons.injEq] at e
    exact RelO.sc (RelO.scs h e.2) e.1
variable {m : Fn} {ma mk : MA} {is : List Nat} {dd : List D} {nk : Nat}
end
end N1
end
section
namespace N1
open PySem PySem.Spec PyProof.Rows L2
end N1
end
section
namespace N1
open PySem PySem.Spec PyProof.Rows L2
end N1
end
section
namespace N1
open PySem PySem.Spec PyProof.Rows L2 PySem.Calls PySem.Builtin
end N1
end
section
namespace N1
open PySem PySem.Spec PyProof.Rows L2
end N1
end
section
namespace N1
open PySem PySem.Spec PyProof.Rows L2
end N1
end
section
namespace N1
open PySem PySem.Spec PyProof.Rows L2
end N1
end
section
namespace N1
open PySem PySem.Spec PyProof.Rows L2
def eDGetV (i : Nat) (mk : MB) (mx : ME) : ME := fun env S => match (env[i]?).join, mk env S with
  | some (.dct _ ks vs), some kd => match keyD kd with
    | some k => (mx env S).bind fun x S1 => match valD ks vs k with
      | some v => if v.isF = true then .ok v S1 else .bad
      | none => .ok x S1
    | none => .bad
  | _, _ => .bad
section
variable {X : Cx} {o e f : Expr} {pos apos cpos : Pos} {mk : MB} {mx : ME} {i : Nat}
theorem se_dgetV (hu : X.A.units + 65 < cLine) (ho : PE X o (tVar i)) (he : SB X e mk) (hf : SE X f mx)
    (hb : attributeBase o "get" X.env (eval o X.env) = eval o X.env := by rfl)
    (hw : ((backTo cpos (starEach [e, f] X.env)).all (fun x => !x.1) && (backToKw cpos (keywordEach [] X.env)).all (fun x => x.1.isSome) && decide (([e, f] : List Expr).length + ([] : List Keyword).length + (if ([] : List Keyword).isEmpty then 0 else 1) < 30)) = true := by rfl)
    (hl : (apos.endLine == cpos.line) = true := by rfl) (ht : backTo cpos (starEach [e, f] X.env) = [(false, eval e X.env), (false, eval f X.env)] := by rfl) :
    SE X (.Call (.Attribute o "get" apos) [e, f] [] cpos) (eDGetV i mk mx) := by
  refine pe_imp (pe_dget2 (by omega) ho he hf ⟨hb, hw, hl, ht⟩) ?_
  rintro σ H Q ⟨env, S, tp, tv, r, q⟩
  unfold eDGetV at q
  cases z1 : (env[i]?).join with
  | none => rw [z1] at q; exact q.elim
  | some dd =>
    rw [z1] at q
    cases dd with
    | dct b ks vs =>
      cases z2 : mk env S with
      | none => rw [z2] at q; exact q.elim
      | some kd =>
        rw [z2] at q
        simp only at q
        cases z3 : keyD kd with
        | none => rw [z3] at q; exact q.elim
        | some k =>
          rw [z3] at q
          replace q : PostM (kt X) env σ tp tv Q ((mx env S).bind fun x S1 => match valD ks vs k with
            | some v => if v.isF = true then .ok v S1 else .bad
            | none => .ok x S1) := q
          have ei := join_some z1
          obtain ⟨u, eu, w0⟩ := View.slot r ei
          obtain ⟨a, xs, ea, hd, _, _, _⟩ := w0.dct
          subst ea
          refine ⟨.ref a, eu, a, rfl, .inl ⟨_, hd⟩, env, S, tp, tv, _, r, z2, fun y wy => ⟨env, S, tp, tv, r, ?_⟩⟩
          have ey := wy.sc_inv (keyD_sc z3)
          cases z4 : mx env S with
          | bad => rw [z4] at q; exact q.elim
          | exn _ _ => rw [z4] at q; first | exact q | exact PostX.pop q | exact PostX.pop (PostX.pop q) | exact PostX.popA (by assumption) q | exact PostXS.toX q | exact PostX.pop (PostXS.toX q) | exact PostX.popA (by assumption) (PostXS.toX q) | exact PostXS.pop q | exact False.elim q
          | ok x S1 =>
            rw [z4] at q
            simp only [R.bind] at q
            intro z H1 r1
            obtain ⟨u2, eu2, w1⟩ := View.slot r1.pop ei
            rw [eu] at eu2
            have : u2 = .ref a := by simpa using eu2.symm
            subst this
            obtain ⟨a2, xs2, ea2, hd2, lk2, l2, it2⟩ := w1.dct
            cases ea2
            refine ⟨valV (ks.zip xs2) k, .inl ⟨_, k, hd2, ey, rfl⟩, ?_⟩
            cases z5 : valD ks vs k with
            | some v =>
              rw [z5] at q
              obtain ⟨v', hv', wv⟩ := find_zip l2 it2 z5
              rw [hv']
              simp only at q
              split at q
              · rename_i hF
                exact q v' H1 (wv.push hF)
              · exact q.elim
            | none =>
              rw [z5] at q
              rw [find_zip0 l2 z5]
              exact q z H1 r1
    | _ => exact q.elim
end
end N1
end
section
namespace N1
open PySem PySem.Spec PyProof.Rows L2
end N1
end
section
namespace L02
open PySem PySem.Spec PyProof.Rows L2 N1
noncomputable section
def top (i : Nat) : Stmt := PySem.Challenge.pw_nextmarks_k02_which_mark_may_follow.main.body.getD i (.Pass ⟨0, 0, 0, 0⟩)
abbrev s_may_follow : Stmt := top 1
def b_may_follow : MS := (sRet (eAnd (eB (bOp fLtI (bVar 1) (bFn fLen (abCons (bVar 0) abNil)))) (eB (bOp fIn (bVar 2) (bOp ixD (bVar 0) (bVar 1))))))
def f_may_follow : Fn := fnOf 3 b_may_follow
theorem sc_may_follow : FnScope ["rule", "mark", "other"] ["rule", "mark", "other"] (defScope s_may_follow) := ⟨rfl, rfl, rfl, by decide +kernel, rfl, by decide +kernel, by decide +kernel⟩
set_option maxHeartbeats 200000 in
theorem ok_may_follow {P : Program} {w : World} {K : PySem.W.Frag} {mg : Str → Option Value} {base : Heap} {f : Addr} {fd : FuncData} (F : Fun K "may_follow" "may_follow" s_may_follow f fd) (z_len : mg "len" = none) : FnG P w K mg base (L2.CX P w) 1 f fd ["rule", "mark", "other"] (spM K 3 f_may_follow) := by
  have key := fn_mk (P := P) (w := w) (K := K) (mg := mg) (base := base) (k := 0) (f := f) (fd := fd) (stm := s_may_follow) (body := b_may_follow) F sc_may_follow (by
    intro cdv A outer s H E hr hG
    have hu := hu_room hr
    exact (ss_one (s_ret (se_and (se_b (sb_lt (sb_var 1) (sb_fn cl_len z_len bt_len opv_len (sab_cons (sb_var 0) sab_nil)))) (se_one (se_b (sb_in hu (sb_var 2) (sb_ix (sb_var 0) (sb_var 1)))))))))
  exact key
abbrev s_law_pot : Stmt := top 3
def b_law_pot : MS := (sSeq (sSet 2 (eIf (tE (eB (bOp fLtI (bVar 1) (bFn fLen (abCons (bVar 0) abNil))))) (eB (bOp ixD (bVar 0) (bVar 1))) (eB (bOp fAddI (bOp fMulI (bC (.int 17)) (bVar 1)) (bC (.int 3))))))
  (sSeq (sSet 3 (eIf (tE (eB (bOp fGeI (bFn fAbs (abCons (bVar 2) abNil)) (bOp fPowI (bC (.int 10)) (bC (.int 18)))))) (eB (bOp fModI (bFn fAbs (abCons (bVar 2) abNil)) (bOp fPowI (bOp fPowI (bC (.int 10)) (bC (.int 60))) (bC (.int 3))))) (eB (bC (.int 0)))))
  (sRet (eCell (eLst (aCons (eB (bVar 3)) (aCons (eB (bOp fModI (bOp fAddI (bOp fAddI (bOp fMulI (bOp fModI (bVar 2) (bC (.int 2305843009213693951))) (bC (.int 69621))) (bOp fMulI (bOp fMulI (bC (.int 104729)) (bVar 1)) (bVar 1))) (bC (.int 71))) (bC (.int 2305843009213693921)))) (aCons (eB (bC (.int 0))) aNil))))))))
def f_law_pot : Fn := fnOf 4 b_law_pot
theorem sc_law_pot : FnScope ["_law_script", "_law_k", "_law_cell", "_law_great"] ["_law_script", "_law_k"] (defScope s_law_pot) := ⟨rfl, rfl, rfl, by decide +kernel, rfl, by decide +kernel, by decide +kernel⟩
set_option maxHeartbeats 200000 in
theorem ok_law_pot {P : Program} {w : World} {K : PySem.W.Frag} {mg : Str → Option Value} {base : Heap} {f : Addr} {fd : FuncData} (F : Fun K "_law_pot" "_law_pot" s_law_pot f fd) (z_abs : mg "abs" = none) (z_len : mg "len" = none) : FnG P w K mg base (L2.CX P w) 1 f fd ["_law_script", "_law_k"] (spM K 2 f_law_pot) := by
  have key := fn_mk (P := P) (w := w) (K := K) (mg := mg) (base := base) (k := 0) (f := f) (fd := fd) (stm := s_law_pot) (body := b_law_pot) F sc_law_pot (by
    intro cdv A outer s H E hr hG
    have hu := hu_room hr
    exact (ss_cons (s_set sc_law_pot.nd (i := 2) (se_if (st_ltB (sb_var 1) (sb_fn cl_len z_len bt_len opv_len (sab_cons (sb_var 0) sab_nil))) (se_b (sb_ix (sb_var 0) (sb_var 1))) (se_b (sb_add (sb_mul sb_int (sb_var 1)) sb_int))))
  (ss_cons (s_set sc_law_pot.nd (i := 3) (se_if (st_geB (sb_fn call_abs z_abs bt_abs opv_abs (sab_cons (sb_var 2) sab_nil)) (sb_pow sb_int sb_int)) (se_b (sb_mod (sb_fn call_abs z_abs bt_abs opv_abs (sab_cons (sb_var 2) sab_nil)) (sb_pow (sb_pow sb_int sb_int) sb_int))) (se_b sb_int)))
  (ss_one (s_ret (se_cell (se_lst (sa_cons (se_b (sb_var 3)) (sa_cons (se_b (sb_mod (sb_add (sb_add (sb_mul (sb_mod (sb_var 2) sb_int) sb_int) (sb_mul (sb_mul sb_int (sb_var 1)) (sb_var 1))) sb_int) sb_int)) (sa_cons (se_b sb_int) sa_nil))))))))))
  exact key
abbrev s_law_take : Stmt := top 4
def b_law_take : MS := (sSeq (sIf (tE (eB (bOp fGtI (bOp ixD (bVar 0) (bC (.int 0))) (bC (.int 0))))) (sSeq (sSet 2 (eB (bOp fModI (bOp ixD (bVar 0) (bC (.int 0))) (bVar 1))))
  (sSeq (sPut 0 (bC (.int 0)) (eB (bOp fDivI (bOp ixD (bVar 0) (bC (.int 0))) (bVar 1))))
  (sRet (eB (bVar 2)))))
  sNil)
  (sSeq (sPut 0 (bC (.int 2)) (eB (bOp fAddI (bOp ixD (bVar 0) (bC (.int 2))) (bC (.int 1)))))
  (sSeq (sSet 3 (eOp ixD (eFrz (eLst (aCons (eB (bC (.int 2147483647))) (aCons (eB (bC (.int 2147483629))) (aCons (eB (bC (.int 2147483587))) (aCons (eB (bC (.int 2147483579))) (aCons (eB (bC (.int 2147483563))) aNil))))))) (eB (bOp fModI (bOp ixD (bVar 0) (bC (.int 2))) (bC (.int 5))))))
  (sSeq (sSet 4 (eB (bOp fModI (bOp fPowI (bOp fAddI (bOp fAddI (bOp ixD (bVar 0) (bC (.int 1))) (bOp fMulI (bOp fMulI (bC (.int 40009)) (bOp ixD (bVar 0) (bC (.int 2)))) (bOp ixD (bVar 0) (bC (.int 2))))) (bC (.int 31))) (bC (.int 3))) (bVar 3))))
  (sRet (eB (bOp fModI (bOp fDivI (bOp fModI (bOp fMulI (bVar 4) (bOp fAddI (bOp fModI (bVar 4) (bC (.int 10009))) (bOp fMulI (bC (.int 89)) (bOp ixD (bVar 0) (bC (.int 2)))))) (bC (.int 2305843009213693907))) (bC (.int 89))) (bVar 1))))))))
def f_law_take : Fn := fnOf 5 b_law_take
theorem sc_law_take : FnScope ["_law_pot_here", "_law_size", "_law_digit", "_law_prime", "_law_mixed_here"] ["_law_pot_here", "_law_size"] (defScope s_law_take) := ⟨rfl, rfl, rfl, by decide +kernel, rfl, by decide +kernel, by decide +kernel⟩
set_option maxHeartbeats 200000 in
theorem ok_law_take {P : Program} {w : World} {K : PySem.W.Frag} {mg : Str → Option Value} {base : Heap} {f : Addr} {fd : FuncData} (F : Fun K "_law_take" "_law_take" s_law_take f fd)  : FnG P w K mg base (L2.CX P w) 1 f fd ["_law_pot_here", "_law_size"] (spM K 2 f_law_take) := by
  have key := fn_mk (P := P) (w := w) (K := K) (mg := mg) (base := base) (k := 0) (f := f) (fd := fd) (stm := s_law_take) (body := b_law_take) F sc_law_take (by
    intro cdv A outer s H E hr hG
    have hu := hu_room hr
    exact (ss_cons (s_if (st_gtB (sb_ix (sb_var 0) sb_int) sb_int) (ss_cons (s_set sc_law_take.nd (i := 2) (se_b (sb_mod (sb_ix (sb_var 0) sb_int) (sb_var 1))))
  (ss_cons (s_put (pe_nm 0) sb_int (se_b (sb_div (sb_ix (sb_var 0) sb_int) (sb_var 1))))
  (ss_one (s_ret (se_b (sb_var 2))))))
  ss_nil)
  (ss_cons (s_put (pe_nm 0) sb_int (se_b (sb_add (sb_ix (sb_var 0) sb_int) sb_int)))
  (ss_cons (s_set sc_law_take.nd (i := 3) (se_ix (se_frz (se_lst (sa_cons (se_b sb_int) (sa_cons (se_b sb_int) (sa_cons (se_b sb_int) (sa_cons (se_b sb_int) (sa_cons (se_b sb_int) sa_nil))))))) (se_b (sb_mod (sb_ix (sb_var 0) sb_int) sb_int))))
  (ss_cons (s_set sc_law_take.nd (i := 4) (se_b (sb_mod (sb_pow (sb_add (sb_add (sb_ix (sb_var 0) sb_int) (sb_mul (sb_mul sb_int (sb_ix (sb_var 0) sb_int)) (sb_ix (sb_var 0) sb_int))) sb_int) sb_int) (sb_var 3))))
  (ss_one (s_ret (se_b (sb_mod (sb_div (sb_mod (sb_mul (sb_var 4) (sb_add (sb_mod (sb_var 4) sb_int) (sb_mul sb_int (sb_ix (sb_var 0) sb_int)))) sb_int) sb_int) (sb_var 1))))))))))
  exact key
abbrev s_law_pick : Stmt := top 5
def b_law_pick : MS := (sRet (eOp ixD (eB (bVar 1)) (eCall 2 f_law_take (aCons (eB (bVar 0)) (aCons (eB (bFn fLen (abCons (bVar 1) abNil))) aNil)))))
def f_law_pick : Fn := fnOf 2 b_law_pick
theorem sc_law_pick : FnScope ["_law_pot_here", "_law_some_here"] ["_law_pot_here", "_law_some_here"] (defScope s_law_pick) := ⟨rfl, rfl, rfl, by decide +kernel, rfl, by decide +kernel, by decide +kernel⟩
set_option maxHeartbeats 200000 in
theorem ok_law_pick {P : Program} {w : World} {K : PySem.W.Frag} {mg : Str → Option Value} {base : Heap} {f : Addr} {fd : FuncData} (F : Fun K "_law_pick" "_law_pick" s_law_pick f fd) (z_len : mg "len" = none) (F_law_take : Has P w K mg base "_law_take" 1 2 f_law_take) : FnG P w K mg base (L2.CX P w) 2 f fd ["_law_pot_here", "_law_some_here"] (spM K 2 f_law_pick) := by
  have key := fn_mk (P := P) (w := w) (K := K) (mg := mg) (base := base) (k := 1) (f := f) (fd := fd) (stm := s_law_pick) (body := b_law_pick) F sc_law_pick (by
    intro cdv A outer s H E hr hG
    have hu := hu_room hr
    exact (ss_one (s_ret (se_ix (se_b (sb_var 1)) (se_call F_law_take (hr.mono (by decide)) hG (sa_cons (se_b (sb_var 0)) (sa_cons (se_b (sb_fn cl_len z_len bt_len opv_len (sab_cons (sb_var 1) sab_nil))) sa_nil)))))))
  exact key
abbrev s_law_mixed : Stmt := top 6
def b_law_mixed : MS := (sSeq (sPar 2 3 (aCons (eFnB fLst (abCons (bVar 1) abNil)) (aCons (eLst aNil) aNil)))
  (sSeq (loopW (tE (eOpV fNe 2 (eFrz (eLst aNil)))) (sAppPop 3 2 (eCall 2 f_law_take (aCons (eB (bVar 0)) (aCons (eB (bFn fLen (abCons (bVar 2) abNil))) aNil)))) 1000)
  (sFreeze 3 (sRet (eB (bVar 3))))))
def f_law_mixed : Fn := fnOf 4 b_law_mixed
theorem sc_law_mixed : FnScope ["_law_pot_here", "_law_some_here", "_law_left", "_law_found"] ["_law_pot_here", "_law_some_here"] (defScope s_law_mixed) := ⟨rfl, rfl, rfl, by decide +kernel, rfl, by decide +kernel, by decide +kernel⟩
set_option maxHeartbeats 200000 in
theorem ok_law_mixed {P : Program} {w : World} {K : PySem.W.Frag} {mg : Str → Option Value} {base : Heap} {f : Addr} {fd : FuncData} (F : Fun K "_law_mixed" "_law_mixed" s_law_mixed f fd) (z_len : mg "len" = none) (z_list : mg "list" = none) (F_law_take : Has P w K mg base "_law_take" 1 2 f_law_take) : FnG P w K mg base (L2.CX P w) 2 f fd ["_law_pot_here", "_law_some_here"] (spM K 2 f_law_mixed) := by
  have key := fn_mk (P := P) (w := w) (K := K) (mg := mg) (base := base) (k := 1) (f := f) (fd := fd) (stm := s_law_mixed) (body := b_law_mixed) F sc_law_mixed (by
    intro cdv A outer s H E hr hG
    have hu := hu_room hr
    exact (ss_cons (s_par rfl sc_law_mixed.nd (sa_cons (se_tyB call_list_of z_list bt_list alv_lst (sab_cons (sb_var 1) sab_nil)) (sa_cons (se_lst sa_nil) sa_nil)) (i := 2) (j := 3))
  (ss_cons (s_while 1000 (L2.passes_of rfl) (st_neV hu (pe_nm 2) (se_frz (se_lst sa_nil))) (ss_one (s_appPop (pe_nm 3) (pe_nm 2) (se_call F_law_take (hr.mono (by decide)) hG (sa_cons (se_b (sb_var 0)) (sa_cons (se_b (sb_fn cl_len z_len bt_len opv_len (sab_cons (sb_var 2) sab_nil))) sa_nil))))))
  (ss_freeze 3 (ss_one (s_ret (se_b (sb_var 3))))))))
  exact key
abbrev s_law_some : Stmt := top 7
def b_law_some : MS := (sRet (eFn fTup (aCons (eFrz (eLc [3] (iSeqM (eB (bVar 1))) (gVar 3) (tE (eOp fEq (eCall 2 f_law_take (aCons (eB (bVar 0)) (aCons (eB (bVar 2)) aNil))) (eB (bC (.int 0))))) (eB (bVar 3)))) aNil)))
def f_law_some : Fn := fnOf 4 b_law_some
theorem sc_law_some : FnScope ["_law_pot_here", "_law_some_here", "_law_share", "_law_one"] ["_law_pot_here", "_law_some_here", "_law_share"] (defScope s_law_some) := ⟨rfl, rfl, rfl, by decide +kernel, rfl, by decide +kernel, by decide +kernel⟩
set_option maxHeartbeats 200000 in
theorem ok_law_some {P : Program} {w : World} {K : PySem.W.Frag} {mg : Str → Option Value} {base : Heap} {f : Addr} {fd : FuncData} (F : Fun K "_law_some" "_law_some" s_law_some f fd) (z_tuple : mg "tuple" = none) (F_law_take : Has P w K mg base "_law_take" 1 2 f_law_take) : FnG P w K mg base (L2.CX P w) 2 f fd ["_law_pot_here", "_law_some_here", "_law_share"] (spM K 3 f_law_some) := by
  have key := fn_mk (P := P) (w := w) (K := K) (mg := mg) (base := base) (k := 1) (f := f) (fd := fd) (stm := s_law_some) (body := b_law_some) F sc_law_some (by
    intro cdv A outer s H E hr hG
    have hu := hu_room hr
    exact (ss_one (s_ret (se_ty call_tuple_of z_tuple bt_tuple alv_tup (sa_cons (se_frz (se_lc rfl sc_law_some.nd (si_seq (se_b (sb_var 1))) (blkOk_by (own := [("_law_one", 3)]) rfl) (fun _ _ _ _ _ => (sg_var sc_law_some.nd (i := 3))) (fun _ _ _ _ _ => (sts_one (st_eq hu (se_call F_law_take (hr.mono (by decide)) hG (sa_cons (se_b (sb_var 0)) (sa_cons (se_b (sb_var 2)) sa_nil))) (se_b sb_int)))) (fun _ _ _ _ _ => (se_b (sb_var 3))))) sa_nil)))))
  exact key
abbrev s_law_named : Stmt := top 8
def b_law_named : MS := (sSeq (sSet 1 (eLst aNil))
  (sSeq (sFor (iArgs rngOf1 (aCons (eB (bVar 0)) aNil)) (gVar 2) (sMut 1 wExt (aCons (eLc [3] (iArgs rngOf1 (aCons (eB (bVar 0)) aNil)) (gVar 3) tYesM (eTup (aCons (eB (bVar 2)) (aCons (eB (bVar 3)) aNil)))) aNil)))
  (sFreeze 1 (sForget 2 (sRet (eFn fTup (aCons (eFrz (eLc [2, 3] (iSeqM (eB (bVar 1))) (gTupM 2 (gsCons (gVar 2) (gsCons (gVar 3) gsNil))) tYesM (eFn fTup (aCons (eFrz (eLc [4, 5] (iArgs enumOf (aCons (eB (bVar 1)) aNil)) (gTupM 2 (gsCons (gVar 4) (gsCons (gVar 5) gsNil))) (tE (eB (bOp fEq (bOp ixD (bVar 5) (bC (.int 0))) (bVar 3)))) (eB (bVar 4)))) aNil)))) aNil)))))))
def f_law_named : Fn := fnOf 6 b_law_named
theorem sc_law_named : FnScope ["_law_wide", "_law_signs", "_law_own", "_law_named_here", "_law_at", "_law_pair"] ["_law_wide"] (defScope s_law_named) := ⟨rfl, rfl, rfl, by decide +kernel, rfl, by decide +kernel, by decide +kernel⟩
set_option maxHeartbeats 200000 in
theorem ok_law_named {P : Program} {w : World} {K : PySem.W.Frag} {mg : Str → Option Value} {base : Heap} {f : Addr} {fd : FuncData} (F : Fun K "_law_named" "_law_named" s_law_named f fd) (z_enumerate : mg "enumerate" = none) (z_range : mg "range" = none) (z_tuple : mg "tuple" = none) : FnG P w K mg base (L2.CX P w) 1 f fd ["_law_wide"] (spM K 1 f_law_named) := by
  have key := fn_mk (P := P) (w := w) (K := K) (mg := mg) (base := base) (k := 0) (f := f) (fd := fd) (stm := s_law_named) (body := b_law_named) F sc_law_named (by
    intro cdv A outer s H E hr hG
    have hu := hu_room hr
    exact (ss_cons (s_set sc_law_named.nd (i := 1) (se_lst sa_nil))
  (ss_cons (s_for (L2.passes_of rfl) rfl (si_range1 z_range (sa_cons (se_b (sb_var 0)) sa_nil)) (sg_var sc_law_named.nd (i := 2)) (ss_one (s_ext (pe_nm 1) (se_lc rfl sc_law_named.nd (si_range1 z_range (sa_cons (se_b (sb_var 0)) sa_nil)) (blkOk_by (own := [("_law_named_here", 3)]) rfl) (fun _ _ _ _ _ => (sg_var sc_law_named.nd (i := 3))) (fun _ _ _ _ _ => sts_nil) (fun _ _ _ _ _ => (se_tup (sa_cons (se_b (sb_var 2)) (sa_cons (se_b (sb_var 3)) sa_nil))))))))
  (ss_freeze 1 (ss_forget 2 (ss_one (s_ret (se_ty call_tuple_of z_tuple bt_tuple alv_tup (sa_cons (se_frz (se_lc rfl sc_law_named.nd (si_seq (se_b (sb_var 1))) (blkOk_by (own := [("_law_own", 2), ("_law_named_here", 3)]) rfl) (fun _ _ _ _ _ => (sg_tup rfl (sgs_cons (sg_var sc_law_named.nd (i := 2)) (sgs_cons (sg_var sc_law_named.nd (i := 3)) sgs_nil)))) (fun _ _ _ _ _ => sts_nil) (fun _ _ _ _ _ => (se_ty call_tuple_of z_tuple bt_tuple alv_tup (sa_cons (se_frz (se_lc rfl sc_law_named.nd (si_enum z_enumerate (sa_cons (se_b (sb_var 1)) sa_nil)) (blkOk_by (own := [("_law_at", 4), ("_law_pair", 5)]) rfl) (fun _ _ _ _ _ => (sg_tup rfl (sgs_cons (sg_var sc_law_named.nd (i := 4)) (sgs_cons (sg_var sc_law_named.nd (i := 5)) sgs_nil)))) (fun _ _ _ _ _ => (sts_one (st_eqB hu (sb_ix (sb_var 5) sb_int) (sb_var 3)))) (fun _ _ _ _ _ => (se_b (sb_var 4))))) sa_nil))))) sa_nil)))))))))
  exact key
abbrev s_law_called_so : Stmt := top 9
def b_law_called_so : MS := (sSeq (sSet 2 eDct)
  (sSeq (sFor (iArgs enumOf (aCons (eB (bVar 0)) aNil)) (gTupM 2 (gsCons (gVar 3) (gsCons (gVar 4) gsNil))) (sDPutM 2 (bOp ixD (bVar 1) (bVar 3)) (eFn fTup (aCons (eFrz (eFn fSort (aCons (eFrz (eLc [5] (iSeqM (eB (bVar 4))) (gVar 5) tYesM (eB (bOp ixD (bVar 1) (bVar 5))))) aNil))) aNil))))
  (sFreeze 2 (sForget 3 (sRet (eFn fTup (aCons (eFrz (eLc [3] (iArgs rngOf1 (aCons (eB (bFn fLen (abCons (bVar 0) abNil))) aNil)) (gVar 3) tYesM (eB (bDGet (bVar 2) (bVar 3))))) aNil)))))))
def f_law_called_so : Fn := fnOf 6 b_law_called_so
theorem sc_law_called_so : FnScope ["_law_table_here", "_law_led", "_law_found", "_law_sign", "_law_row", "_law_near"] ["_law_table_here", "_law_led"] (defScope s_law_called_so) := ⟨rfl, rfl, rfl, by decide +kernel, rfl, by decide +kernel, by decide +kernel⟩
set_option maxHeartbeats 200000 in
theorem ok_law_called_so {P : Program} {w : World} {K : PySem.W.Frag} {mg : Str → Option Value} {base : Heap} {f : Addr} {fd : FuncData} (F : Fun K "_law_called_so" "_law_called_so" s_law_called_so f fd) (z_enumerate : mg "enumerate" = none) (z_len : mg "len" = none) (z_range : mg "range" = none) (z_sorted : mg "sorted" = none) (z_tuple : mg "tuple" = none) : FnG P w K mg base (L2.CX P w) 1 f fd ["_law_table_here", "_law_led"] (spM K 2 f_law_called_so) := by
  have key := fn_mk (P := P) (w := w) (K := K) (mg := mg) (base := base) (k := 0) (f := f) (fd := fd) (stm := s_law_called_so) (body := b_law_called_so) F sc_law_called_so (by
    intro cdv A outer s H E hr hG
    have hu := hu_room hr
    exact (ss_cons (s_set sc_law_called_so.nd (i := 2) se_dct)
  (ss_cons (s_for (L2.passes_of rfl) rfl (si_enum z_enumerate (sa_cons (se_b (sb_var 0)) sa_nil)) (sg_tup rfl (sgs_cons (sg_var sc_law_called_so.nd (i := 3)) (sgs_cons (sg_var sc_law_called_so.nd (i := 4)) sgs_nil))) (ss_one (s_dput hu (pe_nm 2) (sb_ix (sb_var 1) (sb_var 3)) (se_ty call_tuple_of z_tuple bt_tuple alv_tup (sa_cons (se_frz (se_fn cr_sortedI z_sorted bt_sorted alv_sort (sa_cons (se_frz (se_lc rfl sc_law_called_so.nd (si_seq (se_b (sb_var 4))) (blkOk_by (own := [("_law_near", 5)]) rfl) (fun _ _ _ _ _ => (sg_var sc_law_called_so.nd (i := 5))) (fun _ _ _ _ _ => sts_nil) (fun _ _ _ _ _ => (se_b (sb_ix (sb_var 1) (sb_var 5)))))) sa_nil))) sa_nil)))))
  (ss_freeze 2 (ss_forget 3 (ss_one (s_ret (se_ty call_tuple_of z_tuple bt_tuple alv_tup (sa_cons (se_frz (se_lc rfl sc_law_called_so.nd (si_range1 z_range (sa_cons (se_b (sb_fn cl_len z_len bt_len opv_len (sab_cons (sb_var 0) sab_nil))) sa_nil)) (blkOk_by (own := [("_law_sign", 3)]) rfl) (fun _ _ _ _ _ => (sg_var sc_law_called_so.nd (i := 3))) (fun _ _ _ _ _ => sts_nil) (fun _ _ _ _ _ => (se_b (sb_dget hu (sb_var 2) (sb_var 3)))))) sa_nil)))))))))
  exact key
abbrev s_law_changed : Stmt := top 10
def b_law_changed : MS := (sSeq (sSet 2 (eLc [3] (iSeqM (eB (bVar 1))) (gVar 3) tYesM (eFnB fLst (abCons (bVar 3) abNil))))
  (sSeq (sFor (iArgs rngOf1 (aCons (eOp fAddI (eB (bC (.int 1))) (eCall 2 f_law_take (aCons (eB (bVar 0)) (aCons (eB (bC (.int 3))) aNil)))) aNil)) (gVar 4) (sSeq (sPar 5 6 (aCons (eCall 2 f_law_take (aCons (eB (bVar 0)) (aCons (eB (bFn fLen (abCons (bVar 2) abNil))) aNil))) (aCons (eCall 2 f_law_take (aCons (eB (bVar 0)) (aCons (eB (bFn fLen (abCons (bVar 2) abNil))) aNil))) aNil)))
  (sIf (tE (eB (bOp fIn (bVar 6) (bOp ixD (bVar 2) (bVar 5))))) (sMut1 2 wRem (bVar 5) (bVar 6))
  (sPut 2 (bVar 5) (eFn fSort (aCons (eFrz (eCatS (bOp ixD (bVar 2) (bVar 5)) (abCons (bVar 6) abNil))) aNil))))))
  (sFreeze 2 (sRet (eFn fTup (aCons (eFrz (eLc [3] (iSeqM (eB (bVar 2))) (gVar 3) tYesM (eFnB fTup (abCons (bVar 3) abNil)))) aNil))))))
def f_law_changed : Fn := fnOf 7 b_law_changed
theorem sc_law_changed : FnScope ["_law_pot_here", "_law_table_here", "_law_rows", "_law_row", "_law_turn", "_law_sign", "_law_near"] ["_law_pot_here", "_law_table_here"] (defScope s_law_changed) := ⟨rfl, rfl, rfl, by decide +kernel, rfl, by decide +kernel, by decide +kernel⟩
set_option maxHeartbeats 200000 in
theorem ok_law_changed {P : Program} {w : World} {K : PySem.W.Frag} {mg : Str → Option Value} {base : Heap} {f : Addr} {fd : FuncData} (F : Fun K "_law_changed" "_law_changed" s_law_changed f fd) (z_len : mg "len" = none) (z_list : mg "list" = none) (z_range : mg "range" = none) (z_sorted : mg "sorted" = none) (z_tuple : mg "tuple" = none) (F_law_take : Has P w K mg base "_law_take" 1 2 f_law_take) : FnG P w K mg base (L2.CX P w) 2 f fd ["_law_pot_here", "_law_table_here"] (spM K 2 f_law_changed) := by
  have key := fn_mk (P := P) (w := w) (K := K) (mg := mg) (base := base) (k := 1) (f := f) (fd := fd) (stm := s_law_changed) (body := b_law_changed) F sc_law_changed (by
    intro cdv A outer s H E hr hG
    have hu := hu_room hr
    exact (ss_cons (s_setLc rfl sc_law_changed.nd rfl rfl rfl (si_seq (se_b (sb_var 1))) (blkOk_by (own := [("_law_row", 3)]) rfl) (fun _ _ _ _ _ => (sg_var sc_law_changed.nd (i := 3))) (fun _ _ _ _ _ => sts_nil) (fun _ _ _ _ _ => (se_tyB call_list_of z_list bt_list alv_lst (sab_cons (sb_var 3) sab_nil))))
  (ss_cons (s_for (L2.passes_of rfl) rfl (si_range1 z_range (sa_cons (se_add (se_b sb_int) (se_call F_law_take (hr.mono (by decide)) hG (sa_cons (se_b (sb_var 0)) (sa_cons (se_b sb_int) sa_nil)))) sa_nil)) (sg_var sc_law_changed.nd (i := 4)) (ss_cons (s_par rfl sc_law_changed.nd (sa_cons (se_call F_law_take (hr.mono (by decide)) hG (sa_cons (se_b (sb_var 0)) (sa_cons (se_b (sb_fn cl_len z_len bt_len opv_len (sab_cons (sb_var 2) sab_nil))) sa_nil))) (sa_cons (se_call F_law_take (hr.mono (by decide)) hG (sa_cons (se_b (sb_var 0)) (sa_cons (se_b (sb_fn cl_len z_len bt_len opv_len (sab_cons (sb_var 2) sab_nil))) sa_nil))) sa_nil)) (i := 5) (j := 6))
  (ss_one (s_if (st_inB hu (sb_var 6) (sb_ix (sb_var 2) (sb_var 5))) (ss_one (s_mut1 PySem.F.slot_list_remove PySem.F.type_list_remove mt_remove hm_rem (pe_nm 2) (sb_var 5) (sb_var 6)))
  (ss_one (s_put (pe_nm 2) (sb_var 5) (se_fn cr_sortedI z_sorted bt_sorted alv_sort (sa_cons (se_frz (se_catS (sb_ix (sb_var 2) (sb_var 5)) (sab_cons (sb_var 6) sab_nil))) sa_nil))))))))
  (ss_freeze 2 (ss_one (s_ret (se_ty call_tuple_of z_tuple bt_tuple alv_tup (sa_cons (se_frz (se_lc rfl sc_law_changed.nd (si_seq (se_b (sb_var 2))) (blkOk_by (own := [("_law_row", 3)]) rfl) (fun _ _ _ _ _ => (sg_var sc_law_changed.nd (i := 3))) (fun _ _ _ _ _ => sts_nil) (fun _ _ _ _ _ => (se_tyB call_tuple_of z_tuple bt_tuple alv_tup (sab_cons (sb_var 3) sab_nil))))) sa_nil))))))))
  exact key
abbrev s_law_table : Stmt := top 11
def b_law_table : MS := (sSeq (sAsg (eTup (aCons (eCall 2 f_law_take (aCons (eB (bVar 0)) (aCons (eB (bC (.int 6))) aNil))) (aCons (eOp fAddI (eB (bC (.int 1))) (eCall 2 f_law_take (aCons (eB (bVar 0)) (aCons (eB (bVar 1)) aNil)))) aNil))) (gTupM 2 (gsCons (gVar 2) (gsCons (gVar 3) gsNil))))
  (sSeq (sIf (tE (eB (bOp fLtI (bVar 2) (bC (.int 3))))) (sSeq (sSet 4 (eFrz (eRg1 (.lst true) (eB (bVar 3)))))
  (sRet (eFn fTup (aCons (eFrz (eLc [5] (iSeqM (eB (bVar 4))) (gVar 5) tYesM (eCall 3 f_law_some (aCons (eB (bVar 0)) (aCons (eB (bVar 4)) (aCons (eOp fAddI (eB (bC (.int 1))) (eCall 2 f_law_take (aCons (eB (bVar 0)) (aCons (eB (bOp fAddI (bVar 2) (bC (.int 2)))) aNil)))) aNil)))))) aNil))))
  sNil)
  (sSeq (sSet 6 (eCall 1 f_law_named (aCons (eCall 2 f_law_pick (aCons (eB (bVar 0)) (aCons (eFrz (eLc [7] (iSeqM (eTup (aCons (eB (bC (.int 1))) (aCons (eB (bC (.int 2))) (aCons (eB (bC (.int 3))) (aCons (eB (bC (.int 4))) aNil)))))) (gVar 7) (tE (eB (bOp fLeI (bOp fMulI (bVar 7) (bVar 7)) (bVar 1)))) (eB (bVar 7)))) aNil))) aNil)))
  (sSeq (sIf (tE (eB (bOp fGtI (bVar 2) (bC (.int 3))))) (sSet 6 (eCall 2 f_law_called_so (aCons (eB (bVar 6)) (aCons (eCall 2 f_law_mixed (aCons (eB (bVar 0)) (aCons (eFrz (eRg1 (.lst true) (eB (bFn fLen (abCons (bVar 6) abNil))))) aNil))) aNil))))
  sNil)
  (sRet (eIf (tE (eB (bOp fEq (bVar 2) (bC (.int 5))))) (eCall 2 f_law_changed (aCons (eB (bVar 0)) (aCons (eB (bVar 6)) aNil))) (eB (bVar 6))))))))
def f_law_table : Fn := fnOf 8 b_law_table
theorem sc_law_table : FnScope ["_law_pot_here", "_law_most", "_law_way", "_law_size", "_law_signs", "_law_sign", "_law_table_here", "_law_wide"] ["_law_pot_here", "_law_most"] (defScope s_law_table) := ⟨rfl, rfl, rfl, by decide +kernel, rfl, by decide +kernel, by decide +kernel⟩
set_option maxHeartbeats 200000 in
theorem ok_law_table {P : Program} {w : World} {K : PySem.W.Frag} {mg : Str → Option Value} {base : Heap} {f : Addr} {fd : FuncData} (F : Fun K "_law_table" "_law_table" s_law_table f fd) (z_len : mg "len" = none) (z_list : mg "list" = none) (z_range : mg "range" = none) (z_tuple : mg "tuple" = none) (F_law_called_so : Has P w K mg base "_law_called_so" 1 2 f_law_called_so) (F_law_changed : Has P w K mg base "_law_changed" 2 2 f_law_changed) (F_law_mixed : Has P w K mg base "_law_mixed" 2 2 f_law_mixed) (F_law_named : Has P w K mg base "_law_named" 1 1 f_law_named) (F_law_pick : Has P w K mg base "_law_pick" 2 2 f_law_pick) (F_law_some : Has P w K mg base "_law_some" 2 3 f_law_some) (F_law_take : Has P w K mg base "_law_take" 1 2 f_law_take) : FnG P w K mg base (L2.CX P w) 3 f fd ["_law_pot_here", "_law_most"] (spM K 2 f_law_table) := by
  have key := fn_mk (P := P) (w := w) (K := K) (mg := mg) (base := base) (k := 2) (f := f) (fd := fd) (stm := s_law_table) (body := b_law_table) F sc_law_table (by
    intro cdv A outer s H E hr hG
    have hu := hu_room hr
    exact (ss_cons (s_asg (se_tup (sa_cons (se_call F_law_take (hr.mono (by decide)) hG (sa_cons (se_b (sb_var 0)) (sa_cons (se_b sb_int) sa_nil))) (sa_cons (se_add (se_b sb_int) (se_call F_law_take (hr.mono (by decide)) hG (sa_cons (se_b (sb_var 0)) (sa_cons (se_b (sb_var 1)) sa_nil)))) sa_nil))) (sg_tup rfl (sgs_cons (sg_var sc_law_table.nd (i := 2)) (sgs_cons (sg_var sc_law_table.nd (i := 3)) sgs_nil))))
  (ss_cons (s_if (st_ltB (sb_var 2) sb_int) (ss_cons (s_set sc_law_table.nd (i := 4) (se_frz (se_lrg1 rfl (se_b (sb_var 3)) (hm := z_list) (hm2 := z_range))))
  (ss_one (s_ret (se_ty call_tuple_of z_tuple bt_tuple alv_tup (sa_cons (se_frz (se_lc rfl sc_law_table.nd (si_seq (se_b (sb_var 4))) (blkOk_by (own := [("_law_sign", 5)]) rfl) (fun _ _ _ _ _ => (sg_var sc_law_table.nd (i := 5))) (fun _ _ _ _ _ => sts_nil) (fun _ _ _ _ _ => (se_call F_law_some (hr.mono (by decide)) hG (sa_cons (se_b (sb_var 0)) (sa_cons (se_b (sb_var 4)) (sa_cons (se_add (se_b sb_int) (se_call F_law_take (hr.mono (by decide)) hG (sa_cons (se_b (sb_var 0)) (sa_cons (se_b (sb_add (sb_var 2) sb_int)) sa_nil)))) sa_nil))))))) sa_nil)))))
  ss_nil)
  (ss_cons (s_set sc_law_table.nd (i := 6) (se_call F_law_named (hr.mono (by decide)) hG (sa_cons (se_call F_law_pick (hr.mono (by decide)) hG (sa_cons (se_b (sb_var 0)) (sa_cons (se_frz (se_lc rfl sc_law_table.nd (si_seq (se_tup (sa_cons (se_b sb_int) (sa_cons (se_b sb_int) (sa_cons (se_b sb_int) (sa_cons (se_b sb_int) sa_nil)))))) (blkOk_by (own := [("_law_wide", 7)]) rfl) (fun _ _ _ _ _ => (sg_var sc_law_table.nd (i := 7))) (fun _ _ _ _ _ => (sts_one (st_leB (sb_mul (sb_var 7) (sb_var 7)) (sb_var 1)))) (fun _ _ _ _ _ => (se_b (sb_var 7))))) sa_nil))) sa_nil)))
  (ss_cons (s_if (st_gtB (sb_var 2) sb_int) (ss_one (s_set sc_law_table.nd (i := 6) (se_call F_law_called_so (hr.mono (by decide)) hG (sa_cons (se_b (sb_var 6)) (sa_cons (se_call F_law_mixed (hr.mono (by decide)) hG (sa_cons (se_b (sb_var 0)) (sa_cons (se_frz (se_lrg1 rfl (se_b (sb_fn cl_len z_len bt_len opv_len (sab_cons (sb_var 6) sab_nil))) (hm := z_list) (hm2 := z_range))) sa_nil))) sa_nil)))))
  ss_nil)
  (ss_one (s_ret (se_if (st_eqB hu (sb_var 2) sb_int) (se_call F_law_changed (hr.mono (by decide)) hG (sa_cons (se_b (sb_var 0)) (sa_cons (se_b (sb_var 6)) sa_nil))) (se_b (sb_var 6))))))))))
  exact key
abbrev s_law_right : Stmt := top 12
def b_law_right : MS := (sSeq (sFor (iArgs rngOf1 (aCons (eB (bC (.int 4))) aNil)) (gVar 1) (sSeq (sSet 2 (eCall 2 f_law_table (aCons (eB (bVar 0)) (aCons (eB (bC (.int 16))) aNil))))
  (sSeq (sAsg (eTup (aCons (eFrz (eFn fDictP (aCons (eFrz (eLstEn (aCons (eB (bVar 2)) aNil))) aNil))) (aCons (eB (bFn fRepr (abCons (bVar 2) abNil))) aNil))) (gTupM 2 (gsCons (gVar 3) (gsCons (gVar 4) gsNil))))
  (sSeq (sFor (iArgs rngOf1 (aCons (eB (bC (.int 16))) aNil)) (gVar 5) (sSeq (sSet 6 (eFrz (eLc [7] (iArgs rngOf1 (aCons (eB (bC (.int 16))) aNil)) (gVar 7) tYesM (eOp fIn (eB (bVar 7)) (eDGetV 3 (bVar 5) (eTup aNil))))))
  (sIf (tE (eOp fNe (eFn (frzd fRepr) (aCons (eFrz (eLc [7] (iArgs rngOf1 (aCons (eB (bC (.int 16))) aNil)) (gVar 7) tYesM (eCall 3 f_may_follow (aCons (eB (bVar 2)) (aCons (eB (bVar 5)) (aCons (eB (bVar 7)) aNil)))))) aNil)) (eB (bFn fRepr (abCons (bVar 6) abNil))))) (sRet (eB (bC (.bl false))))
  sNil)))
  (sIf (tE (eB (bOp fNe (bFn fRepr (abCons (bVar 2) abNil)) (bVar 4)))) (sRet (eB (bC (.bl false))))
  sNil)))))
  (sRet (eB (bC (.bl true)))))
def f_law_right : Fn := fnOf 8 b_law_right
theorem sc_law_right : FnScope ["_law_pot_here", "_law_turn", "_law_table_here", "_law_rows", "_law_kept", "_law_one", "_law_due", "_law_two"] ["_law_pot_here"] (defScope s_law_right) := ⟨rfl, rfl, rfl, by decide +kernel, rfl, by decide +kernel, by decide +kernel⟩
set_option maxHeartbeats 200000 in
theorem ok_law_right {P : Program} {w : World} {K : PySem.W.Frag} {mg : Str → Option Value} {base : Heap} {f : Addr} {fd : FuncData} (F : Fun K "_law_right" "_law_right" s_law_right f fd) (z_dict : mg "dict" = none) (z_enumerate : mg "enumerate" = none) (z_list : mg "list" = none) (z_range : mg "range" = none) (z_repr : mg "repr" = none) (F_law_table : Has P w K mg base "_law_table" 3 2 f_law_table) (F_may_follow : Has P w K mg base "may_follow" 1 3 f_may_follow) : FnG P w K mg base (L2.CX P w) 4 f fd ["_law_pot_here"] (spM K 1 f_law_right) := by
  have key := fn_mk (P := P) (w := w) (K := K) (mg := mg) (base := base) (k := 3) (f := f) (fd := fd) (stm := s_law_right) (body := b_law_right) F sc_law_right (by
    intro cdv A outer s H E hr hG
    have hu := hu_room hr
    exact (ss_cons (s_for (L2.passes_of rfl) rfl (si_range1 z_range (sa_cons (se_b sb_int) sa_nil)) (sg_var sc_law_right.nd (i := 1)) (ss_cons (s_set sc_law_right.nd (i := 2) (se_call F_law_table (hr.mono (by decide)) hG (sa_cons (se_b (sb_var 0)) (sa_cons (se_b sb_int) sa_nil))))
  (ss_cons (s_asg (se_tup (sa_cons (se_frz (se_ty (cr_dictP rfl) z_dict bt_dict alv_dictP (sa_cons (se_frz (se_lstEn rfl (sa_cons (se_b (sb_var 2)) sa_nil) (hm := z_list) (hm2 := z_enumerate))) sa_nil))) (sa_cons (se_b (sb_fn (call_repr hu hG) z_repr bt_repr opv_repr (sab_cons (sb_var 2) sab_nil))) sa_nil))) (sg_tup rfl (sgs_cons (sg_var sc_law_right.nd (i := 3)) (sgs_cons (sg_var sc_law_right.nd (i := 4)) sgs_nil))))
  (ss_cons (s_for (L2.passes_of rfl) rfl (si_range1 z_range (sa_cons (se_b sb_int) sa_nil)) (sg_var sc_law_right.nd (i := 5)) (ss_cons (s_setLcF rfl sc_law_right.nd rfl rfl rfl (si_range1 z_range (sa_cons (se_b sb_int) sa_nil)) (blkOk_by (own := [("_law_two", 7)]) rfl) (fun _ _ _ _ _ => (sg_var sc_law_right.nd (i := 7))) (fun _ _ _ _ _ => sts_nil) (fun _ _ _ _ _ => (se_in hu (se_b (sb_var 7)) (se_dgetV hu (pe_nm 3) (sb_var 5) (se_tup sa_nil)))))
  (ss_one (s_if (st_ne hu (se_fn (call_repr hu hG) z_repr bt_repr (AlV.of opv_repr) (sa_cons (se_frz (se_lc rfl sc_law_right.nd (si_range1 z_range (sa_cons (se_b sb_int) sa_nil)) (blkOk_by (own := [("_law_two", 7)]) rfl) (fun _ _ _ _ _ => (sg_var sc_law_right.nd (i := 7))) (fun _ _ _ _ _ => sts_nil) (fun _ _ _ _ _ => (se_call F_may_follow (hr.mono (by decide)) hG (sa_cons (se_b (sb_var 2)) (sa_cons (se_b (sb_var 5)) (sa_cons (se_b (sb_var 7)) sa_nil))))))) sa_nil)) (se_b (sb_fn (call_repr hu hG) z_repr bt_repr opv_repr (sab_cons (sb_var 6) sab_nil)))) (ss_one (s_ret (se_b sb_bl)))
  ss_nil))))
  (ss_one (s_if (st_neB hu (sb_fn (call_repr hu hG) z_repr bt_repr opv_repr (sab_cons (sb_var 2) sab_nil)) (sb_var 4)) (ss_one (s_ret (se_b sb_bl)))
  ss_nil))))))
  (ss_one (s_ret (se_b sb_bl)))))
  exact key
abbrev s_law : Stmt := top 13
def b_law : MS := (sRet (eFn (frzd fAll) (aCons (eFrz (eLc [1] (iArgs rngOf1 (aCons (eB (bFn fMax2 (abCons (bC (.int 1)) (abCons (bFn fMin2 (abCons (bC (.int 3)) (abCons (bFn fLen (abCons (bVar 0) abNil)) abNil))) abNil)))) aNil)) (gVar 1) tYesM (eCall 1 f_law_right (aCons (eCall 2 f_law_pot (aCons (eB (bVar 0)) (aCons (eB (bVar 1)) aNil))) aNil)))) aNil)))
def f_law : Fn := fnOf 2 b_law
theorem sc_law : FnScope ["_law_script", "_law_k"] ["_law_script"] (defScope s_law) := ⟨rfl, rfl, rfl, by decide +kernel, rfl, by decide +kernel, by decide +kernel⟩
set_option maxHeartbeats 200000 in
theorem ok_law {P : Program} {w : World} {K : PySem.W.Frag} {mg : Str → Option Value} {base : Heap} {f : Addr} {fd : FuncData} (F : Fun K "law" "law" s_law f fd) (z_all : mg "all" = none) (z_len : mg "len" = none) (z_max : mg "max" = none) (z_min : mg "min" = none) (z_range : mg "range" = none) (F_law_pot : Has P w K mg base "_law_pot" 1 2 f_law_pot) (F_law_right : Has P w K mg base "_law_right" 4 1 f_law_right) : FnG P w K mg base (L2.CX P w) 5 f fd ["_law_script"] (spM K 1 f_law) := by
  have key := fn_mk (P := P) (w := w) (K := K) (mg := mg) (base := base) (k := 4) (f := f) (fd := fd) (stm := s_law) (body := b_law) F sc_law (by
    intro cdv A outer s H E hr hG
    have hu := hu_room hr
    exact (ss_one (s_ret (se_fn (cr_all rfl) z_all bt_all (AlV.of opv_all) (sa_cons (se_frz (se_lc rfl sc_law.nd (si_range1 z_range (sa_cons (se_b (sb_fn (call_max2 rfl) z_max bt_max opv_max2 (sab_cons sb_int (sab_cons (sb_fn (call_min2 rfl) z_min bt_min opv_min2 (sab_cons sb_int (sab_cons (sb_fn cl_len z_len bt_len opv_len (sab_cons (sb_var 0) sab_nil)) sab_nil))) sab_nil)))) sa_nil)) (blkOk_by (own := [("_law_k", 1)]) rfl) (fun _ _ _ _ _ => (sg_var sc_law.nd (i := 1))) (fun _ _ _ _ _ => sts_nil) (fun _ _ _ _ _ => (se_call F_law_right (hr.mono (by decide)) hG (sa_cons (se_call F_law_pot (hr.mono (by decide)) hG (sa_cons (se_b (sb_var 0)) (sa_cons (se_b (sb_var 1)) sa_nil))) sa_nil))))) sa_nil)))))
  exact key
set_option maxHeartbeats 2000000 in
theorem all_mk {l : PySem.W.OpenLaw} {w : World} {K : PySem.W.Frag} {h : Heap} {mg : Str → Option Value} {fa : Addr} (X : K.In h) (G : h.Ns mainGlobals mg) (hfa : mg "law" = some (.ref fa))
    {f0 : Addr} {od0 an0 : Option Addr} {sl0 : Array (Option Value)} {oc0 kV0 dc0 pm0 cd0 ct0 : Value} (a0 : PySem.W.nsIn K mainGlobals "may_follow" = some (some (.ref f0))) (l0 : K.lookup f0 = some ⟨oc0, od0, .func (PySem.W.fnOf "may_follow" "may_follow" (defArgs s_may_follow) (defBody s_may_follow) (defScope s_may_follow) .none kV0 dc0 pm0 an0 cd0 ct0), sl0⟩) (c0 : PySem.W.codeIn K cd0 "may_follow" = true) (k0 : PySem.W.keepIn K (.ref f0) = true)
    {f1 : Addr} {od1 an1 : Option Addr} {sl1 : Array (Option Value)} {oc1 kV1 dc1 pm1 cd1 ct1 : Value} (a1 : PySem.W.nsIn K mainGlobals "_law_pot" = some (some (.ref f1))) (l1 : K.lookup f1 = some ⟨oc1, od1, .func (PySem.W.fnOf "_law_pot" "_law_pot" (defArgs s_law_pot) (defBody s_law_pot) (defScope s_law_pot) .none kV1 dc1 pm1 an1 cd1 ct1), sl1⟩) (c1 : PySem.W.codeIn K cd1 "_law_pot" = true) (k1 : PySem.W.keepIn K (.ref f1) = true)
    {f2 : Addr} {od2 an2 : Option Addr} {sl2 : Array (Option Value)} {oc2 kV2 dc2 pm2 cd2 ct2 : Value} (a2 : PySem.W.nsIn K mainGlobals "_law_take" = some (some (.ref f2))) (l2 : K.lookup f2 = some ⟨oc2, od2, .func (PySem.W.fnOf "_law_take" "_law_take" (defArgs s_law_take) (defBody s_law_take) (defScope s_law_take) .none kV2 dc2 pm2 an2 cd2 ct2), sl2⟩) (c2 : PySem.W.codeIn K cd2 "_law_take" = true) (k2 : PySem.W.keepIn K (.ref f2) = true)
    {f3 : Addr} {od3 an3 : Option Addr} {sl3 : Array (Option Value)} {oc3 kV3 dc3 pm3 cd3 ct3 : Value} (a3 : PySem.W.nsIn K mainGlobals "_law_pick" = some (some (.ref f3))) (l3 : K.lookup f3 = some ⟨oc3, od3, .func (PySem.W.fnOf "_law_pick" "_law_pick" (defArgs s_law_pick) (defBody s_law_pick) (defScope s_law_pick) .none kV3 dc3 pm3 an3 cd3 ct3), sl3⟩) (c3 : PySem.W.codeIn K cd3 "_law_pick" = true) (k3 : PySem.W.keepIn K (.ref f3) = true)
    {f4 : Addr} {od4 an4 : Option Addr} {sl4 : Array (Option Value)} {oc4 kV4 dc4 pm4 cd4 ct4 : Value} (a4 : PySem.W.nsIn K mainGlobals "_law_mixed" = some (some (.ref f4))) (l4 : K.lookup f4 = some ⟨oc4, od4, .func (PySem.W.fnOf "_law_mixed" "_law_mixed" (defArgs s_law_mixed) (defBody s_law_mixed) (defScope s_law_mixed) .none kV4 dc4 pm4 an4 cd4 ct4), sl4⟩) (c4 : PySem.W.codeIn K cd4 "_law_mixed" = true) (k4 : PySem.W.keepIn K (.ref f4) = true)
    {f5 : Addr} {od5 an5 : Option Addr} {sl5 : Array (Option Value)} {oc5 kV5 dc5 pm5 cd5 ct5 : Value} (a5 : PySem.W.nsIn K mainGlobals "_law_some" = some (some (.ref f5))) (l5 : K.lookup f5 = some ⟨oc5, od5, .func (PySem.W.fnOf "_law_some" "_law_some" (defArgs s_law_some) (defBody s_law_some) (defScope s_law_some) .none kV5 dc5 pm5 an5 cd5 ct5), sl5⟩) (c5 : PySem.W.codeIn K cd5 "_law_some" = true) (k5 : PySem.W.keepIn K (.ref f5) = true)
    {f6 : Addr} {od6 an6 : Option Addr} {sl6 : Array (Option Value)} {oc6 kV6 dc6 pm6 cd6 ct6 : Value} (a6 : PySem.W.nsIn K mainGlobals "_law_named" = some (some (.ref f6))) (l6 : K.lookup f6 = some ⟨oc6, od6, .func (PySem.W.fnOf "_law_named" "_law_named" (defArgs s_law_named) (defBody s_law_named) (defScope s_law_named) .none kV6 dc6 pm6 an6 cd6 ct6), sl6⟩) (c6 : PySem.W.codeIn K cd6 "_law_named" = true) (k6 : PySem.W.keepIn K (.ref f6) = true)
    {f7 : Addr} {od7 an7 : Option Addr} {sl7 : Array (Option Value)} {oc7 kV7 dc7 pm7 cd7 ct7 : Value} (a7 : PySem.W.nsIn K mainGlobals "_law_called_so" = some (some (.ref f7))) (l7 : K.lookup f7 = some ⟨oc7, od7, .func (PySem.W.fnOf "_law_called_so" "_law_called_so" (defArgs s_law_called_so) (defBody s_law_called_so) (defScope s_law_called_so) .none kV7 dc7 pm7 an7 cd7 ct7), sl7⟩) (c7 : PySem.W.codeIn K cd7 "_law_called_so" = true) (k7 : PySem.W.keepIn K (.ref f7) = true)
    {f8 : Addr} {od8 an8 : Option Addr} {sl8 : Array (Option Value)} {oc8 kV8 dc8 pm8 cd8 ct8 : Value} (a8 : PySem.W.nsIn K mainGlobals "_law_changed" = some (some (.ref f8))) (l8 : K.lookup f8 = some ⟨oc8, od8, .func (PySem.W.fnOf "_law_changed" "_law_changed" (defArgs s_law_changed) (defBody s_law_changed) (defScope s_law_changed) .none kV8 dc8 pm8 an8 cd8 ct8), sl8⟩) (c8 : PySem.W.codeIn K cd8 "_law_changed" = true) (k8 : PySem.W.keepIn K (.ref f8) = true)
    {f9 : Addr} {od9 an9 : Option Addr} {sl9 : Array (Option Value)} {oc9 kV9 dc9 pm9 cd9 ct9 : Value} (a9 : PySem.W.nsIn K mainGlobals "_law_table" = some (some (.ref f9))) (l9 : K.lookup f9 = some ⟨oc9, od9, .func (PySem.W.fnOf "_law_table" "_law_table" (defArgs s_law_table) (defBody s_law_table) (defScope s_law_table) .none kV9 dc9 pm9 an9 cd9 ct9), sl9⟩) (c9 : PySem.W.codeIn K cd9 "_law_table" = true) (k9 : PySem.W.keepIn K (.ref f9) = true)
    {f10 : Addr} {od10 an10 : Option Addr} {sl10 : Array (Option Value)} {oc10 kV10 dc10 pm10 cd10 ct10 : Value} (a10 : PySem.W.nsIn K mainGlobals "_law_right" = some (some (.ref f10))) (l10 : K.lookup f10 = some ⟨oc10, od10, .func (PySem.W.fnOf "_law_right" "_law_right" (defArgs s_law_right) (defBody s_law_right) (defScope s_law_right) .none kV10 dc10 pm10 an10 cd10 ct10), sl10⟩) (c10 : PySem.W.codeIn K cd10 "_law_right" = true) (k10 : PySem.W.keepIn K (.ref f10) = true)
    {f11 : Addr} {od11 an11 : Option Addr} {sl11 : Array (Option Value)} {oc11 kV11 dc11 pm11 cd11 ct11 : Value} (a11 : PySem.W.nsIn K mainGlobals "law" = some (some (.ref f11))) (l11 : K.lookup f11 = some ⟨oc11, od11, .func (PySem.W.fnOf "law" "law" (defArgs s_law) (defBody s_law) (defScope s_law) .none kV11 dc11 pm11 an11 cd11 ct11), sl11⟩) (c11 : PySem.W.codeIn K cd11 "law" = true) (k11 : PySem.W.keepIn K (.ref f11) = true)
    (z_abs : PySem.W.nsIn K mainGlobals "abs" = some none)
    (z_all : PySem.W.nsIn K mainGlobals "all" = some none)
    (z_dict : PySem.W.nsIn K mainGlobals "dict" = some none)
    (z_enumerate : PySem.W.nsIn K mainGlobals "enumerate" = some none)
    (z_len : PySem.W.nsIn K mainGlobals "len" = some none)
    (z_list : PySem.W.nsIn K mainGlobals "list" = some none)
    (z_max : PySem.W.nsIn K mainGlobals "max" = some none)
    (z_min : PySem.W.nsIn K mainGlobals "min" = some none)
    (z_range : PySem.W.nsIn K mainGlobals "range" = some none)
    (z_repr : PySem.W.nsIn K mainGlobals "repr" = some none)
    (z_sorted : PySem.W.nsIn K mainGlobals "sorted" = some none)
    (z_tuple : PySem.W.nsIn K mainGlobals "tuple" = some none)
    : ∃ fd : FuncData, (∀ (s : Shared) (v : Value), BindsTo s fd ⟨[v], []⟩ [("_law_script", v)]) ∧ ∀ base : Heap, K.In base → base.Ns mainGlobals mg → FnG l.prog w K mg base (L2.CX l.prog w) 5 fa fd ["_law_script"] (spM K 1 f_law) := by
  have e := hfa.symm.trans (PySem.W.mg_of X G a11)
  cases e
  replace z_abs := PySem.W.mg_none_of X G z_abs
  replace z_all := PySem.W.mg_none_of X G z_all
  replace z_dict := PySem.W.mg_none_of X G z_dict
  replace z_enumerate := PySem.W.mg_none_of X G z_enumerate
  replace z_len := PySem.W.mg_none_of X G z_len
  replace z_list := PySem.W.mg_none_of X G z_list
  replace z_max := PySem.W.mg_none_of X G z_max
  replace z_min := PySem.W.mg_none_of X G z_min
  replace z_range := PySem.W.mg_none_of X G z_range
  replace z_repr := PySem.W.mg_none_of X G z_repr
  replace z_sorted := PySem.W.mg_none_of X G z_sorted
  replace z_tuple := PySem.W.mg_none_of X G z_tuple
  have F0 := fun_mk (st := s_may_follow) l0 c0 k0
  have b0 := F0.binds (ps := ["rule", "mark", "other"]) fun _ _ _ _ _ _ us hl => match us, hl with | [_, _, _], _ => rfl
  have F1 := fun_mk (st := s_law_pot) l1 c1 k1
  have b1 := F1.binds (ps := ["_law_script", "_law_k"]) fun _ _ _ _ _ _ us hl => match us, hl with | [_, _], _ => rfl
  have F2 := fun_mk (st := s_law_take) l2 c2 k2
  have b2 := F2.binds (ps := ["_law_pot_here", "_law_size"]) fun _ _ _ _ _ _ us hl => match us, hl with | [_, _], _ => rfl
  have F3 := fun_mk (st := s_law_pick) l3 c3 k3
  have b3 := F3.binds (ps := ["_law_pot_here", "_law_some_here"]) fun _ _ _ _ _ _ us hl => match us, hl with | [_, _], _ => rfl
  have F4 := fun_mk (st := s_law_mixed) l4 c4 k4
  have b4 := F4.binds (ps := ["_law_pot_here", "_law_some_here"]) fun _ _ _ _ _ _ us hl => match us, hl with | [_, _], _ => rfl
  have F5 := fun_mk (st := s_law_some) l5 c5 k5
  have b5 := F5.binds (ps := ["_law_pot_here", "_law_some_here", "_law_share"]) fun _ _ _ _ _ _ us hl => match us, hl with | [_, _, _], _ => rfl
  have F6 := fun_mk (st := s_law_named) l6 c6 k6
  have b6 := F6.binds (ps := ["_law_wide"]) fun _ _ _ _ _ _ us hl => match us, hl with | [_], _ => rfl
  have F7 := fun_mk (st := s_law_called_so) l7 c7 k7
  have b7 := F7.binds (ps := ["_law_table_here", "_law_led"]) fun _ _ _ _ _ _ us hl => match us, hl with | [_, _], _ => rfl
  have F8 := fun_mk (st := s_law_changed) l8 c8 k8
  have b8 := F8.binds (ps := ["_law_pot_here", "_law_table_here"]) fun _ _ _ _ _ _ us hl => match us, hl with | [_, _], _ => rfl
  have F9 := fun_mk (st := s_law_table) l9 c9 k9
  have b9 := F9.binds (ps := ["_law_pot_here", "_law_most"]) fun _ _ _ _ _ _ us hl => match us, hl with | [_, _], _ => rfl
  have F10 := fun_mk (st := s_law_right) l10 c10 k10
  have b10 := F10.binds (ps := ["_law_pot_here"]) fun _ _ _ _ _ _ us hl => match us, hl with | [_], _ => rfl
  have F11 := fun_mk (st := s_law) l11 c11 k11
  have b11 := F11.binds (ps := ["_law_script"]) fun _ _ _ _ _ _ us hl => match us, hl with | [_], _ => rfl
  refine ⟨PySem.W.fnOf "law" "law" (defArgs s_law) (defBody s_law) (defScope s_law) .none kV11 dc11 pm11 an11 cd11 ct11, fun s v => .of_eq rfl, fun base _ _ => ?_⟩
  have G0 := ok_may_follow (P := l.prog) (w := w) (mg := mg) (base := base) F0 z_len
  have H_may_follow : Has l.prog w K mg base "may_follow" 1 3 f_may_follow := ⟨_, _, _, G0, PySem.W.mg_of X G a0, k0, b0⟩
  have G1 := ok_law_pot (P := l.prog) (w := w) (mg := mg) (base := base) F1 z_abs z_len
  have H_law_pot : Has l.prog w K mg base "_law_pot" 1 2 f_law_pot := ⟨_, _, _, G1, PySem.W.mg_of X G a1, k1, b1⟩
  have G2 := ok_law_take (P := l.prog) (w := w) (mg := mg) (base := base) F2 
  have H_law_take : Has l.prog w K mg base "_law_take" 1 2 f_law_take := ⟨_, _, _, G2, PySem.W.mg_of X G a2, k2, b2⟩
  have G3 := ok_law_pick (P := l.prog) (w := w) (mg := mg) (base := base) F3 z_len H_law_take
  have H_law_pick : Has l.prog w K mg base "_law_pick" 2 2 f_law_pick := ⟨_, _, _, G3, PySem.W.mg_of X G a3, k3, b3⟩
  have G4 := ok_law_mixed (P := l.prog) (w := w) (mg := mg) (base := base) F4 z_len z_list H_law_take
  have H_law_mixed : Has l.prog w K mg base "_law_mixed" 2 2 f_law_mixed := ⟨_, _, _, G4, PySem.W.mg_of X G a4, k4, b4⟩
  have G5 := ok_law_some (P := l.prog) (w := w) (mg := mg) (base := base) F5 z_tuple H_law_take
  have H_law_some : Has l.prog w K mg base "_law_some" 2 3 f_law_some := ⟨_, _, _, G5, PySem.W.mg_of X G a5, k5, b5⟩
  have G6 := ok_law_named (P := l.prog) (w := w) (mg := mg) (base := base) F6 z_enumerate z_range z_tuple
  have H_law_named : Has l.prog w K mg base "_law_named" 1 1 f_law_named := ⟨_, _, _, G6, PySem.W.mg_of X G a6, k6, b6⟩
  have G7 := ok_law_called_so (P := l.prog) (w := w) (mg := mg) (base := base) F7 z_enumerate z_len z_range z_sorted z_tuple
  have H_law_called_so : Has l.prog w K mg base "_law_called_so" 1 2 f_law_called_so := ⟨_, _, _, G7, PySem.W.mg_of X G a7, k7, b7⟩
  have G8 := ok_law_changed (P := l.prog) (w := w) (mg := mg) (base := base) F8 z_len z_list z_range z_sorted z_tuple H_law_take
  have H_law_changed : Has l.prog w K mg base "_law_changed" 2 2 f_law_changed := ⟨_, _, _, G8, PySem.W.mg_of X G a8, k8, b8⟩
  have G9 := ok_law_table (P := l.prog) (w := w) (mg := mg) (base := base) F9 z_len z_list z_range z_tuple H_law_called_so H_law_changed H_law_mixed H_law_named H_law_pick H_law_some H_law_take
  have H_law_table : Has l.prog w K mg base "_law_table" 3 2 f_law_table := ⟨_, _, _, G9, PySem.W.mg_of X G a9, k9, b9⟩
  have G10 := ok_law_right (P := l.prog) (w := w) (mg := mg) (base := base) F10 z_dict z_enumerate z_list z_range z_repr H_law_table H_may_follow
  have H_law_right : Has l.prog w K mg base "_law_right" 4 1 f_law_right := ⟨_, _, _, G10, PySem.W.mg_of X G a10, k10, b10⟩
  have G11 := ok_law (P := l.prog) (w := w) (mg := mg) (base := base) F11 z_all z_len z_max z_min z_range H_law_pot H_law_right
  exact G11
end
end L02
end
section
namespace FA
open N1
def b_law_pot : MS := (sSeq (sSet 2 (eIf (tE (eB (bOp fLtI (bVar 1) (bFn fLen (abCons (bVar 0) abNil))))) (eB (bOp ixD (bVar 0) (bVar 1))) (eB (bOp fAddI (bOp fMulI (bC (.int 17)) (bVar 1)) (bC (.int 3))))))
  (sSeq (sSet 3 (eIf (tE (eB (bOp fGeI (bFn fAbs (abCons (bVar 2) abNil)) (bOp fPowI (bC (.int 10)) (bC (.int 18)))))) (eB (bOp fModI (bFn fAbs (abCons (bVar 2) abNil)) (bOp fPowI (bOp fPowI (bC (.int 10)) (bC (.int 60))) (bC (.int 3))))) (eB (bC (.int 0)))))
  (sRet (eCell (eLst (aCons (eB (bVar 3)) (aCons (eB (bOp fModI (bOp fAddI (bOp fAddI (bOp fMulI (bOp fModI (bVar 2) (bC (.int 2305843009213693951))) (bC (.int 69621))) (bOp fMulI (bOp fMulI (bC (.int 104729)) (bVar 1)) (bVar 1))) (bC (.int 71))) (bC (.int 2305843009213693921)))) (aCons (eB (bC (.int 0))) aNil))))))))
def f_law_pot : Fn := fnOf 4 b_law_pot
def b_law_take : MS := (sSeq (sIf (tE (eB (bOp fGtI (bOp ixD (bVar 0) (bC (.int 0))) (bC (.int 0))))) (sSeq (sSet 2 (eB (bOp fModI (bOp ixD (bVar 0) (bC (.int 0))) (bVar 1))))
  (sSeq (sPut 0 (bC (.int 0)) (eB (bOp fDivI (bOp ixD (bVar 0) (bC (.int 0))) (bVar 1))))
  (sRet (eB (bVar 2)))))
  sNil)
  (sSeq (sPut 0 (bC (.int 2)) (eB (bOp fAddI (bOp ixD (bVar 0) (bC (.int 2))) (bC (.int 1)))))
  (sSeq (sSet 3 (eOp ixD (eFrz (eLst (aCons (eB (bC (.int 2147483647))) (aCons (eB (bC (.int 2147483629))) (aCons (eB (bC (.int 2147483587))) (aCons (eB (bC (.int 2147483579))) (aCons (eB (bC (.int 2147483563))) aNil))))))) (eB (bOp fModI (bOp ixD (bVar 0) (bC (.int 2))) (bC (.int 5))))))
  (sSeq (sSet 4 (eB (bOp fModI (bOp fPowI (bOp fAddI (bOp fAddI (bOp ixD (bVar 0) (bC (.int 1))) (bOp fMulI (bOp fMulI (bC (.int 40009)) (bOp ixD (bVar 0) (bC (.int 2)))) (bOp ixD (bVar 0) (bC (.int 2))))) (bC (.int 31))) (bC (.int 3))) (bVar 3))))
  (sRet (eB (bOp fModI (bOp fDivI (bOp fModI (bOp fMulI (bVar 4) (bOp fAddI (bOp fModI (bVar 4) (bC (.int 10009))) (bOp fMulI (bC (.int 89)) (bOp ixD (bVar 0) (bC (.int 2)))))) (bC (.int 2305843009213693907))) (bC (.int 89))) (bVar 1))))))))
def f_law_take : Fn := fnOf 5 b_law_take
def b_law_pick : MS := (sRet (eOp ixD (eB (bVar 1)) (eCall 2 f_law_take (aCons (eB (bVar 0)) (aCons (eB (bFn fLen (abCons (bVar 1) abNil))) aNil)))))
def f_law_pick : Fn := fnOf 2 b_law_pick
def b_law_mixed : MS := (sSeq (sPar 2 3 (aCons (eFnB fLst (abCons (bVar 1) abNil)) (aCons (eLst aNil) aNil)))
  (sSeq (loopW (tE (eOpV fNe 2 (eFrz (eLst aNil)))) (sAppPop 3 2 (eCall 2 f_law_take (aCons (eB (bVar 0)) (aCons (eB (bFn fLen (abCons (bVar 2) abNil))) aNil)))) 1000)
  (sFreeze 3 (sRet (eB (bVar 3))))))
def f_law_mixed : Fn := fnOf 4 b_law_mixed
def b_law_some : MS := (sRet (eFn fTup (aCons (eFrz (eLc [3] (iSeqM (eB (bVar 1))) (gVar 3) (tE (eOp fEq (eCall 2 f_law_take (aCons (eB (bVar 0)) (aCons (eB (bVar 2)) aNil))) (eB (bC (.int 0))))) (eB (bVar 3)))) aNil)))
def f_law_some : Fn := fnOf 4 b_law_some
def b_law_named : MS := (sSeq (sSet 1 (eLst aNil))
  (sSeq (sFor (iArgs rngOf1 (aCons (eB (bVar 0)) aNil)) (gVar 2) (sMut 1 wExt (aCons (eLc [3] (iArgs rngOf1 (aCons (eB (bVar 0)) aNil)) (gVar 3) tYesM (eTup (aCons (eB (bVar 2)) (aCons (eB (bVar 3)) aNil)))) aNil)))
  (sFreeze 1 (sForget 2 (sRet (eFn fTup (aCons (eFrz (eLc [2, 3] (iSeqM (eB (bVar 1))) (gTupM 2 (gsCons (gVar 2) (gsCons (gVar 3) gsNil))) tYesM (eFn fTup (aCons (eFrz (eLc [4, 5] (iArgs enumOf (aCons (eB (bVar 1)) aNil)) (gTupM 2 (gsCons (gVar 4) (gsCons (gVar 5) gsNil))) (tE (eB (bOp fEq (bOp ixD (bVar 5) (bC (.int 0))) (bVar 3)))) (eB (bVar 4)))) aNil)))) aNil)))))))
def f_law_named : Fn := fnOf 6 b_law_named
def b_law_called_so : MS := (sSeq (sSet 2 eDct)
  (sSeq (sFor (iArgs enumOf (aCons (eB (bVar 0)) aNil)) (gTupM 2 (gsCons (gVar 3) (gsCons (gVar 4) gsNil))) (sDPutM 2 (bOp ixD (bVar 1) (bVar 3)) (eFn fTup (aCons (eFrz (eFn fSort (aCons (eFrz (eLc [5] (iSeqM (eB (bVar 4))) (gVar 5) tYesM (eB (bOp ixD (bVar 1) (bVar 5))))) aNil))) aNil))))
  (sFreeze 2 (sForget 3 (sRet (eFn fTup (aCons (eFrz (eLc [3] (iArgs rngOf1 (aCons (eB (bFn fLen (abCons (bVar 0) abNil))) aNil)) (gVar 3) tYesM (eB (bDGet (bVar 2) (bVar 3))))) aNil)))))))
def f_law_called_so : Fn := fnOf 6 b_law_called_so
def b_law_changed : MS := (sSeq (sSet 2 (eLc [3] (iSeqM (eB (bVar 1))) (gVar 3) tYesM (eFnB fLst (abCons (bVar 3) abNil))))
  (sSeq (sFor (iArgs rngOf1 (aCons (eOp fAddI (eB (bC (.int 1))) (eCall 2 f_law_take (aCons (eB (bVar 0)) (aCons (eB (bC (.int 3))) aNil)))) aNil)) (gVar 4) (sSeq (sPar 5 6 (aCons (eCall 2 f_law_take (aCons (eB (bVar 0)) (aCons (eB (bFn fLen (abCons (bVar 2) abNil))) aNil))) (aCons (eCall 2 f_law_take (aCons (eB (bVar 0)) (aCons (eB (bFn fLen (abCons (bVar 2) abNil))) aNil))) aNil)))
  (sIf (tE (eB (bOp fIn (bVar 6) (bOp ixD (bVar 2) (bVar 5))))) (sMut1 2 wRem (bVar 5) (bVar 6))
  (sPut 2 (bVar 5) (eFn fSort (aCons (eFrz (eCatS (bOp ixD (bVar 2) (bVar 5)) (abCons (bVar 6) abNil))) aNil))))))
  (sFreeze 2 (sRet (eFn fTup (aCons (eFrz (eLc [3] (iSeqM (eB (bVar 2))) (gVar 3) tYesM (eFnB fTup (abCons (bVar 3) abNil)))) aNil))))))
def f_law_changed : Fn := fnOf 7 b_law_changed
def b_law_table : MS := (sSeq (sAsg (eTup (aCons (eCall 2 f_law_take (aCons (eB (bVar 0)) (aCons (eB (bC (.int 6))) aNil))) (aCons (eOp fAddI (eB (bC (.int 1))) (eCall 2 f_law_take (aCons (eB (bVar 0)) (aCons (eB (bVar 1)) aNil)))) aNil))) (gTupM 2 (gsCons (gVar 2) (gsCons (gVar 3) gsNil))))
  (sSeq (sIf (tE (eB (bOp fLtI (bVar 2) (bC (.int 3))))) (sSeq (sSet 4 (eFrz (eRg1 (.lst true) (eB (bVar 3)))))
  (sRet (eFn fTup (aCons (eFrz (eLc [5] (iSeqM (eB (bVar 4))) (gVar 5) tYesM (eCall 3 f_law_some (aCons (eB (bVar 0)) (aCons (eB (bVar 4)) (aCons (eOp fAddI (eB (bC (.int 1))) (eCall 2 f_law_take (aCons (eB (bVar 0)) (aCons (eB (bOp fAddI (bVar 2) (bC (.int 2)))) aNil)))) aNil)))))) aNil))))
  sNil)
  (sSeq (sSet 6 (eCall 1 f_law_named (aCons (eCall 2 f_law_pick (aCons (eB (bVar 0)) (aCons (eFrz (eLc [7] (iSeqM (eTup (aCons (eB (bC (.int 1))) (aCons (eB (bC (.int 2))) (aCons (eB (bC (.int 3))) (aCons (eB (bC (.int 4))) aNil)))))) (gVar 7) (tE (eB (bOp fLeI (bOp fMulI (bVar 7) (bVar 7)) (bVar 1)))) (eB (bVar 7)))) aNil))) aNil)))
  (sSeq (sIf (tE (eB (bOp fGtI (bVar 2) (bC (.int 3))))) (sSet 6 (eCall 2 f_law_called_so (aCons (eB (bVar 6)) (aCons (eCall 2 f_law_mixed (aCons (eB (bVar 0)) (aCons (eFrz (eRg1 (.lst true) (eB (bFn fLen (abCons (bVar 6) abNil))))) aNil))) aNil))))
  sNil)
  (sRet (eIf (tE (eB (bOp fEq (bVar 2) (bC (.int 5))))) (eCall 2 f_law_changed (aCons (eB (bVar 0)) (aCons (eB (bVar 6)) aNil))) (eB (bVar 6))))))))
def f_law_table : Fn := fnOf 8 b_law_table
end FA
end
section
namespace FA
open PySem N1
local macro_rules | `(tactic| walk_at "m") => `(tactic| try simp (disch := first | assumption | omega | (simp only [rgI_len, List.length_map, List.length_zipIdx, List.length_zip, List.length_range, List.length_append, List.length_cons, List.length_nil]; omega)) only [↓mPre, mPost, ← List.map_reverse, List.length_reverse, List.set_cons_zero, List.set_cons_succ, List.map_nil, map_cons', List.length_cons, List.length_nil, List.length_map, List.length_zipIdx, List.length_range, List.length_replicate, Nat.reduceAdd, Nat.reduceSub, Nat.reduceLeDiff, Nat.reduceLT, Nat.reduceEqDiff, List.replicate_succ, List.replicate_zero, List.append_eq, List.cons_append, List.nil_append, List.append_nil, if_true, if_false, ite_true, ite_false, eq_self, Option.map_some, ← List.map_drop, ← List.map_take, ← List.map_dropLast, List.length_drop, List.length_take, List.length_set, Int.reduceNeg, if_le, if_lt, Is])
local macro_rules | `(tactic| walk_at "n") => `(tactic| try simp (disch := first | assumption | omega | (simp only [rgI_len, List.length_map, List.length_zipIdx, List.length_zip, List.length_range, List.length_append, List.length_cons, List.length_nil]; omega)) only [↓mPre, mPost, ← List.map_reverse, List.length_reverse, List.set_cons_zero, List.set_cons_succ, List.map_nil, map_cons', List.length_cons, List.length_nil, List.length_map, List.length_zipIdx, List.length_range, List.length_replicate, Nat.reduceAdd, Nat.reduceSub, Nat.reduceLeDiff, Nat.reduceLT, Nat.reduceEqDiff, List.replicate_succ, List.replicate_zero, List.append_eq, List.cons_append, List.nil_append, List.append_nil, if_true, if_false, ite_true, ite_false, eq_self, Option.map_some, ← List.map_drop, ← List.map_take, ← List.map_dropLast, List.length_drop, List.length_take, List.length_set, Int.reduceNeg, if_le, if_lt, Is, ite_t, ite_f])
section
variable {S : Sto} {n : Nat} {c : Int} {Q : D → Sto → Prop}
theorem take_rw {k : Int} (P : PotAt S n c) (hc : c < 1152921504606846976) (hk : 0 < k) (hk2 : k < 1073741824) (q : ∀ d S', 0 ≤ d → d < k → Drew S S' n (c + 1) → Q (.int d) S') : RW (f_law_take [.ref n, .int k] S) Q := by
  obtain ⟨d, S', h, h0, h1, W⟩ := draw P hc hk hk2
  exact RW.of h (q d S' h0 h1 W)
theorem mixed_rw {b : Bool} (ns : List Int) (P : PotAt S n c) (hc : c < 1000000000) (hl : ns.length ≤ 500) (q : ∀ (qs : List Int) S', qs.Perm ns → Drew S S' n (c + ns.length) → Q (.lst false (qs.map D.int)) S') : RW (f_law_mixed [.ref n, .lst b (ns.map D.int)] S) Q := by
  obtain ⟨qs, S', h, h0, W⟩ := mixed_ok (b := b) ns P (by omega) hl
  exact RW.of h (q qs S' h0 W)
theorem some_rw {k : Int} (ns : List Int) (P : PotAt S n c) (hc : c < 1000000000) (hl : ns.length ≤ 500) (hk : 0 < k) (hk2 : k < 1073741824) (q : ∀ (qs : List Int) S', qs.Sublist ns → Drew S S' n (c + ns.length) → Q (rowD qs) S') : RW (f_law_some [.ref n, .lst false (ns.map D.int), .int k] S) Q := by
  obtain ⟨qs, S', h, h0, W⟩ := some_ok ns P (by omega) (by omega) hk hk2
  exact RW.of h (q qs S' h0 W)
theorem pick_rw (ns : List Int) (P : PotAt S n c) (hc : c < 1000000000) (h0 : ns ≠ []) (hl : ns.length ≤ 500) (q : ∀ (x : Int) S', x ∈ ns → Drew S S' n (c + 1) → Q (.int x) S') : RW (f_law_pick [.ref n, .lst false (ns.map D.int)] S) Q := by
  obtain ⟨x, S', h, h0, W⟩ := pick_ok ns P (by omega) h0 (by omega)
  exact RW.of h (q x S' h0 W)
theorem named_len (w : Nat) : (nmd w).length = w * w := by unfold nmd; simp
theorem named_eq : f_law_named = namedF := rfl
theorem named_at (v : Nat) (h : namedF [.int (v : Nat)] S = .ok (tabD (nmd v)) S) (ht : IsTab (nmd v)) {w : Int} (e : w = (v : Nat)) (q : IsTab (nmd w.toNat) → (nmd w.toNat).length = w.toNat * w.toNat → Q (tabD (nmd w.toNat)) S) : RW (f_law_named [.int w] S) Q := by
  subst e
  have e : f_law_named [.int (v : Nat)] S = namedF [.int (v : Nat)] S := congrFun (congrFun named_eq _) _
  have q2 := q (by rw [Int.toNat_natCast]; exact ht) (by rw [Int.toNat_natCast]; exact named_len v)
  have h2 := e.trans h
  clear h e
  generalize f_law_named [.int (v : Nat)] S = z at h2
  generalize hu : nmd v = u at h2
  rw [Int.toNat_natCast, hu] at q2
  subst h2
  exact RW.of rfl q2
theorem named_rw {w : Int} (h1 : 1 ≤ w) (h2 : w ≤ 4) (q : IsTab (nmd w.toNat) → (nmd w.toNat).length = w.toNat * w.toNat → Q (tabD (nmd w.toNat)) S) : RW (f_law_named [.int w] S) Q := by
  have : w = 1 ∨ w = 2 ∨ w = 3 ∨ w = 4 := by omega
  rcases this with e | e | e | e
  · exact named_at 1 (nmd1 S) (okTab_is (by decide +kernel)) e q
  · exact named_at 2 (nmd2 S) (okTab_is (by decide +kernel)) e q
  · exact named_at 3 (nmd3 S) (okTab_is (by decide +kernel)) e q
  · exact named_at 4 (nmd4 S) (okTab_is (by decide +kernel)) e q
end
/-- an order of n marks -/
structure Ord (led : List Int) (n : Nat) : Prop where
  perm : led.Perm ((List.range n).map fun i : Nat => (i : Int))
theorem Ord.len {led : List Int} {n : Nat} (h : Ord led n) : led.length = n := by simpa using h.perm.length_eq
theorem Ord.nodup {led : List Int} {n : Nat} (h : Ord led n) : led.Nodup := by
  refine h.perm.nodup_iff.mpr ?_
  refine List.Pairwise.map _ ?_ List.nodup_range
  intro a b hab e
  exact hab (by omega)
theorem Ord.mem {led : List Int} {n : Nat} (h : Ord led n) {x : Int} : x ∈ led ↔ 0 ≤ x ∧ x < n := by
  rw [h.perm.mem_iff, List.mem_map]
  constructor
  · rintro ⟨i, hi, rfl⟩
    have := List.mem_range.mp hi
    omega
  · rintro ⟨h0, h1⟩
    exact ⟨x.toNat, List.mem_range.mpr (by omega), by omega⟩
theorem calledso_eq {ld : D} {led : List Int} {t : List (List Int)} (S : Sto) (hl : Holds ld led) (ho : Ord led t.length) (ht : IsTab t) : f_law_called_so [tabD t, ld] S = .ok (tabD (calledI led t)) S :=
  calledso_ok S hl ho.nodup ho.len (fun s hs => ho.mem.mpr ⟨by omega, by omega⟩) (by have := ht.le; omega) fun r hr => ⟨(ht.row r hr).2, by have := ht.small r hr; omega⟩
theorem sortI_mem {x : Int} {r : List Int} : x ∈ sortI r ↔ x ∈ r := (sortI_perm r).mem_iff
theorem img_lt {led : List Int} {n : Nat} (ho : Ord led n) {x : Int} (h0 : 0 ≤ x) (h1 : x < n) : 0 ≤ img led x ∧ img led x < n := by
  have hl := ho.len
  unfold img
  have hk : x.toNat < led.length := by omega
  rw [List.getD_eq_getElem?_getD, List.getElem?_eq_getElem hk]
  exact ho.mem.mp (List.getElem_mem hk)
theorem img_inj {led : List Int} {n : Nat} (ho : Ord led n) {x y : Int} (h0 : 0 ≤ x) (h1 : x < n) (k0 : 0 ≤ y) (k1 : y < n) (e : img led x = img led y) : x = y := by
  have hl := ho.len
  unfold img at e
  have hx : x.toNat < led.length := by omega
  have hy : y.toNat < led.length := by omega
  rw [List.getD_eq_getElem?_getD, List.getD_eq_getElem?_getD, List.getElem?_eq_getElem hx, List.getElem?_eq_getElem hy] at e
  have e : led[x.toNat] = led[y.toNat] := e
  have nd := List.pairwise_iff_getElem.mp ho.nodup
  rcases Nat.lt_trichotomy x.toNat y.toNat with h | h | h
  · exact absurd e (nd _ _ hx hy h)
  · omega
  · exact absurd e.symm (nd _ _ hy hx h)
theorem rowImg_ok {led : List Int} {n : Nat} (ho : Ord led n) {r : List Int} (h1 : r.Pairwise (· < ·)) (h2 : ∀ x ∈ r, 0 ≤ x ∧ x < n) : (rowImg led r).Pairwise (· < ·) ∧ ∀ x ∈ rowImg led r, 0 ≤ x ∧ x < n := by
  constructor
  · have nd : (rowImg led r).Nodup := by
      unfold rowImg
      rw [(sortI_perm _).nodup_iff]
      refine List.pairwise_map.mpr ?_
      refine (List.Pairwise.and_mem.mp h1).imp ?_
      rintro a b ⟨ha, hb, hab⟩ e
      have := img_inj ho (h2 a ha).1 (h2 a ha).2 (h2 b hb).1 (h2 b hb).2 e
      omega
    have so : (rowImg led r).Pairwise (· ≤ ·) := sortI_sorted _
    refine (List.pairwise_and_iff.mpr ⟨so, nd⟩).imp ?_
    rintro a b ⟨h, k⟩
    omega
  · intro x hx
    unfold rowImg at hx
    rw [sortI_mem] at hx
    obtain ⟨y, hy, rfl⟩ := List.mem_map.mp hx
    exact img_lt ho (h2 y hy).1 (h2 y hy).2
theorem calledI_tab {led : List Int} {t : List (List Int)} (ho : Ord led t.length) (ht : IsTab t) : IsTab (calledI led t) ∧ (calledI led t).length = t.length := by
  have hl : (calledI led t).length = t.length := by unfold calledI; simp
  refine ⟨⟨by rw [hl]; exact ht.pos, by rw [hl]; exact ht.le, fun r hr => ?_⟩, hl⟩
  rw [hl]
  unfold calledI at hr
  obtain ⟨s, hs, rfl⟩ := List.mem_map.mp hr
  have hr : t.getD (place led s) [] ∈ t ∨ t.getD (place led s) [] = [] := by
    rw [List.getD_eq_getElem?_getD]
    cases h : t[place led s]? with
    | none => exact .inr rfl
    | some r => exact .inl (List.mem_of_getElem? h)
  rcases hr with h | h
  · exact rowImg_ok ho (ht.row _ h).1 (ht.row _ h).2
  · rw [h]
    exact rowImg_ok ho .nil (fun x hx => nomatch hx)
end FA
end
section
namespace FA
open PySem N1
local macro_rules | `(tactic| walk_at "m") => `(tactic| try simp (disch := first | assumption | omega | (simp only [rgI_len, List.length_map, List.length_zipIdx, List.length_zip, List.length_range, List.length_append, List.length_cons, List.length_nil]; omega)) only [↓mPre, mPost, ← List.map_reverse, List.length_reverse, List.set_cons_zero, List.set_cons_succ, List.map_nil, map_cons', List.length_cons, List.length_nil, List.length_map, List.length_zipIdx, List.length_range, List.length_replicate, Nat.reduceAdd, Nat.reduceSub, Nat.reduceLeDiff, Nat.reduceLT, Nat.reduceEqDiff, List.replicate_succ, List.replicate_zero, List.append_eq, List.cons_append, List.nil_append, List.append_nil, if_true, if_false, ite_true, ite_false, eq_self, Option.map_some, ← List.map_drop, ← List.map_take, ← List.map_dropLast, List.length_drop, List.length_take, List.length_set, Int.reduceNeg, if_le, if_lt, Is])
local macro_rules | `(tactic| walk_at "n") => `(tactic| try simp (disch := first | assumption | omega | (simp only [rgI_len, List.length_map, List.length_zipIdx, List.length_zip, List.length_range, List.length_append, List.length_cons, List.length_nil]; omega)) only [↓mPre, mPost, ← List.map_reverse, List.length_reverse, List.set_cons_zero, List.set_cons_succ, List.map_nil, map_cons', List.length_cons, List.length_nil, List.length_map, List.length_zipIdx, List.length_range, List.length_replicate, Nat.reduceAdd, Nat.reduceSub, Nat.reduceLeDiff, Nat.reduceLT, Nat.reduceEqDiff, List.replicate_succ, List.replicate_zero, List.append_eq, List.cons_append, List.nil_append, List.append_nil, if_true, if_false, ite_true, ite_false, eq_self, Option.map_some, ← List.map_drop, ← List.map_take, ← List.map_dropLast, List.length_drop, List.length_take, List.length_set, Int.reduceNeg, if_le, if_lt, Is, ite_t, ite_f])
abbrev rowF (r : List Int) : D := .lst false (r.map D.int)
theorem Fs_rowF {t : List (List Int)} : isFs (t.map rowF) = true := Fs_map (fun x => by rw [F_lst]; exact Fs_ints) t
theorem zs_rowL {t : List (List Int)} : frzs (t.map rowL) = t.map rowF := by
  rw [frzs_map, List.map_map]
  exact List.map_congr_left fun x _ => by show (D.lst true _).frz = _; rw [z_lst, zs_ints]
theorem changed_rw {S : Sto} {n : Nat} {c : Int} {Q : D → Sto → Prop} {t : List (List Int)} (P : PotAt S n c) (hc : c < 1000000000) (ht : IsTab t) (q : ∀ u S', IsTab u → u.length = t.length → Drew S S' n (c + 7) → Q (tabD u) S') : RW (f_law_changed [.ref n, tabD t] S) Q := by
  unfold f_law_changed b_law_changed
  have hle := ht.le
  walk_at "m"
  refine RW.lcm id rowL (fun _ => rfl) (fun r hr => ?_) ?_
  · walk_at "m"
    rfl
  rw [List.map_id]
  refine take_rw P (by omega) (by omega) (by omega) fun d S1 d0 d1 W1 => ?_
  walk_at "m"
  refine RW.forI (fun dn e T => ∃ u x4 x5 x6, e = [some (.ref n), some (tabD t), some (rowsL u), none, x4, x5, x6] ∧ IsTab u ∧ u.length = t.length ∧ Drew S T n (c + 1 + 2 * dn.length)) ⟨t, none, none, none, rfl, ht, rfl, by simpa using W1⟩ ?_ ?_
  · rintro dn x r e T hx ⟨u, x4, x5, x6, rfl, hu, hl, W⟩
    have hlen : dn.length ≤ 3 := by
      have := congrArg List.length hx
      simp at this
      omega
    obtain ⟨t', y5, y6, S', h, ht', hl', W'⟩ := chgTurn (x1 := some (tabD t)) (x3 := none) (x4 := some (.int (x : Nat))) (x5 := x5) (x6 := x6) W.pot (by omega) hu
    refine ⟨_, rfl, ?_⟩
    refine RW.of h ⟨t', _, _, _, rfl, ht', by omega, ?_⟩
    have := W.trans W'
    refine this.more ?_
    rw [List.length_append]
    simp
    omega
  · rintro e T ⟨u, x4, x5, x6, rfl, hu, hl, W⟩
    have hle := hu.le
    walk_at "m"
    rw [zs_rowL]
    walk_at "m"
    simp only [Fs_rowF, if_true]
    walk_at "m"
    refine RW.lcm id rowD (fun _ => rfl) (fun r hr => ?_) ?_
    · walk_at "m"
      rfl
    rw [List.map_id]
    walk_at "m"
    refine q u T hu hl (W.more ?_)
    rw [List.length_range]
    omega
theorem table_rw {S : Sto} {n : Nat} {c : Int} {Q : D → Sto → Prop} {m : Int} (P : PotAt S n c) (hc : c < 900000000) (h1 : 1 ≤ m) (h16 : m ≤ 16) (q : ∀ t S', IsTab t → t.length ≤ m.toNat → Drew S S' n (c + 400) → Q (tabD t) S') : RW (f_law_table [.ref n, .int m] S) Q := by
  unfold f_law_table b_law_table
  walk_at "m"
  refine take_rw P (by omega) (by omega) (by omega) fun way S1 w0 w1 W1 => ?_
  walk_at "m"
  refine take_rw W1.pot (by omega) (by omega) (by omega) fun sz S2 s0 s1 W2 => ?_
  walk_at "m"
  by_cases hw : way < 3
  · simp only [hw, if_true]
    walk_at "m"
    refine RW.lcD (fun dn zs T => ∃ rs : List (List Int), zs = rs.map rowD ∧ rs.length = dn.length ∧ (∀ r ∈ rs, r.Sublist (rgI 0 (1 + sz))) ∧ Drew S T n (c + 2 + 17 * dn.length)) ⟨[], rfl, rfl, (fun r h => nomatch h), by simpa using (W1.trans W2).more (by omega)⟩ ?_ ?_
    · rintro dn x r zs T hx ⟨rs, rfl, hl, hr, W⟩
      have hlen : dn.length < 16 := by
        have := congrArg List.length hx
        rw [rgI_len] at this
        simp at this
        omega
      refine ⟨_, rfl, ?_⟩
      walk_at "m"
      refine take_rw W.pot (by omega) (by omega) (by omega) fun k S3 k0 k1 W3 => ?_
      walk_at "m"
      refine some_rw _ W3.pot (by omega) (by rw [rgI_len]; omega) (by omega) (by omega) fun qs S4 hq W4 => ?_
      refine ⟨rs ++ [qs], by simp, by simp [hl], fun r hr' => ?_, ?_⟩
      · rcases List.mem_append.mp hr' with h | h
        · exact hr r h
        · rw [List.mem_singleton.mp h]; exact hq
      · refine ((W.trans W3).trans W4).more ?_
        rw [rgI_len, List.length_append]
        simp
        omega
    · rintro zs T ⟨rs, rfl, hl, hr, W⟩
      rw [rgI_len] at hl W
      walk_at "m"
      refine q rs T ⟨by omega, by omega, fun r h => ⟨?_, fun x hx => ?_⟩⟩ (by omega) (W.more (by omega))
      · refine List.Pairwise.sublist (hr r h) ?_
        unfold rgI
        refine List.pairwise_map.mpr (List.pairwise_lt_range.imp ?_)
        intro a b hab
        omega
      · have := rgI_mem.mp ((hr r h).subset hx)
        omega
  · simp only [hw, if_false]
    walk_at "m"
    rw [show [D.int 1, D.int 2, D.int 3, D.int 4] = [(1 : Int), 2, 3, 4].map D.int from rfl]
    rw [lcQ_map (by decide)]
    refine RW.lcf (fun x => decide (x * x ≤ m)) (fun _ => rfl) (fun x hx => ?_) (fun x _ _ => ?_) ?_
    · have : -4611686018427387904 < x ∧ x < 4611686018427387904 := by
        simp at hx
        omega
      obtain ⟨a, b⟩ := this
      walk_at "m"
    · walk_at "m"
    · generalize hf : List.filter (fun x => decide (x * x ≤ m)) [(1 : Int), 2, 3, 4] = ws
      have hws : ∀ x ∈ ws, 1 ≤ x ∧ x ≤ 4 ∧ x * x ≤ m := fun x hx => by
        rw [← hf, List.mem_filter] at hx
        obtain ⟨a, b⟩ := hx
        have := of_decide_eq_true b
        simp at a
        omega
      have h0 : ws ≠ [] := fun e => by
        have : (1 : Int) ∈ ws := by
          rw [← hf, List.mem_filter]
          exact ⟨by simp, decide_eq_true (by omega)⟩
        rw [e] at this
        cases this
      have hwl : ws.length ≤ 500 := by
        rw [← hf]
        refine Nat.le_trans (List.length_filter_le _ _) ?_
        decide
      walk_at "m"
      refine pick_rw ws W2.pot (by omega) h0 hwl fun v S3 hv W3 => ?_
      obtain ⟨v1, v4, vm⟩ := hws v hv
      walk_at "m"
      refine named_rw v1 v4 fun ht hl => ?_
      have hvn : v.toNat * v.toNat ≤ m.toNat := by
        have : v = 1 ∨ v = 2 ∨ v = 3 ∨ v = 4 := by omega
        rcases this with e | e | e | e <;> subst e <;> simp <;> omega
      generalize nmd v.toNat = t at ht hl
      have hle := ht.le
      have hW := (W1.trans W2).trans W3
      walk_at "m"
      by_cases h3 : 3 < way
      · simp only [h3, if_true]
        walk_at "m"
        refine mixed_rw _ hW.pot (by omega) (by rw [rgI_len]; omega) fun qs S4 hq W4 => ?_
        have ho : Ord qs t.length := ⟨by rw [rgI_0] at hq; exact hq⟩
        walk_at "m"
        rw [calledso_eq S4 (holds_lst qs) ho ht]
        obtain ⟨ct, cl⟩ := calledI_tab ho ht
        generalize calledI qs t = u at ct cl
        walk_at "m"
        rw [rgI_len] at W4
        have hW4 := (hW.trans W4).more (b := c + 1 + 1 + 1 + 16) (by omega)
        by_cases h5 : way = 5
        · simp only [h5, if_true]
          walk_at "m"
          refine changed_rw hW4.pot (by omega) ct fun z S5 hz hzl W5 => ?_
          walk_at "m"
          exact q z S5 hz (by omega) ((hW4.trans W5).more (by omega))
        · simp only [h5, if_false]
          walk_at "m"
          exact q u S4 ct (by omega) (hW4.more (by omega))
      · simp only [h3, if_false]
        walk_at "m"
        have h5 : ¬ way = 5 := by omega
        simp only [h5, if_false]
        walk_at "m"
        exact q t S3 ht (by omega) (hW.more (by omega))
end FA
end
section
namespace N1
open PySem PySem.Spec PyProof.Rows L2
def pyTxt (d : D) : Str := match toPy d with
  | some p => p.shown
  | none => ""
theorem sOk_app {x y : Str} (h : PyData.strOk x = true) (k : PyData.strOk y = true) : PyData.strOk (x ++ y) = true := by
  unfold PyData.strOk at *
  show (x.cps ++ y.cps).all _ = true
  rw [Array.all_append, h, k]
  rfl
theorem sOk_join {ts : List Str} (h : ∀ t ∈ ts, PyData.strOk t = true) : PyData.strOk (Str.join ", " ts) = true := by
  induction ts with
  | nil => decide +kernel
  | cons t ts ih =>
    cases ts with
    | nil => exact h t List.mem_cons_self
    | cons u ts => exact sOk_app (sOk_app (h t List.mem_cons_self) (by decide +kernel)) (ih fun x hx => h x (List.mem_cons_of_mem _ hx))
theorem sOk_from {ts : List Str} (h : ∀ t ∈ ts, PyData.strOk t = true) : ∀ (k : Nat) (acc : Str), PyData.strOk acc = true → PyData.strOk (textFrom k acc ts) = true := by
  induction ts with
  | nil => intro k acc ha; exact ha
  | cons t ts ih =>
    intro k acc ha
    unfold textFrom
    refine ih (fun x hx => h x (List.mem_cons_of_mem _ hx)) (k + 1) _ (sOk_app (sOk_app ha ?_) (h t List.mem_cons_self))
    split <;> decide +kernel
theorem from_len : ∀ (ts : List Str) (b : Nat), (∀ t ∈ ts, t.length ≤ b) → ∀ (k : Nat) (acc : Str), (textFrom k acc ts).length ≤ acc.length + ts.length * (b + 2)
  | [], b, _, k, acc => by show acc.length ≤ _; simp
  | t :: ts, b, h, k, acc => by
    unfold textFrom
    have h1 := from_len ts b (fun x hx => h x (List.mem_cons_of_mem _ hx)) (k + 1) (acc ++ (if k > 0 then ", " else "" : String) ++ t)
    have h2 := h t List.mem_cons_self
    rw [Str.length_append, Str.length_append] at h1
    have h3 : ((if k > 0 then ", " else "" : String) : Str).length ≤ 2 := by split <;> decide
    rw [List.length_cons, Nat.add_mul]
    omega
structure Shw (d : D) (dep len : Nat) : Prop where
  ex : ∃ p, toPy d = some p ∧ p.showable = true ∧ p.depth ≤ dep ∧ p.shown.length ≤ len ∧ PyData.strOk p.shown = true
theorem Shw.more {d : D} {a b a' b' : Nat} (h : Shw d a b) (ha : a ≤ a') (hb : b ≤ b') : Shw d a' b' := by
  obtain ⟨p, h1, h2, h3, h4, h5⟩ := h.ex
  exact ⟨p, h1, h2, by omega, by omega, h5⟩
theorem repr_ok {d : D} {a b : Nat} (h : Shw d a b) (ha : a ≤ 60) (hb : b ≤ 16777216) {S : Sto} : fRepr S [d] = some (.str (pyTxt d)) := by
  obtain ⟨p, h1, h2, h3, h4, h5⟩ := h.ex
  have ha : p.depth ≤ 60 := by omega
  have hb : p.shown.length ≤ 16777216 := by omega
  unfold fRepr reprD pyTxt
  simp only [h1, h2, ha, hb, and_self, if_true, Option.map_some]
theorem strOk_txt {d : D} {a b : Nat} (h : Shw d a b) : PyData.strOk (pyTxt d) = true := by
  obtain ⟨p, h1, h2, h3, h4, h5⟩ := h.ex
  unfold pyTxt
  simp only [h1]
  exact h5
theorem eq_txt {d : D} {a b : Nat} (h : Shw d a b) {S : Sto} : fEq S (.str (pyTxt d)) (.str (pyTxt d)) = some (.bl true) := fEq_str (strOk_txt h)
theorem ne_txt {d : D} {a b : Nat} (h : Shw d a b) {S : Sto} : fNe S (.str (pyTxt d)) (.str (pyTxt d)) = some (.bl false) := by
  have := eq_txt h (S := S)
  unfold fEq at this
  unfold fNe
  cases e : eqD (.str (pyTxt d)) (.str (pyTxt d)) with
  | none => rw [e] at this; cases this
  | some k =>
    rw [e] at this
    simp only [Option.map_some, Option.some.injEq, D.bl.injEq] at this
    subst this
    rfl
theorem small_int : ∀ n : Nat, n < 300 → (PyData.shown (.int (n : Nat))).length ≤ 3 ∧ (PyData.shown (.int (-(n : Nat)))).length ≤ 4 ∧ PyData.strOk (PyData.shown (.int (n : Nat))) = true ∧ PyData.strOk (PyData.shown (.int (-(n : Nat)))) = true := by decide +kernel
theorem showable_int {x : Int} (h0 : -300 < x) (h1 : x < 300) : PyData.showable (.int x) = true := by
  simp only [PyData.showable]
  apply decide_eq_true
  by_cases h : x.natAbs = 0
  · rw [h]; decide
  · have : x.natAbs.log2 < 9 := (Nat.log2_lt h).mpr (by omega)
    omega
theorem Shw.int {x : Int} (h0 : -300 < x) (h1 : x < 300) : Shw (.int x) 0 4 := by
  refine ⟨.int x, rfl, showable_int h0 h1, by simp [PyData.depth], ?_⟩
  by_cases h : 0 ≤ x
  · obtain ⟨a, b, c, d⟩ := small_int x.toNat (by omega)
    rw [Int.toNat_of_nonneg h] at a c
    exact ⟨by omega, c⟩
  · obtain ⟨a, b, c, d⟩ := small_int (-x).toNat (by omega)
    rw [Int.toNat_of_nonneg (by omega), Int.neg_neg] at b d
    exact ⟨by omega, d⟩
theorem Shw.bl (b : Bool) : Shw (.bl b) 0 5 := ⟨.bool b, rfl, by cases b <;> rfl, by simp [PyData.depth], by cases b <;> decide +kernel, by cases b <;> decide +kernel⟩
theorem Shw.non : Shw .non 0 4 := ⟨.none, rfl, rfl, by simp [PyData.depth], by decide +kernel, by decide +kernel⟩
theorem listText_le {b : Nat} {ts : List Str} (h : ∀ t ∈ ts, t.length ≤ b) : (listText ts).length ≤ ts.length * (b + 2) + 3 := by
  have := from_len ts b h 0 "["
  unfold listText
  rw [Str.length_append]
  have h1 : (("[" : String) : Str).length = 1 := by decide +kernel
  have h2 : (("]" : String) : Str).length = 1 := by decide +kernel
  omega
theorem shAll_mem {Pr : Str → Prop} : ∀ {ps : List PyData}, (∀ p ∈ ps, Pr p.shown) → ∀ t ∈ PyData.shownAll ps, Pr t
  | [], _, t, ht => by simp [PyData.shownAll] at ht
  | p :: ps, h, t, ht => by
    simp only [PyData.shownAll, List.mem_cons] at ht
    rcases ht with e | ht
    · rw [e]; exact h p List.mem_cons_self
    · exact shAll_mem (fun q hq => h q (List.mem_cons_of_mem _ hq)) t ht
theorem toPys_each {ds : List D} {dep len : Nat} (h : ∀ d ∈ ds, Shw d dep len) : ∃ ps, toPys ds = some ps ∧ ps.length = ds.length ∧ PyData.showableAll ps = true ∧ PyData.depthAll ps ≤ dep ∧ (∀ p ∈ ps, p.shown.length ≤ len) ∧ ∀ p ∈ ps, PyData.strOk p.shown = true := by
  induction ds with
  | nil => exact ⟨[], rfl, rfl, by simp [PyData.showableAll], by simp [PyData.depthAll], (fun p hp => nomatch hp), fun p hp => nomatch hp⟩
  | cons d ds ih =>
    obtain ⟨ps, h1, h2, h3, h4, h5, h6⟩ := ih fun x hx => h x (List.mem_cons_of_mem _ hx)
    obtain ⟨p, k1, k2, k3, k4, k5⟩ := (h d List.mem_cons_self).ex
    refine ⟨p :: ps, ?_, by simp [h2], by simp [PyData.showableAll, k2, h3], by simp only [PyData.depthAll]; omega, fun q hq => ?_, fun q hq => ?_⟩
    · unfold toPys
      rw [k1, h1]
    · rcases List.mem_cons.mp hq with e | e
      · rw [e]; exact k4
      · exact h5 q e
    · rcases List.mem_cons.mp hq with e | e
      · rw [e]; exact k5
      · exact h6 q e
theorem Shw.tup {ds : List D} {dep len : Nat} (h : ∀ d ∈ ds, Shw d dep len) : Shw (.tup ds) (dep + 1) (ds.length * (len + 2) + 3) := by
  obtain ⟨ps, h1, h2, h3, h4, h5, h6⟩ := toPys_each h
  refine ⟨.tuple ps, ?_, ?_, ?_, ?_, ?_⟩
  · unfold toPy; rw [h1]
  · simp only [PyData.showable]; exact h3
  · simp only [PyData.depth]; omega
  · have := tuple_le h5; rw [h2] at this; exact this
  · show PyData.strOk (PyData.shown (.tuple ps)) = true
    simp only [PyData.shown]
    unfold tupleText
    refine sOk_app (sOk_app (by decide +kernel) (sOk_join (shAll_mem h6))) ?_
    split <;> decide +kernel
theorem Shw.lst {b : Bool} {ds : List D} {dep len : Nat} (h : ∀ d ∈ ds, Shw d dep len) : Shw (.lst b ds) (dep + 1) (ds.length * (len + 2) + 3) := by
  obtain ⟨ps, h1, h2, h3, h4, h5, h6⟩ := toPys_each h
  refine ⟨.list ps, ?_, ?_, ?_, ?_, ?_⟩
  · unfold toPy; rw [h1]
  · simp only [PyData.showable]; exact h3
  · simp only [PyData.depth]; omega
  · have := listText_le (shAll_mem h5)
    rw [shownAll_len, h2] at this
    simpa only [PyData.shown] using this
  · show PyData.strOk (PyData.shown (.list ps)) = true
    simp only [PyData.shown]
    unfold listText
    exact sOk_app (sOk_from (shAll_mem h6) 0 _ (by decide +kernel)) (by decide +kernel)
theorem Shw.map {α : Type} {f : α → D} {l : List α} {dep len : Nat} (h : ∀ x ∈ l, Shw (f x) dep len) : ∀ d ∈ l.map f, Shw d dep len := fun d hd => by
  obtain ⟨x, hx, e⟩ := List.mem_map.mp hd
  rw [← e]
  exact h x hx
theorem Shw.row {r : List Int} {n : Nat} (hn : r.length ≤ n) (h : ∀ x ∈ r, -300 < x ∧ x < 300) : Shw (rowD r) 1 (n * 6 + 3) := by
  refine (Shw.tup (Shw.map fun x hx => Shw.int (h x hx).1 (h x hx).2)).more (by omega) ?_
  rw [List.length_map]
  omega
theorem Shw.tab {t : List (List Int)} (h : IsTab t) : Shw (tabD t) 2 1619 := by
  have hl := h.le
  refine (Shw.tup (dep := 1) (len := 99) (Shw.map fun r hr => ?_)).more (by omega) ?_
  · refine (Shw.row (n := 16) (h.small r hr) fun x hx => ?_)
    have := (h.row r hr).2 x hx
    omega
  · rw [List.length_map]
    omega
end N1
end
section
namespace PG
open PySem N1
open FA (Ord img_lt)
local macro_rules | `(tactic| walk_at "m") => `(tactic| try simp (disch := first | assumption | omega | (simp only [rgI_len, List.length_map, List.length_zipIdx, List.length_zip, List.length_range, List.length_append, List.length_cons, List.length_nil]; omega)) only [↓mPre, mPost, ← List.map_reverse, List.length_reverse, List.set_cons_zero, List.set_cons_succ, List.map_nil, map_cons', List.length_cons, List.length_nil, List.length_map, List.length_zipIdx, List.length_range, List.length_replicate, Nat.reduceAdd, Nat.reduceSub, Nat.reduceLeDiff, Nat.reduceLT, Nat.reduceEqDiff, List.replicate_succ, List.replicate_zero, List.append_eq, List.cons_append, List.nil_append, List.append_nil, if_true, if_false, ite_true, ite_false, eq_self, Option.map_some, ← List.map_drop, ← List.map_take, ← List.map_dropLast, List.length_drop, List.length_take, List.length_set, Int.reduceNeg, if_le, if_lt, Is])
local macro_rules | `(tactic| walk_at "n") => `(tactic| try simp (disch := first | assumption | omega | (simp only [rgI_len, List.length_map, List.length_zipIdx, List.length_zip, List.length_range, List.length_append, List.length_cons, List.length_nil]; omega)) only [↓mPre, mPost, ← List.map_reverse, List.length_reverse, List.set_cons_zero, List.set_cons_succ, List.map_nil, map_cons', List.length_cons, List.length_nil, List.length_map, List.length_zipIdx, List.length_range, List.length_replicate, Nat.reduceAdd, Nat.reduceSub, Nat.reduceLeDiff, Nat.reduceLT, Nat.reduceEqDiff, List.replicate_succ, List.replicate_zero, List.append_eq, List.cons_append, List.nil_append, List.append_nil, if_true, if_false, ite_true, ite_false, eq_self, Option.map_some, ← List.map_drop, ← List.map_take, ← List.map_dropLast, List.length_drop, List.length_take, List.length_set, Int.reduceNeg, if_le, if_lt, Is, ite_t, ite_f])
end PG
end
section
namespace N1
open PySem
local macro_rules | `(tactic| walk_at "m") => `(tactic| try simp (disch := first | assumption | omega | (simp only [rgI_len, List.length_map, List.length_zipIdx, List.length_zip, List.length_range, List.length_append, List.length_cons, List.length_nil]; omega)) only [↓mPre, mPost, ← List.map_reverse, List.length_reverse, List.set_cons_zero, List.set_cons_succ, List.map_nil, map_cons', List.length_cons, List.length_nil, List.length_map, List.length_zipIdx, List.length_range, List.length_replicate, Nat.reduceAdd, Nat.reduceSub, Nat.reduceLeDiff, Nat.reduceLT, Nat.reduceEqDiff, List.replicate_succ, List.replicate_zero, List.append_eq, List.cons_append, List.nil_append, List.append_nil, if_true, if_false, ite_true, ite_false, eq_self, Option.map_some, ← List.map_drop, ← List.map_take, ← List.map_dropLast, List.length_drop, List.length_take, List.length_set, Int.reduceNeg, if_le, if_lt, Is])
local macro_rules | `(tactic| walk_at "n") => `(tactic| try simp (disch := first | assumption | omega | (simp only [rgI_len, List.length_map, List.length_zipIdx, List.length_zip, List.length_range, List.length_append, List.length_cons, List.length_nil]; omega)) only [↓mPre, mPost, ← List.map_reverse, List.length_reverse, List.set_cons_zero, List.set_cons_succ, List.map_nil, map_cons', List.length_cons, List.length_nil, List.length_map, List.length_zipIdx, List.length_range, List.length_replicate, Nat.reduceAdd, Nat.reduceSub, Nat.reduceLeDiff, Nat.reduceLT, Nat.reduceEqDiff, List.replicate_succ, List.replicate_zero, List.append_eq, List.cons_append, List.nil_append, List.append_nil, if_true, if_false, ite_true, ite_false, eq_self, Option.map_some, ← List.map_drop, ← List.map_take, ← List.map_dropLast, List.length_drop, List.length_take, List.length_set, Int.reduceNeg, if_le, if_lt, Is, ite_t, ite_f])
/-- return all([right(pot(script, k)) for k in range(max(1, min(.., len(script))))]) -/
theorem law_all {fr fp : Fn} {b : MS} {k : Int} (hk : 1 ≤ k) (hk2 : k ≤ 63)
    (hp : ∀ (ns : List Int) (j : Int) (S : Sto), 0 ≤ j → j ≤ 100 → ns.length ≤ 63 → ∃ S', fp [.lst false (ns.map D.int), .int j] S = .ok (.ref S.length) S' ∧ PotAt S' S.length 0)
    (hr : ∀ (S : Sto) (n : Nat), PotAt S n 0 → RW (fr [.ref n] S) fun d _ => d = .bl true)
    (hb : b = (sRet (eFn (frzd fAll) (aCons (eFrz (eLc [1] (iArgs rngOf1 (aCons (eB (bFn fMax2 (abCons (bC (.int 1)) (abCons (bFn fMin2 (abCons (bC (.int k)) (abCons (bFn fLen (abCons (bVar 0) abNil)) abNil))) abNil)))) aNil)) (gVar 1) tYesM (eCall 1 fr (aCons (eCall 2 fp (aCons (eB (bVar 0)) (aCons (eB (bVar 1)) aNil))) aNil)))) aNil))))
    (ns : List Int) (hl : ns.length ≤ 63) : ∃ S, fnOf 2 b [.lst false (ns.map D.int)] [] = .ok (.bl true) S := by
  suffices h : RW (fnOf 2 b [.lst false (ns.map D.int)] []) fun d _ => d = .bl true by
    obtain ⟨d, S, e, rfl⟩ := h.ex
    exact ⟨S, e⟩
  subst hb
  walk_at "m"
  generalize hm : (if (if (ns.length : Int) < k then (ns.length : Int) else k) > 1 then (if (ns.length : Int) < k then (ns.length : Int) else k) else 1) = m
  have h : 0 ≤ m ∧ m ≤ 63 := by
    rw [← hm]
    split <;> split <;> omega
  obtain ⟨m, rfl⟩ := Int.eq_ofNat_of_zero_le h.1
  replace hm : m ≤ 63 := by omega
  walk_at "m"
  refine RW.lcD (fun dn zs T => ∃ bs : List Bool, zs = bs.map D.bl ∧ bs.all id = true) ⟨[], rfl, rfl⟩ ?_ ?_
  · rintro dn j r zs T hx ⟨bs, rfl, hb⟩
    have hj : j < m := by
      have : j ∈ List.range m := by rw [hx]; simp
      exact List.mem_range.mp this
    refine ⟨_, rfl, ?_⟩
    walk_at "m"
    obtain ⟨S', e, P⟩ := hp ns (j : Int) T (by omega) (by omega) hl
    rw [e]
    walk_at "m"
    refine (hr _ _ P).mono fun d S2 e => ?_
    subst e
    exact ⟨bs ++ [true], by simp, by simp [hb]⟩
  · rintro zs T ⟨bs, rfl, hb⟩
    walk_at "m"
    simp only [hb]
end N1
end
section
namespace N1
open PySem
end N1
end
section
namespace N1
open PySem
end N1
end
section
namespace N1
open PySem
end N1
end
section
namespace N1
open PySem
end N1
end
section
namespace N1
open PySem
end N1
end
section
namespace N1
open PySem
theorem w_lstEn {ma : MA} {env : Env} {S : Sto} {Q : D → Sto → Prop} : RW (eLstEn ma env S) Q = RW (ma env S) fun ds S1 => match ds with
  | [.tup es] => if isFs es = true then Q (.lst true (enumD es)) S1 else False
  | _ => False := by
  unfold eLstEn
  (first | rw [RW_bind] | rw [RW_bindN])
  refine RW_ext fun ds S1 => ?_
  rcases ds with _ | ⟨d, _ | ⟨d2, l⟩⟩
  · exact RW_bad
  · cases d with
    | tup es => simp only; rw [RW_ite, RW_ok, RW_bad]
    | _ => exact RW_bad
  · cases d <;> exact RW_bad
theorem w_dgetV {i : Nat} {mk : MB} {mx : ME} {env : Env} {S : Sto} {Q : D → Sto → Prop} : RW (eDGetV i mk mx env S) Q = OW (slot i env) fun d => OW (mk env S) fun kd => match d with
  | .dct _ ks vs => OW (keyD kd) fun k => RW (mx env S) fun x S1 => match valD ks vs k with
    | some v => if v.isF = true then Q v S1 else False
    | none => Q x S1
  | _ => False := by
  unfold eDGetV slot
  cases (env[i]?).join with
  | none => simp only [OW_def]; exact RW_bad
  | some d =>
    rw [OW_some]
    cases mk env S with
    | none => cases d <;> (simp only [OW_def]; exact RW_bad)
    | some kd =>
      rw [OW_some]
      cases d with
      | dct b ks vs =>
        simp only
        cases keyD kd with
        | none => simp only [OW_def]; exact RW_bad
        | some k =>
          rw [OW_some]
          (first | rw [RW_bind] | rw [RW_bindN])
          refine RW_ext fun x S1 => ?_
          cases valD ks vs k with
          | none => exact RW_ok
          | some v => simp only; rw [RW_ite, RW_ok, RW_bad]
      | _ => exact RW_bad
end N1
end
section
namespace L02
open PySem N1
open FA (Ord)
local macro_rules | `(tactic| walk_at "p") => `(tactic| try simp (disch := first | assumption | omega | (simp only [rgI_len, List.length_map, List.length_zipIdx, List.length_zip, List.length_range, List.length_append, List.length_cons, List.length_nil]; omega)) only [↓mPre, mPost, ← List.map_reverse, List.length_reverse, List.set_cons_zero, List.set_cons_succ, List.map_nil, map_cons', List.length_cons, List.length_nil, List.length_map, List.length_zipIdx, List.length_range, List.length_replicate, Nat.reduceAdd, Nat.reduceSub, Nat.reduceLeDiff, Nat.reduceLT, Nat.reduceEqDiff, List.replicate_succ, List.replicate_zero, List.append_eq, List.cons_append, List.nil_append, List.append_nil, if_true, if_false, ite_true, ite_false, eq_self, Option.map_some, ← List.map_drop, ← List.map_take, ← List.map_dropLast, List.length_drop, List.length_take, List.length_set, Int.reduceNeg, if_le, if_lt, Is, w_lstEn, w_dgetV])
local macro_rules | `(tactic| walk_at "m") => `(tactic| try simp (disch := first | assumption | omega | (simp only [rgI_len, List.length_map, List.length_zipIdx, List.length_zip, List.length_range, List.length_append, List.length_cons, List.length_nil]; omega)) only [↓mPre, mPost, ← List.map_reverse, List.length_reverse, List.set_cons_zero, List.set_cons_succ, List.map_nil, map_cons', List.length_cons, List.length_nil, List.length_map, List.length_zipIdx, List.length_range, List.length_replicate, Nat.reduceAdd, Nat.reduceSub, Nat.reduceLeDiff, Nat.reduceLT, Nat.reduceEqDiff, List.replicate_succ, List.replicate_zero, List.append_eq, List.cons_append, List.nil_append, List.append_nil, if_true, if_false, ite_true, ite_false, eq_self, Option.map_some, ← List.map_drop, ← List.map_take, ← List.map_dropLast, List.length_drop, List.length_take, List.length_set, Int.reduceNeg, if_le, if_lt, Is])
local macro_rules | `(tactic| walk_at "n") => `(tactic| try simp (disch := first | assumption | omega | (simp only [rgI_len, List.length_map, List.length_zipIdx, List.length_zip, List.length_range, List.length_append, List.length_cons, List.length_nil]; omega)) only [↓mPre, mPost, ← List.map_reverse, List.length_reverse, List.set_cons_zero, List.set_cons_succ, List.map_nil, map_cons', List.length_cons, List.length_nil, List.length_map, List.length_zipIdx, List.length_range, List.length_replicate, Nat.reduceAdd, Nat.reduceSub, Nat.reduceLeDiff, Nat.reduceLT, Nat.reduceEqDiff, List.replicate_succ, List.replicate_zero, List.append_eq, List.cons_append, List.nil_append, List.append_nil, if_true, if_false, ite_true, ite_false, eq_self, Option.map_some, ← List.map_drop, ← List.map_take, ← List.map_dropLast, List.length_drop, List.length_take, List.length_set, Int.reduceNeg, if_le, if_lt, Is, ite_t, ite_f])
theorem table_e : f_law_table = FA.f_law_table := rfl
theorem may_e : f_may_follow = mayF := rfl
def kyR (k n : Nat) : List L2.Key := (List.range' k n).map fun (i : Nat) => Sum.inl (i : Int)
theorem pairs_rows (f : List Int → D) : ∀ (k : Nat) (t : List (List Int)), pairsD (enumI k (t.map f)) = some (kyR k t.length, t.map f)
  | k, [] => rfl
  | k, r :: t => by
    rw [List.map_cons]
    unfold enumI pairsD
    rw [pairs_rows f (k + 1) t]
    rfl
theorem ky_nodup (k n : Nat) : (kyR k n).Nodup := by
  refine (List.nodup_range' (s := k) (n := n)).map _ fun a b h e => h ?_
  have := Sum.inl.inj e
  omega
theorem val_ky (f : List Int → D) {x : Int} (h0 : 0 ≤ x) : ∀ (k : Nat) (t : List (List Int)), k ≤ x.toNat → valD (kyR k t.length) (t.map f) (.inl x) = (t[x.toNat - k]?).map f
  | k, [], _ => by unfold valD kyR; simp
  | k, r :: t, hk => by
    unfold valD kyR
    rw [List.length_cons, List.range'_succ, List.map_cons, List.map_cons, List.zip_cons_cons, List.find?_cons]
    by_cases e : x.toNat = k
    · have e2 : (Sum.inl ((k : Nat) : Int) : L2.Key) = .inl x := by rw [← e]; congr 1; omega
      rw [show (decide ((Sum.inl ((k : Nat) : Int) : L2.Key) = .inl x)) = true from decide_eq_true e2, e, Nat.sub_self]
      rfl
    · have e2 : ¬ (Sum.inl ((k : Nat) : Int) : L2.Key) = .inl x := fun h => e (by have := Sum.inl.inj h; omega)
      rw [show (decide ((Sum.inl ((k : Nat) : Int) : L2.Key) = .inl x)) = false from decide_eq_false e2]
      have ih := val_ky f h0 (k + 1) t (by omega)
      unfold valD kyR at ih
      rw [ih, show x.toNat - k = (x.toNat - (k + 1)) + 1 from by omega, List.getElem?_cons_succ]
theorem dict_rows {S : Sto} {t : List (List Int)} : fDictP S [.lst false (enumD (t.map rowD))] = some (.dct true (kyR 0 t.length) (t.map rowD)) := by
  have hF : isFs (enumD (t.map rowD)) = true := by
    rw [isFs_all, List.all_eq_true]
    intro d hd
    unfold enumD at hd
    obtain ⟨p, hp, rfl⟩ := List.mem_map.mp hd
    obtain ⟨r, hr, e⟩ : ∃ r, r ∈ t ∧ rowD r = p.1 := by
      have := (List.mem_zipIdx_iff_getElem?.mp (show (p.1, p.2) ∈ (t.map rowD).zipIdx from hp))
      rw [List.getElem?_map] at this
      obtain ⟨r, h1, h2⟩ := Option.map_eq_some_iff.mp this
      exact ⟨r, List.mem_of_getElem? h1, h2⟩
    show isFs [.int _, p.1] = true
    rw [← e]
    simp [isFs, D.isF, isFs_ints]
  have hp : pairsD (enumD (t.map rowD)) = some (kyR 0 t.length, t.map rowD) := by
    have := pairs_rows rowD 0 t
    rw [enumI_eq] at this
    exact this
  unfold fDictP
  simp only [hp]
  rw [if_pos ⟨hF, ky_nodup _ _⟩]
theorem dict_rows2 {S : Sto} {t : List (List Int)} : fDictP S [.lst false (frzs (t.zipIdx.map fun p => D.tup [.int (p.2 : Nat), rowD p.1]))] = some (.dct true (kyR 0 t.length) (t.map rowD)) := by
  rw [zs_map (f := fun p : List Int × Nat => D.tup [.int (p.2 : Nat), rowD p.1]) (fun p => by show D.tup (frzs [.int _, rowD p.1]) = _; simp [frzs, D.frz, zs_ints]), ← enum_map]
  exact dict_rows
theorem right_ok (S : Sto) (n : Nat) (P : PotAt S n 0) : RW (f_law_right [.ref n] S) fun d _ => d = .bl true := by
  unfold f_law_right b_law_right
  simp only [table_e, may_e]
  walk_at "p"
  refine RW.forI (fun d e T => ∃ a b c x y z, e = [some (.ref n), a, b, c, x, y, z, none] ∧ PotAt T n (1000 * d.length)) ⟨none, none, none, none, none, none, rfl, by simpa using P⟩ ?_ ?_
  · rintro dn j r e T hx ⟨a, b, c, x, y, z, rfl, W⟩
    have hd : dn.length < 4 := by
      have := congrArg List.length hx
      simp at this
      omega
    refine ⟨_, rfl, ?_⟩
    rw [x_seq]; generalize hK : seqQ _ _ = K; walk_at "p"
    refine FA.table_rw W (by omega) (by omega) (by omega) fun t S1 ht hl W1 => ?_
    have hle := ht.le
    have sh := Shw.tab ht
    walk_at "p"
    rw [← hK, q_nx, x_seq]; clear hK K
    generalize hK : seqQ _ _ = K; walk_at "p"
    rw [dict_rows2]
    walk_at "p"
    rw [repr_ok sh (by omega) (by omega)]
    walk_at "p"
    rw [← hK, q_nx, x_seq]; clear hK K
    generalize hK : seqQ _ _ = K; walk_at "p"
    refine RW.forI (fun d2 e T => ∃ y z, e = [some (.ref n), some (.int (j : Nat)), some (tabD t), some (.dct false (kyR 0 t.length) (t.map rowD)), some (.str (pyTxt (tabD t))), y, z, none] ∧ T = S1) ⟨_, _, rfl, rfl⟩ ?_ ?_
    · rintro d2 i r2 e T hx2 ⟨y, z, rfl, rfl⟩
      have hv := val_ky rowD (x := (i : Int)) (by omega) 0 t (by omega)
      rw [Nat.sub_zero, Int.toNat_natCast] at hv
      have hi : i < 16 := by
        have : i ∈ List.range (Int.toNat 16) := by rw [hx2]; simp
        simpa using List.mem_range.mp this
      refine ⟨_, rfl, ?_⟩
      rw [x_seq]; generalize hK2 : seqQ _ _ = K2; walk_at "p"
      refine RW.lcm (fun x : Nat => mayI t (i : Int) (x : Int)) D.bl (fun _ => rfl) (fun x hx => ?_) ?_
      · walk_at "p"
        rw [show keyD (D.int (i : Nat)) = some (.inl (i : Int)) from rfl]
        walk_at "p"
        rw [hv]
        cases ht2 : t[i]? with
        | none =>
          simp only [Option.map_none]
          walk_at "p"
          rw [show fIn T (.int (x : Nat)) (.tup []) = some (.bl false) from rfl]
          walk_at "p"
          simp [mayI, ht2]
        | some rr =>
          simp only [Option.map_some]
          walk_at "p"
          simp [mayI, ht2]
      walk_at "p"
      have sb : Shw (.lst false (((List.range (Int.toNat 16)).map fun x : Nat => mayI t (i : Int) (x : Int)).map D.bl)) 1 200 := (Shw.lst (dep := 0) (len := 5) fun d hd => by
        obtain ⟨b, _, rfl⟩ := List.mem_map.mp hd
        exact (Shw.bl b).more (by omega) (by omega)).more (by omega) (by simp)
      rw [← hK2, q_nx]; clear hK2 K2
      walk_at "p"
      refine RW.lcm (fun x : Nat => mayI t (i : Int) (x : Int)) D.bl (fun _ => rfl) (fun x hx => ?_) ?_
      · walk_at "p"
        rw [show D.tup (t.map rowD) = tabD t from rfl, may_ok t (x : Int) T (by omega)]
        walk_at "p"
      walk_at "p"
      rw [repr_ok sb (by omega) (by omega)]
      walk_at "p"
      try rw [repr_ok sb (by omega) (by omega)]
      walk_at "p"
      rw [ne_txt sb]
      walk_at "p"
      exact ⟨_, _, rfl⟩
    · rintro e T ⟨y, z, rfl, rfl⟩
      rw [← hK, q_nx]; clear hK K
      walk_at "p"
      rw [repr_ok sh (by omega) (by omega)]
      walk_at "p"
      rw [ne_txt sh]
      walk_at "p"
      exact ⟨_, _, _, _, _, _, rfl, W1.pot.more (by simp; omega)⟩
  · rintro e T ⟨a, b, c, x, y, z, rfl, W⟩
    walk_at "p"
theorem law_true (ns : List Int) (hl : ns.length ≤ 63) : ∃ S, f_law [.lst false (ns.map D.int)] [] = .ok (.bl true) S := by
  refine law_all (k := 3) (by omega) (by omega) (fun ns j S h0 h1 hl => ?_) right_ok rfl ns hl
  obtain ⟨S', e, P, _⟩ := pot_ok (S := S) h0 h1 hl
  exact ⟨S', e, P⟩
end L02
end
section
namespace N1
open PySem PySem.Spec PyProof.Rows L2
theorem hd_def {fa : List He.Fa} {fn : List He.DefD} {K : PySem.W.Frag} (c : He.SaysD fa fn K) (i : Nat) {d : He.DefD} (h : fn[i]? = some d) (hd : d.dfl = []) :
    ∃ (oc : Value) (od : Option Addr) (osl : Array (Option Value)) (kV doc pm : Value) (an : Option Addr) (cdv ct : Value), K.lookup (He.fAd K d.at_) = some ⟨oc, od, .func (PySem.W.fnOf d.name d.qual d.params d.body d.scope .none kV doc pm an cdv ct), osl⟩ ∧
      PySem.W.codeIn K cdv d.qual = true ∧ PySem.W.keepIn K (.ref (He.fAd K d.at_)) = true ∧ KwdV K kV (d.kws K) := by
  obtain ⟨fd, ⟨oc, od, dV, kV, doc, pm, an, cdv, ct, osl, rfl, lk, hc, hD, hK⟩, kp⟩ := c.def_ i h
  have e0 : d.dvs K = [] := by unfold He.DefD.dvs; rw [hd]; rfl
  rcases hD with ⟨_, rfl⟩ | ⟨q, _⟩
  · exact ⟨oc, od, osl, kV, doc, pm, an, cdv, ct, lk, hc, kp, hK⟩
  · exact absurd e0 q
theorem hd_glo {K : PySem.W.Frag} {x : Str} (c : (He.Fa.glo x).ok K = true) : PySem.W.nsIn K mainGlobals x = some (some (.ref (He.ga K x))) := He.eqO_ok c
theorem hd_free {K : PySem.W.Frag} {x : Str} (c : (He.Fa.free x).ok K = true) : PySem.W.nsIn K mainGlobals x = some none := He.eqO_ok c
/-- the goal that the head leaves, from the law's promise; what is written stands in K -/
theorem walk_ofG2 {l : PySem.W.OpenLaw} {n k : Nat} {q : Program} {loose : List Str} {XP : (Str → Option Value) → Heap → Prop} {YP : World → Heap → Prop} {d : DefRec} {m : Fn} {x : Str}
    (hn : l.most = some n) (hn2 : n ≤ sizeLine) (hdf : d.params.defaults = []) (hr : Room k callerA)
    (F : ∀ (w : World) (mg : Str → Option Value) (fa : Addr) (h : Heap), YP w h → h.Ns mainGlobals mg → mg d.name = some (.ref fa) →
      ∃ (K : PySem.W.Frag) (fd : FuncData), K.In h ∧ (∀ (s : Shared) (u : Value), BindsTo s fd ⟨[u], []⟩ [(x, u)]) ∧
        ∀ base : Heap, K.In base → base.Ns mainGlobals mg → FnG l.prog w K mg base (L2.CX l.prog w) k fa fd [x] (spM K 1 m))
    (hsp : ∀ ns : List Int, ns.length ≤ n → ∃ S, m [.lst false (ns.map D.int)] [] = .ok (.bl true) S) :
    PySem.W.WalkO q loose XP YP l.row.toRowW d [] (fun f vs => PySem.call f vs) := by
  refine Att.attach_call hn hdf fun w s0 s1 mg mb fa o pm cd doc a vs ns G Y ho hd hcd hmg hobj hints hlen hg => ?_
  obtain ⟨K, fd, KX, hb, hF⟩ := F w mg fa _ Y G.T.g hmg
  exact law_callG KX G.T.g G.T.b G.T.builtins G.T.nolimit hg hobj hints (Nat.le_trans hlen hn2) hr hF hb (fun H hO hS => law_end (hsp ns hlen) hS)
end N1
end
section
namespace N1
open PySem PySem.Spec PyProof.Rows L2
/-- what is wanted: classes, module's defs, methods -/
def nsOf (g : Addr → Option Obj) (a : Addr) : List Addr := match g a with
  | some ⟨_, _, .cls cd, _⟩ => [cd.ns]
  | _ => []
def codeOf (g : Addr → Option Obj) (a : Addr) : List Addr := match g a with
  | some ⟨_, _, .func fd, _⟩ => He.refV fd.code ++ He.refV fd.kwdefaults
  | _ => []
def wantG (g : Addr → Option Obj) (cs fs : List Str) (ms : List (Str × Str)) : List Addr :=
  let K0 := He.frG g [mainGlobals]
  let ca := cs.map (He.ga K0)
  let cn := ca.flatMap (nsOf g)
  let K1 := He.frG g (mainGlobals :: (ca ++ cn))
  let fa := fs.map (He.ga K0) ++ ms.map fun p => He.ma K1 (He.ga K0 p.1) p.2
  mainGlobals :: (ca ++ (cn ++ (fa ++ fa.flatMap (codeOf g))))
def obsW (cs fs : List Str) (ms : List (Str × Str)) (fa : List He.Fa) (fn : List He.DefD) (g : Addr → Option Obj) : He.AlD := He.obsD fa fn (He.frG g (wantG g cs fs ms))
def hookW (cs fs : List Str) (ms : List (Str × Str)) (fa : List He.Fa) (fn : List He.DefD) : PySem.W.Hook where
  α := He.AlD
  obs := fun s => obsW cs fs ms fa fn s.heap.get?
  val := fun _ => He.valD fn
  says := fun _ h => ∃ K : PySem.W.Frag, K.In h ∧ He.SaysD fa fn K
  of := fun _ _ e => ⟨_, He.frG_in, e⟩
  keeps := fun _ _ _ ⟨K, hK, c⟩ k => ⟨K, PySem.W.Frag.In.keeps hK k, c⟩
theorem obsW_eq {cs fs : List Str} {ms : List (Str × Str)} {fa : List He.Fa} {fn : List He.DefD} {g : Addr → Option Obj} {s : Shared} (h : ∀ a, g a = s.heap.get? a) : obsW cs fs ms fa fn g = (hookW cs fs ms fa fn).obs s := by
  have e : g = s.heap.get? := funext h
  rw [e] <;> rfl
end N1
end
section
set_option maxHeartbeats 0
namespace L02
open PySem PySem.Spec PyProof.Rows L2 N1
abbrev hd0 : He.DefD := ⟨("may_follow", none), "may_follow", "may_follow", defArgs s_may_follow, defBody s_may_follow, defScope s_may_follow, [], []⟩
abbrev hd1 : He.DefD := ⟨("_law_pot", none), "_law_pot", "_law_pot", defArgs s_law_pot, defBody s_law_pot, defScope s_law_pot, [], []⟩
abbrev hd2 : He.DefD := ⟨("_law_take", none), "_law_take", "_law_take", defArgs s_law_take, defBody s_law_take, defScope s_law_take, [], []⟩
abbrev hd3 : He.DefD := ⟨("_law_pick", none), "_law_pick", "_law_pick", defArgs s_law_pick, defBody s_law_pick, defScope s_law_pick, [], []⟩
abbrev hd4 : He.DefD := ⟨("_law_mixed", none), "_law_mixed", "_law_mixed", defArgs s_law_mixed, defBody s_law_mixed, defScope s_law_mixed, [], []⟩
abbrev hd5 : He.DefD := ⟨("_law_some", none), "_law_some", "_law_some", defArgs s_law_some, defBody s_law_some, defScope s_law_some, [], []⟩
abbrev hd6 : He.DefD := ⟨("_law_named", none), "_law_named", "_law_named", defArgs s_law_named, defBody s_law_named, defScope s_law_named, [], []⟩
abbrev hd7 : He.DefD := ⟨("_law_called_so", none), "_law_called_so", "_law_called_so", defArgs s_law_called_so, defBody s_law_called_so, defScope s_law_called_so, [], []⟩
abbrev hd8 : He.DefD := ⟨("_law_changed", none), "_law_changed", "_law_changed", defArgs s_law_changed, defBody s_law_changed, defScope s_law_changed, [], []⟩
abbrev hd9 : He.DefD := ⟨("_law_table", none), "_law_table", "_law_table", defArgs s_law_table, defBody s_law_table, defScope s_law_table, [], []⟩
abbrev hd10 : He.DefD := ⟨("_law_right", none), "_law_right", "_law_right", defArgs s_law_right, defBody s_law_right, defScope s_law_right, [], []⟩
abbrev hd11 : He.DefD := ⟨("law", none), "law", "law", defArgs s_law, defBody s_law, defScope s_law, [], []⟩
def hfn : List He.DefD := ([hd0, hd1, hd2, hd3, hd4, hd5, hd6, hd7, hd8, hd9, hd10, hd11] : List He.DefD)
def hfa : List He.Fa := ([.glo "may_follow", .glo "_law_pot", .glo "_law_take", .glo "_law_pick", .glo "_law_mixed", .glo "_law_some", .glo "_law_named", .glo "_law_called_so", .glo "_law_changed", .glo "_law_table", .glo "_law_right", .glo "law", .free "abs", .free "all", .free "dict", .free "enumerate", .free "len", .free "list", .free "max", .free "min", .free "range", .free "repr", .free "sorted", .free "tuple"] : List He.Fa)
abbrev HR : PySem.W.OpenRow := PySem.W.OpenLaw.row PySem.Challenge.rw_nextmarks_k02_which_mark_may_follow
def hcs : List Str := []
def hfs : List Str := (["may_follow", "_law_pot", "_law_take", "_law_pick", "_law_mixed", "_law_some", "_law_named", "_law_called_so", "_law_changed", "_law_table", "_law_right", "law"] : List Str)
def hms : List (Str × Str) := ([] : List (Str × Str))
abbrev hhk : PySem.W.Hook := hookW hcs hfs hms hfa hfn
def hob (s : PySem.W.SharedT) : He.AlD := obsW hcs hfs hms hfa hfn (HandSHeadRun.getT s)
theorem hob_eq (s : PySem.W.SharedT) : hob s = hhk.obs s.abs := obsW_eq (HandSHeadRun.getT_eq s)
def hloose : List Str := (["may_follow", "_law_pot", "_law_take", "_law_pick", "_law_mixed", "_law_some", "_law_named", "_law_called_so", "_law_changed", "_law_table", "_law_right"] : List Str)
theorem hrun (w : World) : HandSHeadRun.RunEq HR (PySem.W.view HR.prog [13]) hhk hob 20000 hloose w := by
  intro os
  kernel_rfl
theorem says_mk {l : PySem.W.OpenLaw} {w : World} {K : PySem.W.Frag} {h : Heap} {mg : Str → Option Value} {fa : Addr} (X : K.In h) (G : h.Ns mainGlobals mg) (hlaw : mg "law" = some (.ref fa)) (c : He.SaysD hfa hfn K) :
    ∃ fd : FuncData, (∀ (s : Shared) (v : Value), BindsTo s fd ⟨[v], []⟩ [("_law_script", v)]) ∧ ∀ base : Heap, K.In base → base.Ns mainGlobals mg → FnG l.prog w K mg base (L2.CX l.prog w) 5 fa fd ["_law_script"] (spM K 1 f_law) := by
  obtain ⟨_, _, _, kV0, _, _, _, _, _, l0, c0, k0, q0⟩ := hd_def c 0 (d := hd0) rfl rfl
  obtain ⟨_, _, _, kV1, _, _, _, _, _, l1, c1, k1, q1⟩ := hd_def c 1 (d := hd1) rfl rfl
  obtain ⟨_, _, _, kV2, _, _, _, _, _, l2, c2, k2, q2⟩ := hd_def c 2 (d := hd2) rfl rfl
  obtain ⟨_, _, _, kV3, _, _, _, _, _, l3, c3, k3, q3⟩ := hd_def c 3 (d := hd3) rfl rfl
  obtain ⟨_, _, _, kV4, _, _, _, _, _, l4, c4, k4, q4⟩ := hd_def c 4 (d := hd4) rfl rfl
  obtain ⟨_, _, _, kV5, _, _, _, _, _, l5, c5, k5, q5⟩ := hd_def c 5 (d := hd5) rfl rfl
  obtain ⟨_, _, _, kV6, _, _, _, _, _, l6, c6, k6, q6⟩ := hd_def c 6 (d := hd6) rfl rfl
  obtain ⟨_, _, _, kV7, _, _, _, _, _, l7, c7, k7, q7⟩ := hd_def c 7 (d := hd7) rfl rfl
  obtain ⟨_, _, _, kV8, _, _, _, _, _, l8, c8, k8, q8⟩ := hd_def c 8 (d := hd8) rfl rfl
  obtain ⟨_, _, _, kV9, _, _, _, _, _, l9, c9, k9, q9⟩ := hd_def c 9 (d := hd9) rfl rfl
  obtain ⟨_, _, _, kV10, _, _, _, _, _, l10, c10, k10, q10⟩ := hd_def c 10 (d := hd10) rfl rfl
  obtain ⟨_, _, _, kV11, _, _, _, _, _, l11, c11, k11, q11⟩ := hd_def c 11 (d := hd11) rfl rfl
  exact all_mk X G hlaw (hd_glo (c.fact 0 (f := .glo "may_follow") rfl)) l0 c0 k0 (hd_glo (c.fact 1 (f := .glo "_law_pot") rfl)) l1 c1 k1 (hd_glo (c.fact 2 (f := .glo "_law_take") rfl)) l2 c2 k2 (hd_glo (c.fact 3 (f := .glo "_law_pick") rfl)) l3 c3 k3 (hd_glo (c.fact 4 (f := .glo "_law_mixed") rfl)) l4 c4 k4 (hd_glo (c.fact 5 (f := .glo "_law_some") rfl)) l5 c5 k5 (hd_glo (c.fact 6 (f := .glo "_law_named") rfl)) l6 c6 k6 (hd_glo (c.fact 7 (f := .glo "_law_called_so") rfl)) l7 c7 k7 (hd_glo (c.fact 8 (f := .glo "_law_changed") rfl)) l8 c8 k8 (hd_glo (c.fact 9 (f := .glo "_law_table") rfl)) l9 c9 k9 (hd_glo (c.fact 10 (f := .glo "_law_right") rfl)) l10 c10 k10 (hd_glo (c.fact 11 (f := .glo "law") rfl)) l11 c11 k11 (hd_free (c.fact 12 (f := .free "abs") rfl)) (hd_free (c.fact 13 (f := .free "all") rfl)) (hd_free (c.fact 14 (f := .free "dict") rfl)) (hd_free (c.fact 15 (f := .free "enumerate") rfl)) (hd_free (c.fact 16 (f := .free "len") rfl)) (hd_free (c.fact 17 (f := .free "list") rfl)) (hd_free (c.fact 18 (f := .free "max") rfl)) (hd_free (c.fact 19 (f := .free "min") rfl)) (hd_free (c.fact 20 (f := .free "range") rfl)) (hd_free (c.fact 21 (f := .free "repr") rfl)) (hd_free (c.fact 22 (f := .free "sorted") rfl)) (hd_free (c.fact 23 (f := .free "tuple") rfl))
end L02
open PySem PySem.W PySem.Calls PyProof.Rows
theorem PySem.Challenge.cw_nextmarks_k02_which_mark_may_follow_holds : PySem.Challenge.rw_nextmarks_k02_which_mark_may_follow.Holds := by
  w_on; o_law
  refine HandSHeadRun.head_any (r := OpenLaw.row PySem.Challenge.rw_nextmarks_k02_which_mark_may_follow) (q := view (OpenLaw.row PySem.Challenge.rw_nextmarks_k02_which_mark_may_follow).prog [13]) (H := L02.hhk) (ob := L02.hob) (M := 20000) (loose := L02.hloose) (d := HandSHeadRun.topDef (OpenLaw.row PySem.Challenge.rw_nextmarks_k02_which_mark_may_follow).prog 13) (kwd := []) L02.hob_eq
    (by kernel_rfl) (fun s => by kernel_rfl) L02.hrun (by kernel_rfl) (by kernel_rfl) (by kernel_rfl) (by rfl) (by first | assumption | decide +kernel) (by decide +kernel) ⟨rfl, rfl, rfl, rfl, rfl, by decide +kernel⟩ ?hw ?hc
  case hw => w_witness2
  case hc =>
    refine N1.walk_ofG2 (l := PySem.Challenge.rw_nextmarks_k02_which_mark_may_follow) (n := 63) (k := 5) (x := "_law_script") (m := L02.f_law) rfl (by decide) (by kernel_rfl) ⟨rfl, by decide, by decide⟩ ?F L02.law_true
    intro w mg fa h Y G hmg0
    obtain ⟨K, KX, c⟩ := Y
    have hmg : mg ("law" : PySem.Str) = some (.ref fa) := by
      have e : (HandSHeadRun.topDef (OpenLaw.row PySem.Challenge.rw_nextmarks_k02_which_mark_may_follow).prog 13).name = ("law" : PySem.Str) := by kernel_rfl
      rw [← e]
      exact hmg0
    obtain ⟨fd, hb, hF⟩ := L02.says_mk (l := PySem.Challenge.rw_nextmarks_k02_which_mark_may_follow) (w := w) KX G hmg c
    exact ⟨K, fd, KX, hb, hF⟩
end
