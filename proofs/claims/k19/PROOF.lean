import PyProof.Rows.All
import Wide.All
import OpenK.AllK
import Wide.FinOn
import HandS.ForMost
import HandS.ForExc
import HandS.Zip
import HandS.TupAny
import HandS.TupLe
import HandS.TupSets
import HandS.Wide
import HandS.Style
import HandS.Conv
import HandS.IsInst
import HandS.Deep
import HandS.More
import HandS.EndBits
import HandS.SortInts
import HandS.TupLen
import KE.KSortTupG
import HandS.WordsExc
import PySem.Challenge.RW_whenmeet_k19_latest_leavings_told
set_option Elab.async false
set_option linter.all false
set_option maxRecDepth 100000
set_option autoImplicit false
namespace Wm
open PySem PySem.Spec PyProof.Rows L2

abbrev St := L2.St
inductive W where
  | non | bl (b : Bool) | int (i : Int) | str (s : Str) | tup (xs : List W)
inductive D where
  | w (x : W) | tup (xs : List D) | lst (xs : List D) | fz (xs : List W)
  | dK (kvs : List (L2.Key × D)) | dT (kvs : List (List L2.Key × D))
inductive Mode where
  | own | par | brw
deriving DecidableEq
structure SV where
  m : Mode
  d : D
abbrev REnv := List (Option SV)

/-- a list that nobody writes -/
def FzL (K : PySem.W.Frag) (H : Hp) (a : Addr) (xs : List V) : Prop :=
  (∃ o, H a = some (.frz o (.lst xs))) ∨
    ∃ (o : Obj) (its : Array Value) (n : Nat), K.lookup a = some o ∧ o.cls = .type "list" ∧ o.dict = none ∧ o.data = .seq its n ∧ its.size ≤ sizeLine ∧ Vals xs its.toList
theorem FzL.sq {K : PySem.W.Frag} {H : Hp} {a : Addr} {xs : List V} (h : FzL K H a xs) : SqL K H a xs := by
  rcases h with ⟨o, h⟩ | h
  · exact .inl (.inr ⟨o, h⟩)
  · exact .inr h
mutual
def RW (K : PySem.W.Frag) (H : Hp) : W → V → Prop
  | .non, v => v = .non
  | .bl b, v => v = .bl b
  | .int i, v => v = .int i
  | .str s, v => v = .str s
  | .tup ws, v => ∃ a vs, v = .ref a ∧ H a = some (.tup vs) ∧ RWs K H ws vs
def RWs (K : PySem.W.Frag) (H : Hp) : List W → List V → Prop
  | [], vs => vs = []
  | w :: ws, vs => ∃ v r, vs = v :: r ∧ RW K H w v ∧ RWs K H ws r
end
mutual
def RD (K : PySem.W.Frag) (H : Hp) : D → V → List Addr → Prop
  | .w x, v, F => RW K H x v ∧ F = []
  | .tup ds, v, F => ∃ a vs, v = .ref a ∧ H a = some (.tup vs) ∧ RDs K H ds vs F
  | .lst ds, v, F => ∃ a vs G, v = .ref a ∧ H a = some (.lst vs) ∧ RDs K H ds vs G ∧ F = a :: G
  | .fz ws, v, F => ∃ a vs, v = .ref a ∧ FzL K H a vs ∧ RWs K H ws vs ∧ F = []
  | .dK kvs, v, F => ∃ a us G, v = .ref a ∧ H a = some (.dK us) ∧ RDk K H kvs us G ∧ F = a :: G
  | .dT kvs, v, F => ∃ a us G, v = .ref a ∧ H a = some (.dT us) ∧ RDt K H kvs us G ∧ F = a :: G
def RDs (K : PySem.W.Frag) (H : Hp) : List D → List V → List Addr → Prop
  | [], vs, F => vs = [] ∧ F = []
  | d :: ds, vs, F => ∃ v r F1 F2, vs = v :: r ∧ RD K H d v F1 ∧ RDs K H ds r F2 ∧ F = F1 ++ F2
def RDk (K : PySem.W.Frag) (H : Hp) : List (L2.Key × D) → List (L2.Key × V) → List Addr → Prop
  | [], us, F => us = [] ∧ F = []
  | (k, d) :: ds, us, F => ∃ v r F1 F2, us = (k, v) :: r ∧ RD K H d v F1 ∧ RDk K H ds r F2 ∧ F = F1 ++ F2
def RDt (K : PySem.W.Frag) (H : Hp) : List (List L2.Key × D) → List (List L2.Key × V) → List Addr → Prop
  | [], us, F => us = [] ∧ F = []
  | (k, d) :: ds, us, F => ∃ v r F1 F2, us = (k, v) :: r ∧ RD K H d v F1 ∧ RDt K H ds r F2 ∧ F = F1 ++ F2
end

/-- tuples and frozen things stay -/
def Stab (H H' : Hp) : Prop := ∀ b, ((∃ xs, H b = some (.tup xs)) ∨ ∃ o u, H b = some (.frz o u)) → H' b = H b
theorem Stab.refl (H : Hp) : Stab H H := fun _ _ => rfl
theorem Stab.trans {H H1 H2 : Hp} (a : Stab H H1) (b : Stab H1 H2) : Stab H H2 := fun c h => by
  have e := a c h
  rw [← e]
  exact b c (by rw [e]; exact h)
theorem Stab.new {H : Hp} {p : Addr} {o : HO} (h : H p = none) : Stab H (upd H p o) := fun b hb => by
  refine upd_ne fun e => ?_
  subst e
  rcases hb with ⟨_, e⟩ | ⟨_, _, e⟩ <;> (rw [h] at e; cases e)
theorem Stab.mut {H : Hp} {p : Addr} {o : HO} (h : Mut (H p)) : Stab H (upd H p o) := fun b hb => by
  refine upd_ne fun e => ?_
  subst e
  rcases hb with ⟨_, e⟩ | ⟨_, _, e⟩ <;> (rw [e] at h; exact h)
theorem Stab.sqT {K : PySem.W.Frag} {H H' : Hp} {a : Addr} {xs : List V} (s : Stab H H') (h : SqT K H a xs) : SqT K H' a xs := by
  rcases h with (h | ⟨o, h⟩) | h
  · exact .inl (.inl (by rw [s a (.inl ⟨_, h⟩)]; exact h))
  · exact .inl (.inr ⟨o, by rw [s a (.inr ⟨_, _, h⟩)]; exact h⟩)
  · exact .inr h
theorem Stab.fzL {K : PySem.W.Frag} {H H' : Hp} {a : Addr} {xs : List V} (s : Stab H H') (h : FzL K H a xs) : FzL K H' a xs := by
  rcases h with ⟨o, h⟩ | h
  · exact .inl ⟨o, by rw [s a (.inr ⟨_, _, h⟩)]; exact h⟩
  · exact .inr h

section
variable {K : PySem.W.Frag} {H H' : Hp}
mutual
theorem RW.stab (s : Stab H H') : ∀ {x : W} {v : V}, RW K H x v → RW K H' x v
  | .non, _, h => h
  | .bl _, _, h => h
  | .int _, _, h => h
  | .str _, _, h => h
  | .tup _, _, h => by
    obtain ⟨a, vs, e, q, r⟩ := h
    exact ⟨a, vs, e, (s a (.inl ⟨_, q⟩)).trans q, RWs.stab s r⟩
theorem RWs.stab (s : Stab H H') : ∀ {xs : List W} {vs : List V}, RWs K H xs vs → RWs K H' xs vs
  | [], _, h => h
  | _ :: _, _, h => by
    obtain ⟨v, r, e, q, t⟩ := h
    exact ⟨v, r, e, RW.stab s q, RWs.stab s t⟩
end
mutual
theorem RD.stab (s : Stab H H') : ∀ {d : D} {v : V} {F : List Addr}, RD K H d v F → (∀ a ∈ F, H' a = H a) → RD K H' d v F
  | .w _, _, _, h, _ => ⟨h.1.stab s, h.2⟩
  | .tup _, _, _, h, e => by
    obtain ⟨a, vs, ev, q, r⟩ := h
    exact ⟨a, vs, ev, (s a (.inl ⟨_, q⟩)).trans q, RDs.stab s r e⟩
  | .lst _, _, _, h, e => by
    obtain ⟨a, vs, G, ev, q, r, rfl⟩ := h
    exact ⟨a, vs, G, ev, by rw [e a List.mem_cons_self]; exact q, RDs.stab s r fun b hb => e b (List.mem_cons_of_mem _ hb), rfl⟩
  | .fz _, _, _, h, _ => by
    obtain ⟨a, vs, ev, q, r, rfl⟩ := h
    exact ⟨a, vs, ev, s.fzL q, r.stab s, rfl⟩
  | .dK _, _, _, h, e => by
    obtain ⟨a, vs, G, ev, q, r, rfl⟩ := h
    exact ⟨a, vs, G, ev, by rw [e a List.mem_cons_self]; exact q, RDk.stab s r fun b hb => e b (List.mem_cons_of_mem _ hb), rfl⟩
  | .dT _, _, _, h, e => by
    obtain ⟨a, vs, G, ev, q, r, rfl⟩ := h
    exact ⟨a, vs, G, ev, by rw [e a List.mem_cons_self]; exact q, RDt.stab s r fun b hb => e b (List.mem_cons_of_mem _ hb), rfl⟩
theorem RDs.stab (s : Stab H H') : ∀ {ds : List D} {vs : List V} {F : List Addr}, RDs K H ds vs F → (∀ a ∈ F, H' a = H a) → RDs K H' ds vs F
  | [], _, _, h, _ => h
  | _ :: _, _, _, h, e => by
    obtain ⟨v, r, F1, F2, ev, q, t, rfl⟩ := h
    exact ⟨v, r, F1, F2, ev, RD.stab s q fun b hb => e b (List.mem_append_left _ hb), RDs.stab s t fun b hb => e b (List.mem_append_right _ hb), rfl⟩
theorem RDk.stab (s : Stab H H') : ∀ {ds : List (L2.Key × D)} {vs : List (L2.Key × V)} {F : List Addr}, RDk K H ds vs F → (∀ a ∈ F, H' a = H a) → RDk K H' ds vs F
  | [], _, _, h, _ => h
  | (_, _) :: _, _, _, h, e => by
    obtain ⟨v, r, F1, F2, ev, q, t, rfl⟩ := h
    exact ⟨v, r, F1, F2, ev, RD.stab s q fun b hb => e b (List.mem_append_left _ hb), RDk.stab s t fun b hb => e b (List.mem_append_right _ hb), rfl⟩
theorem RDt.stab (s : Stab H H') : ∀ {ds : List (List L2.Key × D)} {vs : List (List L2.Key × V)} {F : List Addr}, RDt K H ds vs F → (∀ a ∈ F, H' a = H a) → RDt K H' ds vs F
  | [], _, _, h, _ => h
  | (_, _) :: _, _, _, h, e => by
    obtain ⟨v, r, F1, F2, ev, q, t, rfl⟩ := h
    exact ⟨v, r, F1, F2, ev, RD.stab s q fun b hb => e b (List.mem_append_left _ hb), RDt.stab s t fun b hb => e b (List.mem_append_right _ hb), rfl⟩
end
mutual
/-- what a footprint has is a thing that may be written -/
theorem RD.dom : ∀ {d : D} {v : V} {F : List Addr}, RD K H d v F → ∀ a ∈ F, Mut (H a)
  | .w _, _, _, h, a, ha => by rw [h.2] at ha; cases ha
  | .tup _, _, _, h, a, ha => by
    obtain ⟨_, vs, ev, q, r⟩ := h
    exact RDs.dom r a ha
  | .lst _, _, _, h, a, ha => by
    obtain ⟨b, vs, G, ev, q, r, rfl⟩ := h
    rcases List.mem_cons.mp ha with rfl | ha
    · rw [q]; trivial
    · exact RDs.dom r a ha
  | .fz _, _, _, h, a, ha => by
    obtain ⟨_, vs, ev, q, r, rfl⟩ := h
    cases ha
  | .dK _, _, _, h, a, ha => by
    obtain ⟨b, vs, G, ev, q, r, rfl⟩ := h
    rcases List.mem_cons.mp ha with rfl | ha
    · rw [q]; trivial
    · exact RDk.dom r a ha
  | .dT _, _, _, h, a, ha => by
    obtain ⟨b, vs, G, ev, q, r, rfl⟩ := h
    rcases List.mem_cons.mp ha with rfl | ha
    · rw [q]; trivial
    · exact RDt.dom r a ha
theorem RDs.dom : ∀ {ds : List D} {vs : List V} {F : List Addr}, RDs K H ds vs F → ∀ a ∈ F, Mut (H a)
  | [], _, _, h, a, ha => by rw [h.2] at ha; cases ha
  | _ :: _, _, _, h, a, ha => by
    obtain ⟨v, r, F1, F2, ev, q, t, rfl⟩ := h
    rcases List.mem_append.mp ha with ha | ha
    · exact RD.dom q a ha
    · exact RDs.dom t a ha
theorem RDk.dom : ∀ {ds : List (L2.Key × D)} {vs : List (L2.Key × V)} {F : List Addr}, RDk K H ds vs F → ∀ a ∈ F, Mut (H a)
  | [], _, _, h, a, ha => by rw [h.2] at ha; cases ha
  | (_, _) :: _, _, _, h, a, ha => by
    obtain ⟨v, r, F1, F2, ev, q, t, rfl⟩ := h
    rcases List.mem_append.mp ha with ha | ha
    · exact RD.dom q a ha
    · exact RDk.dom t a ha
theorem RDt.dom : ∀ {ds : List (List L2.Key × D)} {vs : List (List L2.Key × V)} {F : List Addr}, RDt K H ds vs F → ∀ a ∈ F, Mut (H a)
  | [], _, _, h, a, ha => by rw [h.2] at ha; cases ha
  | (_, _) :: _, _, _, h, a, ha => by
    obtain ⟨v, r, F1, F2, ev, q, t, rfl⟩ := h
    rcases List.mem_append.mp ha with ha | ha
    · exact RD.dom q a ha
    · exact RDt.dom t a ha
end
theorem RDs.length : ∀ {ds : List D} {vs : List V} {F : List Addr}, RDs K H ds vs F → ds.length = vs.length
  | [], _, _, h => by rw [h.1]; rfl
  | _ :: _, _, _, h => by
    obtain ⟨v, r, F1, F2, rfl, q, t, rfl⟩ := h
    rw [List.length_cons, List.length_cons, RDs.length t]
theorem RWs.length : ∀ {ds : List W} {vs : List V}, RWs K H ds vs → ds.length = vs.length
  | [], _, h => by rw [h]; rfl
  | _ :: _, _, h => by
    obtain ⟨v, r, rfl, q, t⟩ := h
    rw [List.length_cons, List.length_cons, RWs.length t]
theorem RWs.get : ∀ {ds : List W} {vs : List V} {i : Nat} {d : W}, RWs K H ds vs → ds[i]? = some d → ∃ v, vs[i]? = some v ∧ RW K H d v
  | [], _, _, _, _, e => by simp at e
  | _ :: _, _, 0, _, h, e => by
    obtain ⟨v, r, rfl, q, t⟩ := h
    simp at e; subst e
    exact ⟨v, rfl, q⟩
  | _ :: _, _, i + 1, _, h, e => by
    obtain ⟨v, r, rfl, q, t⟩ := h
    obtain ⟨u, h1, h2⟩ := RWs.get (i := i) t (by simpa using e)
    exact ⟨u, by simpa using h1, h2⟩
theorem RDs.get : ∀ {ds : List D} {vs : List V} {F : List Addr} {i : Nat} {d : D}, RDs K H ds vs F → ds[i]? = some d → ∃ v G, vs[i]? = some v ∧ RD K H d v G ∧ G.Sublist F
  | [], _, _, _, _, _, e => by simp at e
  | _ :: _, _, _, 0, _, h, e => by
    obtain ⟨v, r, F1, F2, rfl, q, t, rfl⟩ := h
    simp at e; subst e
    exact ⟨v, F1, rfl, q, List.sublist_append_left _ _⟩
  | _ :: _, _, _, i + 1, _, h, e => by
    obtain ⟨v, r, F1, F2, rfl, q, t, rfl⟩ := h
    obtain ⟨u, G, h1, h2, h3⟩ := RDs.get (i := i) t (by simpa using e)
    exact ⟨u, G, by simpa using h1, h2, h3.trans (List.sublist_append_right _ _)⟩
theorem RDs.append : ∀ {ds es : List D} {vs us : List V} {F G : List Addr}, RDs K H ds vs F → RDs K H es us G → RDs K H (ds ++ es) (vs ++ us) (F ++ G)
  | [], _, _, _, _, _, h, h' => by
    obtain ⟨rfl, rfl⟩ := h
    exact h'
  | _ :: _, _, _, _, _, _, h, h' => by
    obtain ⟨v, r, F1, F2, rfl, q, t, rfl⟩ := h
    exact ⟨v, _, F1, _, rfl, q, RDs.append t h', List.append_assoc _ _ _⟩
theorem RWs.append : ∀ {ds es : List W} {vs us : List V}, RWs K H ds vs → RWs K H es us → RWs K H (ds ++ es) (vs ++ us)
  | [], _, _, _, h, h' => by
    rw [h]
    exact h'
  | _ :: _, _, _, _, h, h' => by
    obtain ⟨v, r, rfl, q, t⟩ := h
    exact ⟨v, _, rfl, q, RWs.append t h'⟩
theorem RWs.drop : ∀ {ds : List W} {vs : List V} (n : Nat), RWs K H ds vs → RWs K H (ds.drop n) (vs.drop n)
  | _, _, 0, h => h
  | [], _, n + 1, h => by rw [show _ = _ from h]; exact rfl
  | _ :: _, _, n + 1, h => by
    obtain ⟨v, r, rfl, q, t⟩ := h
    exact RWs.drop n t
theorem RWs.take : ∀ {ds : List W} {vs : List V} (n : Nat), RWs K H ds vs → RWs K H (ds.take n) (vs.take n)
  | _, _, 0, h => rfl
  | [], _, n + 1, h => by rw [show _ = _ from h]; exact rfl
  | _ :: _, _, n + 1, h => by
    obtain ⟨v, r, rfl, q, t⟩ := h
    exact ⟨v, r.take n, rfl, q, RWs.take n t⟩
theorem RWs.reverse : ∀ {ds : List W} {vs : List V}, RWs K H ds vs → RWs K H ds.reverse vs.reverse
  | [], _, h => by rw [show _ = _ from h]; exact rfl
  | d :: ds, _, h => by
    obtain ⟨v, r, rfl, q, t⟩ := h
    rw [List.reverse_cons, List.reverse_cons]
    exact (RWs.reverse t).append ⟨v, [], rfl, q, rfl⟩
theorem RDs.flat : ∀ {ws : List W} {vs : List V} {F : List Addr}, RDs K H (ws.map D.w) vs F ↔ RWs K H ws vs ∧ F = []
  | [], _, _ => Iff.rfl
  | _ :: _, vs, F => by
    constructor
    · rintro ⟨v, r, F1, F2, rfl, ⟨q, rfl⟩, t, rfl⟩
      have t2 := RDs.flat.mp t
      obtain ⟨t3, e⟩ := t2
      subst e
      exact ⟨⟨v, r, rfl, q, t3⟩, rfl⟩
    · rintro ⟨⟨v, r, rfl, q, t⟩, rfl⟩
      exact ⟨v, r, [], [], rfl, ⟨q, rfl⟩, RDs.flat.mpr ⟨t, rfl⟩, rfl⟩
end
end Wm
namespace Wm
open PySem PySem.Spec PyProof.Rows L2

abbrev Ky := Sum Nat Nat
abbrev Itm := Ky → Option (V × SV)
def topOf : V × SV → Option Addr
  | (.ref a, ⟨_, .lst _⟩) => some a
  | (.ref a, ⟨_, .dK _⟩) => some a
  | (.ref a, ⟨_, .dT _⟩) => some a
  | _ => none
/-- what no borrowed thing may have: a slot's own object; all of a temporary -/
def edge (k : Ky) (x : V × SV) (F : List Addr) : List Addr := match k with
  | .inl _ => (topOf x).toList
  | .inr _ => F
structure Good (K : PySem.W.Frag) (H0 : Hp) (M : Addr → Prop) (H : Hp) (it : Itm) (F : Ky → List Addr) : Prop where
  rep : ∀ {k v s}, it k = some (v, s) → RD K H s.d v (F k)
  nd : ∀ {k v s}, it k = some (v, s) → s.m = .own → (F k).Nodup
  mine : ∀ {k v s}, it k = some (v, s) → s.m = .own → ∀ a ∈ F k, H0 a = none ∨ M a
  dis : ∀ {k k' x x'}, k ≠ k' → it k = some x → it k' = some x' → x.2.m = .own → x'.2.m ≠ .brw → ∀ a ∈ F k, a ∉ F k'
  top : ∀ {k k' x x' a}, k ≠ k' → it k = some x → it k' = some x' → x.2.m = .own → x'.2.m = .brw → a ∈ edge k x (F k) → a ∉ F k'
def put (it : Itm) (k : Ky) (x : Option (V × SV)) : Itm := fun j => if j = k then x else it j
def putF (F : Ky → List Addr) (k : Ky) (x : List Addr) : Ky → List Addr := fun j => if j = k then x else F j
theorem put_same {it : Itm} {k : Ky} {x : Option (V × SV)} : put it k x k = x := if_pos rfl
theorem put_ne {it : Itm} {k j : Ky} {x : Option (V × SV)} (h : j ≠ k) : put it k x j = it j := if_neg h
theorem putF_same {F : Ky → List Addr} {k : Ky} {x : List Addr} : putF F k x k = x := if_pos rfl
theorem putF_ne {F : Ky → List Addr} {k j : Ky} {x : List Addr} (h : j ≠ k) : putF F k x j = F j := if_neg h

section
variable {K : PySem.W.Frag} {H0 H H' : Hp} {M : Addr → Prop} {it it' : Itm} {F : Ky → List Addr}

theorem top_mem {x : V × SV} {a : Addr} {G : List Addr} (h : topOf x = some a) (r : RD K H x.2.d x.1 G) : ∃ G', G = a :: G' := by
  obtain ⟨v, m, d⟩ := x
  unfold topOf at h
  split at h
  · rename_i e; cases e; cases h
    obtain ⟨b, vs, G', e, _, _, rfl⟩ := r
    cases e
    exact ⟨G', rfl⟩
  · rename_i e; cases e; cases h
    obtain ⟨b, vs, G', e, _, _, rfl⟩ := r
    cases e
    exact ⟨G', rfl⟩
  · rename_i e; cases e; cases h
    obtain ⟨b, vs, G', e, _, _, rfl⟩ := r
    cases e
    exact ⟨G', rfl⟩
  · cases h
theorem edge_sub {k : Ky} {x : V × SV} {G : List Addr} (r : RD K H x.2.d x.1 G) {a : Addr} (h : a ∈ edge k x G) : a ∈ G := by
  cases k with
  | inl i =>
    have h : a ∈ (topOf x).toList := h
    cases e : topOf x with
    | none => rw [e] at h; cases h
    | some b =>
      rw [e] at h
      have : a = b := by simpa using h
      subst this
      obtain ⟨G', rfl⟩ := top_mem e r
      exact List.mem_cons_self
  | inr j => exact h
theorem edge_nil {k : Ky} {x : V × SV} (e : topOf x = none) {a : Addr} {P : Prop} (h : a ∈ edge k x []) : P := by
  cases k with
  | inl i =>
    have h : a ∈ (topOf x).toList := h
    rw [e] at h; cases h
  | inr j => exact nomatch (show a ∈ ([] : List Addr) from h)
theorem edge_inl {i : Nat} {x : V × SV} {G : List Addr} {a : Addr} (h : a ∈ edge (.inl i) x G) : topOf x = some a := by
  have h : a ∈ (topOf x).toList := h
  cases e : topOf x with
  | none => rw [e] at h; cases h
  | some b =>
    rw [e] at h
    have : a = b := by simpa using h
    subst this
    rfl
/-- fewer things -/
theorem Good.sub (g : Good K H0 M H it F) (h : ∀ k x, it' k = some x → it k = some x) : Good K H0 M H it' F :=
  ⟨fun e => g.rep (h _ _ e), fun e => g.nd (h _ _ e), fun e => g.mine (h _ _ e), fun n e e' => g.dis n (h _ _ e) (h _ _ e'), fun n e e' => g.top n (h _ _ e) (h _ _ e')⟩
theorem Good.drop (g : Good K H0 M H it F) (k : Ky) : Good K H0 M H (put it k none) F := g.sub fun j x e => by
  by_cases h : j = k
  · subst h; rw [put_same] at e; cases e
  · rw [put_ne h] at e; exact e
/-- the heap changes elsewhere -/
theorem Good.heap (g : Good K H0 M H it F) (s : Stab H H') (h : ∀ k x, it k = some x → ∀ a ∈ F k, H' a = H a) : Good K H0 M H' it F :=
  ⟨fun e => (g.rep e).stab s (h _ _ e), g.nd, g.mine, g.dis, g.top⟩
theorem Good.dom (g : Good K H0 M H it F) {k : Ky} {x : V × SV} (e : it k = some x) : ∀ a ∈ F k, Mut (H a) := (g.rep (s := x.2) e).dom
theorem mut_ne_none {H : Hp} {a p : Addr} (m : Mut (H a)) (n : H p = none) : a ≠ p := fun e => by rw [e, n] at m; exact m
/-- a new object is laid -/
theorem Good.laid (g : Good K H0 M H it F) {p : Addr} {o : HO} (n : H p = none) : Good K H0 M (upd H p o) it F :=
  g.heap (Stab.new n) fun k x e a ha => upd_ne (mut_ne_none (g.dom e a ha) n)

/-- a thing more -/
theorem Good.add (g : Good K H0 M H it F) {k0 : Ky} {v : V} {s : SV} {F0 : List Addr} (r : RD K H s.d v F0)
    (nd : s.m = .own → F0.Nodup) (mi : s.m = .own → ∀ a ∈ F0, H0 a = none ∨ M a)
    (d1 : s.m = .own → ∀ k x, k ≠ k0 → it k = some x → x.2.m ≠ .brw → ∀ a ∈ F0, a ∉ F k)
    (d2 : s.m ≠ .own → s.m ≠ .brw → ∀ k x, k ≠ k0 → it k = some x → x.2.m = .own → ∀ a ∈ F k, a ∉ F0)
    (t1 : s.m = .own → ∀ k x a, k ≠ k0 → it k = some x → x.2.m = .brw → a ∈ edge k0 (v, s) F0 → a ∉ F k)
    (t2 : s.m = .brw → ∀ k x a, k ≠ k0 → it k = some x → x.2.m = .own → a ∈ edge k x (F k) → a ∉ F0) :
    Good K H0 M H (put it k0 (some (v, s))) (putF F k0 F0) := by
  refine ⟨fun {k v' s'} e => ?_, fun {k v' s'} e m => ?_, fun {k v' s'} e m => ?_, fun {k k' x x'} n e e' m m' a ha => ?_, fun {k k' x x' a} n e e' m m' ht => ?_⟩
  · by_cases h : k = k0
    · subst h; rw [put_same] at e; cases e; rw [putF_same]; exact r
    · rw [put_ne h] at e; rw [putF_ne h]; exact g.rep e
  · by_cases h : k = k0
    · subst h; rw [put_same] at e; cases e; rw [putF_same]; exact nd m
    · rw [put_ne h] at e; rw [putF_ne h]; exact g.nd e m
  · by_cases h : k = k0
    · subst h; rw [put_same] at e; cases e; rw [putF_same]; exact mi m
    · rw [put_ne h] at e; rw [putF_ne h]; exact g.mine e m
  · by_cases h : k = k0
    · subst h
      rw [put_same] at e; cases e
      rw [put_ne n.symm] at e'
      rw [putF_same] at ha
      rw [putF_ne n.symm]
      exact d1 m k' x' n.symm e' m' a ha
    · rw [put_ne h] at e
      rw [putF_ne h] at ha
      by_cases h' : k' = k0
      · subst h'
        rw [put_same] at e'; cases e'
        rw [putF_same]
        by_cases o : s.m = .own
        · intro hb
          have nb : x.2.m ≠ .brw := by rw [m]; decide
          exact d1 o k x h e nb a hb ha
        · exact d2 o m' k x h e m a ha
      · rw [put_ne h'] at e'
        rw [putF_ne h']
        exact g.dis n e e' m m' a ha
  · by_cases h : k = k0
    · subst h
      rw [put_same] at e; cases e
      rw [put_ne n.symm] at e'
      rw [putF_ne n.symm]
      rw [putF_same] at ht
      exact t1 m k' x' a n.symm e' m' ht
    · rw [put_ne h] at e
      rw [putF_ne h] at ht
      by_cases h' : k' = k0
      · subst h'
        rw [put_same] at e'; cases e'
        rw [putF_same]
        exact t2 m' k x a h e m ht
      · rw [put_ne h'] at e'
        rw [putF_ne h']
        exact g.top n e e' m m' ht
/-- a flat thing more -/
theorem Good.addW (g : Good K H0 M H it F) {k0 : Ky} {v : V} {m : Mode} {x : W} (r : RW K H x v) : Good K H0 M H (put it k0 (some (v, ⟨m, .w x⟩))) (putF F k0 []) :=
  g.add (s := ⟨m, .w x⟩) ⟨r, rfl⟩ (fun _ => List.nodup_nil) (fun _ _ h => nomatch h) (fun _ _ _ _ _ _ _ h => nomatch h) (fun _ _ _ _ _ _ _ _ _ h => nomatch h)
    (fun _ _ _ _ _ _ _ h => edge_nil (show topOf (v, ⟨m, .w x⟩) = none by cases v <;> rfl) h) (fun _ _ _ _ _ _ _ _ h => nomatch h)
/-- a thing under another key -/
theorem Good.move (g : Good K H0 M H it F) {k1 k2 : Ky} {x : V × SV} (e : it k1 = some x) (he : x.2.m = .own → ∀ a, a ∈ edge k2 x (F k1) → a ∈ edge k1 x (F k1) ∨ ∀ k y, it k = some y → y.2.m = .brw → a ∉ F k) : Good K H0 M H (put (put it k1 none) k2 (some x)) (putF F k2 (F k1)) := by
  have g' := g.drop k1
  have ne : ∀ {k y}, put it k1 none k = some y → k ≠ k1 ∧ it k = some y := fun {k y} q => by
    by_cases h : k = k1
    · subst h; rw [put_same] at q; cases q
    · rw [put_ne h] at q; exact ⟨h, q⟩
  refine g'.add (s := x.2) (v := x.1) (g.rep e) (fun m => g.nd e m) (fun m => g.mine e m) (fun m k y h q b a ha => ?_) (fun m1 m2 k y h q b a ha => ?_) (fun m k y a h q b t => ?_) (fun m k y a h q b t => ?_)
  · obtain ⟨n, q⟩ := ne q
    exact g.dis (Ne.symm n) e q m b a ha
  · obtain ⟨n, q⟩ := ne q
    exact g.dis n q e b m2 a ha
  · obtain ⟨n, q⟩ := ne q
    rcases he m a t with t | t
    · exact g.top (Ne.symm n) e q m b t
    · exact t k y q b
  · obtain ⟨n, q⟩ := ne q
    exact g.top n q e b m t

structure Pool (H0 : Hp) (M : Addr → Prop) (H : Hp) (it : Itm) (F : Ky → List Addr) (F0 : List Addr) : Prop where
  nd : F0.Nodup
  mine : ∀ a ∈ F0, H0 a = none ∨ M a
  dom : ∀ a ∈ F0, Mut (H a)
  dis : ∀ k x, it k = some x → ∀ a ∈ F0, a ∉ F k
theorem Pool.nil : Pool H0 M H it F [] := ⟨List.nodup_nil, (fun _ h => nomatch h), (fun _ h => nomatch h), (fun _ _ _ _ h => nomatch h)⟩
theorem Pool.sub {F0 : List Addr} (p : Pool H0 M H it F F0) (h : ∀ k x, it' k = some x → it k = some x) : Pool H0 M H it' F F0 := ⟨p.nd, p.mine, p.dom, fun k x e => p.dis k x (h k x e)⟩
/-- an own thing goes into the pool -/
theorem Pool.take {F0 : List Addr} (p : Pool H0 M H it F F0) (g : Good K H0 M H it F) {k : Ky} {x : V × SV} (e : it k = some x) (m : x.2.m = .own)
    (hb : ∀ a ∈ F k, a ∈ edge k x (F k) ∨ ∀ j y, it j = some y → y.2.m = .brw → a ∉ F j) : Pool H0 M H (put it k none) F (F0 ++ F k) := by
  refine ⟨List.nodup_append.mpr ⟨p.nd, g.nd e m, fun a ha b hb z => ?_⟩, fun a ha => ?_, fun a ha => ?_, fun j y q a ha => ?_⟩
  · subst z; exact p.dis k x e a ha hb
  · rcases List.mem_append.mp ha with ha | ha
    · exact p.mine a ha
    · exact g.mine e m a ha
  · rcases List.mem_append.mp ha with ha | ha
    · exact p.dom a ha
    · exact g.dom e a ha
  · by_cases h : j = k
    · subst h; rw [put_same] at q; cases q
    · rw [put_ne h] at q
      rcases List.mem_append.mp ha with ha | ha
      · exact p.dis j y q a ha
      · by_cases b : y.2.m = .brw
        · rcases hb a ha with t | t
          · exact g.top (Ne.symm h) e q m b t
          · exact t j y q b
        · exact g.dis (Ne.symm h) e q m b a ha
/-- a new own thing made of the pool, at a fresh address -/
theorem Good.made (g : Good K H0 M H it F) {F0 : List Addr} (p : Pool H0 M H it F F0) {k0 : Ky} {a : Addr} {o : HO} {d : D} (n : H a = none) (n0 : H0 a = none ∨ M a) (r : RD K (upd H a o) d (.ref a) (a :: F0)) :
    Good K H0 M (upd H a o) (put it k0 (some (.ref a, ⟨.own, d⟩))) (putF F k0 (a :: F0)) := by
  have na : ∀ k x, it k = some x → a ∉ F k := fun k x e h => mut_ne_none (g.dom e a h) n rfl
  refine (g.laid n).add (s := ⟨.own, d⟩) r (fun _ => List.nodup_cons.mpr ⟨fun h => mut_ne_none (p.dom a h) n rfl, p.nd⟩) (fun _ b hb => ?_) (fun _ k x _ e _ c hc => ?_) (fun m _ => absurd rfl m) (fun _ k x b _ e _ t => ?_) (fun m _ => nomatch m)
  · rcases List.mem_cons.mp hb with rfl | hb
    · exact n0
    · exact p.mine b hb
  · rcases List.mem_cons.mp hc with rfl | hc
    · exact na k x e
    · exact p.dis k x e c hc
  · rcases List.mem_cons.mp (edge_sub (x := (.ref a, ⟨.own, d⟩)) r t) with rfl | hc
    · exact na k x e
    · exact p.dis k x e b hc
/-- a new own thing without an object of its own (a tuple) made of the pool -/
theorem Good.madeT (g : Good K H0 M H it F) {F0 : List Addr} (p : Pool H0 M H it F F0) {k0 : Ky} {v : V} {d : D} (r : RD K H d v F0) :
    Good K H0 M H (put it k0 (some (v, ⟨.own, d⟩))) (putF F k0 F0) :=
  g.add (s := ⟨.own, d⟩) r (fun _ => p.nd) (fun _ => p.mine) (fun _ k x _ e _ => p.dis k x e) (fun m _ => absurd rfl m) (fun _ k x b _ e _ t => p.dis k x e b (edge_sub (x := (v, ⟨.own, d⟩)) r t)) (fun m _ => nomatch m)
/-- an own thing is written: what it has now came of it, or of the pool -/
theorem Good.write (g : Good K H0 M H it F) {F0 : List Addr} (pm : ∀ a ∈ F0, H0 a = none ∨ M a) (pd : ∀ k x, it k = some x → x.2.m ≠ .brw → ∀ a ∈ F0, a ∉ F k) {n : Nat} {a : Addr} {d d' : D} {o : HO} {F' : List Addr} (e : it (.inl n) = some (.ref a, ⟨.own, d⟩)) (ht : topOf (.ref a, ⟨.own, d⟩) = some a)
    (r : RD K (upd H a o) d' (.ref a) F') (nd : F'.Nodup) (hf : ∀ b ∈ F', b ∈ F (.inl n) ∨ b ∈ F0) (h0 : ∃ G, F' = a :: G) : Good K H0 M (upd H a o) (put it (.inl n) (some (.ref a, ⟨.own, d'⟩))) (putF F (.inl n) F') := by
  generalize hk : (Sum.inl n : Ky) = k at *
  have ha : a ∈ F k := by
    obtain ⟨G, q⟩ := top_mem (K := K) (H := H) ht (g.rep e)
    rw [q]; exact List.mem_cons_self
  have mu : Mut (H a) := g.dom e a ha
  have off : ∀ j x, j ≠ k → it j = some x → a ∉ F j := fun j x n q => by
    by_cases b : x.2.m = .brw
    · exact g.top (Ne.symm n) e q rfl b (by rw [← hk]; show a ∈ (topOf _).toList; rw [ht]; simp)
    · exact g.dis (Ne.symm n) e q rfl b a ha
  have g1 : Good K H0 M (upd H a o) (put it k none) F := (g.drop k).heap (Stab.mut mu) fun j x q b hb => by
    by_cases n : j = k
    · subst n; rw [put_same] at q; cases q
    · rw [put_ne n] at q
      exact upd_ne fun z => off j x n q (z ▸ hb)
  have eqp : put (put it k none) k (some (V.ref a, (⟨.own, d'⟩ : SV))) = put it k (some (.ref a, ⟨.own, d'⟩)) := by
    funext j
    by_cases n : j = k
    · subst n; rw [put_same, put_same]
    · rw [put_ne n, put_ne n, put_ne n]
  rw [← eqp]
  have old : ∀ {j x}, put it k none j = some x → j ≠ k ∧ it j = some x := fun {j x} q => by
    by_cases n : j = k
    · subst n; rw [put_same] at q; cases q
    · rw [put_ne n] at q; exact ⟨n, q⟩
  refine g1.add (s := ⟨.own, d'⟩) r (fun _ => nd) (fun _ b hb => ?_) (fun _ j x _ q b c hc => ?_) (fun m _ => absurd rfl m) (fun _ j x b _ q _ t => ?_) (fun m _ => nomatch m)
  · rcases hf b hb with h | h
    · exact g.mine e rfl b h
    · exact pm b h
  · obtain ⟨n, q⟩ := old q
    rcases hf c hc with h | h
    · exact g.dis (Ne.symm n) e q rfl b c h
    · exact pd j x q b c h
  · obtain ⟨n, q⟩ := old q
    rw [← hk] at t
    obtain ⟨G, z⟩ := top_mem (x := (.ref a, ⟨.own, d'⟩)) (edge_inl t) r
    obtain ⟨G', z'⟩ := h0
    rw [z'] at z
    cases z
    exact off j x n q
/-- a part of a thing, beside it -/
def partMode : Mode → Mode
  | .own => .brw
  | m => m
theorem Good.part (g : Good K H0 M H it F) {k k0 : Ky} {x : V × SV} (e : it k = some x) {v : V} {d : D} {F' : List Addr} (r : RD K H d v F') (hs : ∀ b ∈ F', b ∈ F k) (nt : x.2.m = .own → ∀ a, a ∈ edge k x (F k) → a ∉ F') :
    Good K H0 M H (put it k0 (some (v, ⟨partMode x.2.m, d⟩))) (putF F k0 F') := by
  refine g.add (s := ⟨partMode x.2.m, d⟩) r (fun m => ?_) (fun m => ?_) (fun m => ?_) (fun m1 m2 j y n q o a ha hb => ?_) (fun m => ?_) (fun m j y a n q o t hb => ?_)
  · cases h : x.2.m <;> (rw [h] at m; cases m)
  · cases h : x.2.m <;> (rw [h] at m; cases m)
  · cases h : x.2.m <;> (rw [h] at m; cases m)
  · have hx : x.2.m = .par := by
      cases h : x.2.m with
      | own => exfalso; apply m2; show partMode x.2.m = _; rw [h]; rfl
      | par => rfl
      | brw => exfalso; apply m2; show partMode x.2.m = _; rw [h]; rfl
    have nj : j ≠ k := fun z => by
      subst z; rw [e] at q; cases q; rw [hx] at o; cases o
    exact g.dis nj q e o (by rw [hx]; decide) a ha (hs a hb)
  · cases h : x.2.m <;> (rw [h] at m; cases m)
  · by_cases nj : j = k
    · subst nj
      rw [e] at q; cases q
      exact nt o a t hb
    · cases hx : x.2.m with
      | own =>
        have ha : a ∈ F j := edge_sub (g.rep (s := y.2) q) t
        exact g.dis nj q e o (by rw [hx]; decide) a ha (hs a hb)
      | par =>
        have ha : a ∈ F j := edge_sub (g.rep (s := y.2) q) t
        exact g.dis nj q e o (by rw [hx]; decide) a ha (hs a hb)
      | brw => exact g.top nj q e o hx t (hs a hb)
end
end Wm
namespace Wm
open PySem PySem.Spec PyProof.Rows L2

inductive Bin where | add | sub | mul | fdiv | mod | pow | bor
deriving DecidableEq
inductive Cmp where | eq | ne | lt | le | gt | ge | isN | notN | inn | notin
deriving DecidableEq
inductive Prim where
  | bin (b : Bin) | cmp (c : Cmp) | neg | idx
  | lst | tup | dnewK | dnewT
  | slice (lo hi : Bool) | rev
  | len | sorted | list | tuple | all | any | sum | min1 | max1 | min2 | max2 | abs | int
  | isi (tys : List String)
deriving DecidableEq
inductive Mth where | append | extend | insert | pop0 | pop1 | reverse | clear
deriving DecidableEq
inductive Tg where | one (i : Nat) | tup (is : List Nat)
deriving DecidableEq
mutual
inductive E where
  | var (i : Nat) | cst (x : W) | glob (x : Str) (n : Int)
  | op (o : Prim) (as : Es)
  | and (a b : E) | or (a b : E) | not (a : E) | ite (c a b : E)
  | chain (o1 o2 : Cmp) (a b c : E)
  | call (f : Str) (as : Es)
  | mth (m : Mth) (i : Nat) (as : Es)
  | lc (tg : Tg) (it : Itr) (elt : E) (own : List (Str × Nat))
  | lcIf (tg : Tg) (it : Itr) (cond elt : E) (own : List (Str × Nat))
inductive Es where | nil | cons (e : E) (es : Es)
inductive Itr where | seq (as : Es) | rng (as : Es) | enum (as : Es) | zip (as : Es)
end
mutual
inductive S where
  | asg (i : Nat) (e : E) | unp (is : List Nat) (e : E) | par2 (i j : Nat) (a b : E)
  | setI (i : Nat) (k e : E) | expr (e : E) | ret (e : E) | retN
  | ifS (c : E) (a b : Ss) | forS (tg : Tg) (it : Itr) (body : Ss) | whl (c : E) (body : Ss)
  | brk | cnt | pass | stuck
inductive Ss where | nil | cons (s : S) (ss : Ss)
end

inductive Arg where | late (i : Nat) | tmp (m : Mode) (d : D)
structure Op where
  s : Option Nat
  m : Mode
  d : D
def rd (ρ : REnv) : Arg → Option Op
  | .late i => match ρ[i]? with
    | some (some s) => some ⟨some i, s.m, s.d⟩
    | _ => none
  | .tmp m d => some ⟨none, m, d⟩
def rds (ρ : REnv) : List Arg → Option (List Op)
  | [] => some []
  | a :: as => match rd ρ a with
    | some o => match rds ρ as with
      | some os => some (o :: os)
      | none => none
    | none => none
def isW : D → Bool
  | .w _ => true
  | _ => false
/-- nothing within may be written -/
def shallow : D → Bool
  | .w _ => true
  | .lst ds => ds.all isW
  | .dK kvs => kvs.all fun kv => isW kv.2
  | .dT kvs => kvs.all fun kv => isW kv.2
  | .fz _ => true
  | .tup _ => false
def killB (ρ : REnv) : REnv := ρ.map fun
  | some ⟨.brw, .w x⟩ => some ⟨.brw, .w x⟩
  | some ⟨.brw, _⟩ => none
  | s => s
/-- an own thing is taken out of its slot -/
def takeSlot (p : Bool) (ρ : REnv) (i : Nat) (d : D) : Option REnv := match shallow d with
  | true => some (ρ.set i none)
  | false => match p with
    | true => none
    | false => some (killB (ρ.set i none))
def tk (p : Bool) (ρ : REnv) : Arg → Option (D × REnv)
  | .late i => match ρ[i]? with
    | some (some ⟨_, .w x⟩) => some (.w x, ρ)
    | some (some ⟨.own, d⟩) => match takeSlot p ρ i d with
      | some ρ' => some (d, ρ')
      | none => none
    | _ => none
  | .tmp _ (.w x) => some (.w x, ρ)
  | .tmp .own d => some (d, ρ)
  | .tmp _ _ => none
def brwArg : Arg → Bool
  | .tmp .brw (.w _) => false
  | .tmp .brw _ => true
  | _ => false
def tks1 (p : Bool) (ρ : REnv) : List Arg → Option (List D × REnv)
  | [] => some ([], ρ)
  | a :: as => match tk p ρ a with
    | some (d, ρ1) => match tks1 p ρ1 as with
      | some (ds, ρ2) => some (d :: ds, ρ2)
      | none => none
    | none => none
def tks (p : Bool) (ρ : REnv) (as : List Arg) : Option (List D × REnv) := tks1 (p || as.any brwArg) ρ as
/-- all flat -/
def allW : List D → Option (List W)
  | [] => some []
  | .w x :: ds => match allW ds with
    | some xs => some (x :: xs)
    | none => none
  | _ :: _ => none
def mkTup (ds : List D) : D := match allW ds with
  | some ws => .w (.tup ws)
  | none => .tup ds
abbrev sw (x : W) : SV := ⟨.own, .w x⟩
/-- a part's mode: of a thing that stays (slot), of one that goes -/
def Op.pm (o : Op) : Mode := match o.s, o.m with
  | some _, .own => .brw
  | _, m => m
def mkSV (m : Mode) : D → SV
  | .w x => ⟨.own, .w x⟩
  | d => ⟨m, d⟩

def pAdd (a b : D) (Q : SV → Prop) : Prop := match a, b with
  | .w (.int i), .w (.int j) => Q (sw (.int (i + j)))
  | .w (.tup xs), .w (.tup ys) => xs.length + ys.length ≤ sizeLine ∧ Q (sw (.tup (xs ++ ys)))
  | .w (.str x), .w (.str y) => x.length + y.length ≤ sizeLine ∧ Q (sw (.str (x ++ y)))
  | .lst xs, .lst ys => xs.length + ys.length ≤ sizeLine ∧ match allW (xs ++ ys) with
    | some ws => Q ⟨.own, .lst (ws.map .w)⟩
    | none => False
  | _, _ => False
def pMul (a b : D) (Q : SV → Prop) : Prop := match a, b with
  | .w (.int i), .w (.int j) => CMul i j ∧ Q (sw (.int (i * j)))
  | .lst xs, .w (.int j) => -(2 ^ 63) ≤ j ∧ j < 2 ^ 63 ∧ xs.length * j.toNat ≤ sizeLine ∧ match allW xs with
    | some ws => Q ⟨.own, .lst ((List.replicate j.toNat (ws.map D.w)).flatten)⟩
    | none => False
  | _, _ => False
def pI2 (C : Int → Int → Prop) (f : Int → Int → Int) (a b : D) (Q : SV → Prop) : Prop := match a, b with
  | .w (.int i), .w (.int j) => C i j ∧ Q (sw (.int (f i j)))
  | _, _ => False
def pBin : Bin → D → D → (SV → Prop) → Prop
  | .add => pAdd
  | .sub => pI2 (fun _ _ => True) (· - ·)
  | .mul => pMul
  | .fdiv => pI2 CDivW (· / ·)
  | .mod => pI2 (fun _ j => 0 < j) (· % ·)
  | .pow => pI2 CPow fun i j => i ^ j.toNat
  | .bor => pI2 (fun _ _ => True) Builtin.bitOr
mutual
def pyW : W → PyData
  | .non => .none
  | .bl b => .bool b
  | .int i => .int i
  | .str s => .str s
  | .tup xs => .tuple (pyWs xs)
def pyWs : List W → List PyData
  | [] => []
  | x :: xs => pyW x :: pyWs xs
end
mutual
def pyD : D → PyData
  | .w x => pyW x
  | .tup xs => .tuple (pyDs xs)
  | .lst xs => .list (pyDs xs)
  | .fz xs => .list (pyWs xs)
  | .dK _ => .none
  | .dT _ => .none
def pyDs : List D → List PyData
  | [] => []
  | x :: xs => pyD x :: pyDs xs
end
mutual
/-- no dict within -/
def noDict : D → Bool
  | .w _ => true
  | .tup xs => noDicts xs
  | .lst xs => noDicts xs
  | .fz _ => true
  | .dK _ => false
  | .dT _ => false
def noDicts : List D → Bool
  | [] => true
  | x :: xs => noDict x && noDicts xs
end
def eqOk (d : D) : Prop := noDict d = true ∧ SeqAt.shaped (pyD d) = true
def pEq (neg : Bool) (a b : D) (Q : SV → Prop) : Prop := match a, b with
  | .w (.int i), .w (.int j) => Q (sw (.bl (if neg then !decide (i = j) else decide (i = j))))
  | a, b => eqOk a ∧ eqOk b ∧ Q (sw (.bl (if neg then !PyData.eqv (pyD a) (pyD b) else PyData.eqv (pyD a) (pyD b))))
def pOrd (f : Int → Int → Bool) (a b : D) (Q : SV → Prop) : Prop := match a, b with
  | .w (.int i), .w (.int j) => Q (sw (.bl (f i j)))
  | _, _ => False
def isNon : D → Bool
  | .w .non => true
  | _ => false
/-- is, of None and of truths -/
def isD (a b : D) : Option Bool := match b with
  | .w .non => some (isNon a)
  | .w (.bl c) => match a with
    | .w (.bl b) => some (b == c)
    | _ => none
  | _ => none
/-- the items of a list or tuple -/
def seqOf : D → Option (List D)
  | .w (.tup xs) => some (xs.map .w)
  | .tup xs => some xs
  | .lst xs => some xs
  | .fz xs => some (xs.map .w)
  | _ => none
def wKey : W → Option L2.Key
  | .int i => some (.inl i)
  | .str x => some (.inr x)
  | _ => none
def wKeys : List W → Option (List L2.Key)
  | [] => some []
  | x :: xs => match wKey x, wKeys xs with
    | some k, some ks => some (k :: ks)
    | _, _ => none
def dFind {κ : Type} [DecidableEq κ] (kvs : List (κ × D)) (k : κ) : Option D := (kvs.find? fun kv => decide (kv.1 = k)).map (·.2)
def dPut {κ : Type} [DecidableEq κ] (kvs : List (κ × D)) (k : κ) (v : D) : List (κ × D) :=
  if kvs.any (fun kv => decide (kv.1 = k)) then kvs.map fun kv => if kv.1 = k then (kv.1, v) else kv else kvs ++ [(k, v)]
/-- a in b -/
def pIn (neg : Bool) (a b : D) (Q : SV → Prop) : Prop := match b with
  | .dK kvs => match a with
    | .w x => match wKey x with
      | some k => Q (sw (.bl (if neg then !(dFind kvs k).isSome else (dFind kvs k).isSome)))
      | none => False
    | _ => False
  | .dT kvs => match a with
    | .w (.tup xs) => match wKeys xs with
      | some k => Q (sw (.bl (if neg then !(dFind kvs k).isSome else (dFind kvs k).isSome)))
      | none => False
    | _ => False
  | b => match seqOf b with
    | some ds => eqOk a ∧ eqOk b ∧ Q (sw (.bl (if neg then !(pyDs ds).any (fun z => PyData.eqv z (pyD a)) else (pyDs ds).any fun z => PyData.eqv z (pyD a))))
    | none => False
def intsOf : List W → Option (List Int)
  | [] => some []
  | .int i :: r => match intsOf r with
    | some is => some (i :: is)
    | none => none
  | _ :: _ => none
def pLt (a b : D) (Q : SV → Prop) : Prop := match a, b with
  | .w (.int i), .w (.int j) => Q (sw (.bl (decide (i < j))))
  | .w (.tup xs), .w (.tup ys) => match intsOf xs, intsOf ys with
    | some is, some js => Q (sw (.bl (HT.lexLt is js)))
    | _, _ => False
  | _, _ => False
def pCmp : Cmp → D → D → (SV → Prop) → Prop
  | .eq => pEq false
  | .ne => pEq true
  | .lt => pLt
  | .le => pOrd fun i j => decide (i ≤ j)
  | .gt => pOrd fun i j => decide (j < i)
  | .ge => pOrd fun i j => decide (j ≤ i)
  | .isN => fun a b Q => match isD a b with | some r => Q (sw (.bl r)) | none => False
  | .notN => fun a b Q => match isD a b with | some r => Q (sw (.bl (!r))) | none => False
  | .inn => pIn false
  | .notin => pIn true
def pIdx (a : Op) (b : D) (Q : SV → Prop) : Prop := match a.d with
  | .w (.tup xs) => match b with
    | .w (.int i) => match atI xs i with
      | some x => Q (sw x)
      | none => False
    | _ => False
  | .dK kvs => match b with
    | .w x => match wKey x with
      | some k => match dFind kvs k with
        | some d => Q (mkSV a.pm d)
        | none => False
      | none => False
    | _ => False
  | .dT kvs => match b with
    | .w (.tup xs) => match wKeys xs with
      | some k => match dFind kvs k with
        | some d => Q (mkSV a.pm d)
        | none => False
      | none => False
    | _ => False
  | d => match seqOf d, b with
    | some ds, .w (.int i) => match atI ds i with
      | some x => Q (mkSV a.pm x)
      | none => False
    | _, _ => False
def cutL {α : Type} (xs : List α) (lo hi : Option Int) : List α := (xs.drop (HT.sIx xs.length 0 lo)).take (HT.sIx xs.length xs.length hi - HT.sIx xs.length 0 lo)
/-- a new list or tuple with flat items -/
def pFlat (f : List W → List W) (a : D) (Q : SV → Prop) : Prop := match a with
  | .w (.tup xs) => Q (sw (.tup (f xs)))
  | .lst ds => match allW ds with
    | some ws => Q ⟨.own, .lst ((f ws).map .w)⟩
    | none => False
  | .fz ws => Q ⟨.own, .lst ((f ws).map .w)⟩
  | _ => False
def boolsOf : List W → Option (List Bool)
  | [] => some []
  | .bl i :: r => match boolsOf r with
    | some is => some (i :: is)
    | none => none
  | _ :: _ => none
/-- tuples of so many intsOf -/
def tupsN (n : Nat) : List W → Option (List (List Int))
  | [] => some []
  | .tup xs :: r => match intsOf xs, tupsN n r with
    | some is, some rs => if is.length = n then some (is :: rs) else none
    | _, _ => none
  | _ :: _ => none
/-- put in order, lexicographically (insertion) -/
def insT (x : List Int) : List (List Int) → List (List Int)
  | [] => [x]
  | y :: r => if HT.lexLt y x then y :: insT x r else x :: y :: r
def sortT : List (List Int) → List (List Int)
  | [] => []
  | x :: r => insT x (sortT r)
def insI (x : Int) : List Int → List Int
  | [] => [x]
  | y :: r => if y < x then y :: insI x r else x :: y :: r
def sortI : List Int → List Int
  | [] => []
  | x :: r => insI x (sortI r)
def wT (t : List Int) : W := .tup (t.map .int)
/-- the flat items of a list, tuple or dict (its keys) -/
def keyW : L2.Key → W
  | .inl i => .int i
  | .inr x => .str x
def itemsW : D → Option (List W)
  | .w (.tup xs) => some xs
  | .lst ds => allW ds
  | .fz ws => some ws
  | .dK kvs => some (kvs.map fun kv => keyW kv.1)
  | .dT kvs => some (kvs.map fun kv => .tup (kv.1.map keyW))
  | _ => none
def pSorted (a : D) (Q : SV → Prop) : Prop := match itemsW a with
  | some ws => match intsOf ws with
    | some is => is.length < 64 ∧ Q ⟨.own, .lst ((sortI is).map fun i => .w (.int i))⟩
    | none => match ws with
      | .tup t :: _ => match tupsN t.length ws with
        | some ts => 0 < t.length ∧ ts.length < 64 ∧ Q ⟨.own, .lst ((sortT ts).map fun t => .w (wT t))⟩
        | none => False
      | _ => False
  | none => False
def pList (a : D) (Q : SV → Prop) : Prop := match itemsW a with
  | some ws => Q ⟨.own, .lst (ws.map .w)⟩
  | none => False
def pTuple (a : D) (Q : SV → Prop) : Prop := match a with
  | .w (.tup xs) => Q (sw (.tup xs))
  | .lst ds => match allW ds with
    | some ws => Q (sw (.tup ws))
    | none => False
  | _ => False
def lenOf : D → Option Nat
  | .dK kvs => some kvs.length
  | .dT kvs => some kvs.length
  | d => (seqOf d).map (·.length)
def flatOf : D → Option (List W)
  | .lst ds => allW ds
  | .fz ws => some ws
  | _ => none
def pBools (f : List Bool → Bool) (a : D) (Q : SV → Prop) : Prop := match flatOf a with
  | some ws => match boolsOf ws with
    | some bs => Q (sw (.bl (f bs)))
    | none => False
  | none => False
def pInts (f : List Int → (Int → Prop) → Prop) (a : D) (Q : SV → Prop) : Prop := match flatOf a with
  | some ws => match intsOf ws with
    | some is => f is fun i => Q (sw (.int i))
    | none => False
  | none => False
/-- the type's name -/
def tyD : D → String
  | .w .non => "NoneType"
  | .w (.bl _) => "bool"
  | .w (.int _) => "int"
  | .w (.str _) => "str"
  | .w (.tup _) => "tuple"
  | .tup _ => "tuple"
  | .lst _ => "list"
  | .fz _ => "list"
  | .dK _ => "dict"
  | .dT _ => "dict"
/-- isinstance, of the types int, bool, str, list, tuple, dict -/
def isOne (t c : String) : Bool := t == c || (t == "bool" && c == "int")
def primB (o : Prim) (ops : List Op) (Q : SV → Prop) : Prop := match o, ops with
  | .bin b, [x, y] => pBin b x.d y.d Q
  | .cmp c, [x, y] => pCmp c x.d y.d Q
  | .neg, [x] => match x.d with | .w (.int i) => Q (sw (.int (-i))) | _ => False
  | .idx, [x, y] => pIdx x y.d Q
  | .slice false false, [x] => pFlat (fun l => cutL l none none) x.d Q
  | .slice true false, [x, y] => match y.d with | .w (.int i) => pFlat (fun l => cutL l (some i) none) x.d Q | _ => False
  | .slice false true, [x, y] => match y.d with | .w (.int i) => pFlat (fun l => cutL l none (some i)) x.d Q | _ => False
  | .slice true true, [x, y, z] => match y.d, z.d with | .w (.int i), .w (.int j) => pFlat (fun l => cutL l (some i) (some j)) x.d Q | _, _ => False
  | .rev, [x] => pFlat List.reverse x.d Q
  | .len, [x] => match lenOf x.d with | some n => Q (sw (.int n)) | none => False
  | .sorted, [x] => pSorted x.d Q
  | .list, [x] => pList x.d Q
  | .tuple, [x] => pTuple x.d Q
  | .all, [x] => pBools (fun bs => bs.all id) x.d Q
  | .any, [x] => pBools (fun bs => bs.any id) x.d Q
  | .sum, [x] => pInts (fun is q => q is.sum) x.d Q
  | .min1, [x] => pInts (fun is q => 0 < is.length ∧ ∀ m, m ∈ is → (∀ y, y ∈ is → m ≤ y) → q m) x.d Q
  | .max1, [x] => pInts (fun is q => 0 < is.length ∧ ∀ m, m ∈ is → (∀ y, y ∈ is → y ≤ m) → q m) x.d Q
  | .min2, [x, y] => pI2 (fun _ _ => True) (fun i j => if j < i then j else i) x.d y.d Q
  | .max2, [x, y] => pI2 (fun _ _ => True) (fun i j => if j > i then j else i) x.d y.d Q
  | .abs, [x] => match x.d with | .w (.int i) => Q (sw (.int (if i < 0 then -i else i))) | _ => False
  | .int, [x] => match x.d with | .w (.int i) => Q (sw (.int i)) | .w (.bl b) => Q (sw (.int (if b then 1 else 0))) | _ => False
  | .isi tys, [x] => Q (sw (.bl (tys.any (isOne (tyD x.d)))))
  | _, _ => False
def prim (o : Prim) (args : List Arg) (p : Bool) (ρ : REnv) (Q : SV → REnv → Prop) : Prop := match o with
  | .lst => match tks p ρ args with
    | some (ds, ρ') => Q ⟨.own, .lst ds⟩ ρ'
    | none => False
  | .tup => match tks p ρ args with
    | some (ds, ρ') => Q ⟨.own, mkTup ds⟩ ρ'
    | none => False
  | .dnewK => Q ⟨.own, .dK []⟩ ρ
  | .dnewT => Q ⟨.own, .dT []⟩ ρ
  | o => match rds ρ args with
    | some ops => primB o ops fun s => Q s ρ
    | none => False

/-- what is raised: its class's name, the number it bears -/
structure Ex where
  c : Str
  at_ : Option Int
abbrev FSpec := List D → (D → List D → Prop) → (Ex → List D → Prop) → Prop
structure Fn where
  name : Str
  sig : List Bool
  lvl : Nat
  spec : FSpec
abbrev Tab := List Fn
def Tab.find (T : Tab) (f : Str) : Option Fn := List.find? (fun e => decide (e.name = f)) T
/-- the arguments' data, and which slots are handed over to be written -/
def cArgs (ρ : REnv) : List Bool → List Arg → Option (List D × List Nat)
  | [], [] => some ([], [])
  | b :: bs, a :: as => match rd ρ a with
    | some o => match cArgs ρ bs as with
      | some (ds, is) => match b with
        | false => match o.s with
          | some i => if i ∈ is then none else some (o.d :: ds, is)
          | none => some (o.d :: ds, is)
        | true => match o.s, o.m with
          | some i, .own => if i ∈ is then none else some (o.d :: ds, i :: is)
          | _, _ => none
      | none => none
    | none => none
  | _, _ => none
/-- no borrowed thing that can be written is handed in -/
def noBrw (ρ : REnv) : List Arg → Bool
  | [] => true
  | a :: as => (match rd ρ a with
    | some ⟨_, .brw, .w _⟩ => true
    | some ⟨_, .brw, _⟩ => false
    | _ => true) && noBrw ρ as
/-- slots handed over are not handed in beside -/
def apartArgs : List Bool → List Arg → List Nat → Bool
  | b :: bs, a :: as, is => (match b, a with
    | false, .late i => !(is.contains i)
    | _, _ => true) && apartArgs bs as is
  | _, _, _ => true
def outDs (ρ : REnv) (is : List Nat) : List D := is.filterMap fun i => match ρ[i]? with
  | some (some s) => some s.d
  | _ => none
def putOuts (ρ : REnv) : List Nat → List D → REnv
  | i :: is, d :: ds => putOuts (ρ.set i (some (mkSV .own d))) is ds
  | _, _ => ρ
def callWp (f : Fn) (args : List Arg) (p : Bool) (ρ : REnv) (X : Ex → REnv → Prop) (Q : SV → REnv → Prop) : Prop :=
  match cArgs ρ f.sig args with
  | some (ds, is) =>
    apartArgs f.sig args is = true ∧
    match (outDs ρ is).all shallow with
    | true => f.spec ds (fun r outs => Q (mkSV .own r) (putOuts ρ is outs)) (fun x outs => X x (putOuts ρ is outs))
    | false => p = false ∧ noBrw ρ args = true ∧ f.spec ds (fun r outs => Q (mkSV .own r) (putOuts (killB ρ) is outs)) (fun x outs => X x (putOuts (killB ρ) is outs))
  | none => False

/-- what goes into a slot's list; a name that held it reads it still -/
def putIn (ρ : REnv) : Arg → Option (D × REnv)
  | .late i => match ρ[i]? with
    | some (some ⟨_, .w x⟩) => some (.w x, ρ)
    | some (some ⟨.own, d⟩) => some (d, ρ.set i (some ⟨.brw, d⟩))
    | _ => none
  | .tmp _ (.w x) => some (.w x, ρ)
  | .tmp .own d => some (d, ρ)
  | .tmp _ _ => none
/-- a list of one's own -/
def ownL (ρ : REnv) (i : Nat) : Bool := match ρ[i]? with
  | some (some ⟨.own, .lst _⟩) => true
  | _ => false
def mthWp (m : Mth) (i : Nat) (args : List Arg) (p : Bool) (ρ : REnv) (Q : SV → REnv → Prop) : Prop :=
  match m with
  | .append => match args with
    | [x] => match putIn ρ x with
      | some (d, ρ1) => match ρ1[i]? with
        | some (some ⟨.own, .lst ds⟩) => ds.length < sizeLine ∧ Q (sw .non) (ρ1.set i (some ⟨.own, .lst (ds ++ [d])⟩))
        | _ => False
      | none => False
    | _ => False
  | .insert => match args with
    | [k, x] => match rd ρ k, putIn ρ x with
      | some ⟨_, _, .w (.int k)⟩, some (d, ρ1) => match ρ1[i]? with
        | some (some ⟨.own, .lst ds⟩) => ds.length < sizeLine ∧ 0 ≤ k ∧ k < 2 ^ 63 ∧ Q (sw .non) (ρ1.set i (some ⟨.own, .lst (ds.take k.toNat ++ d :: ds.drop k.toNat)⟩))
        | _ => False
      | _, _ => False
    | _ => False
  | .extend => match args with
    | [.tmp .own (.lst es)] => match ρ[i]? with
      | some (some ⟨.own, .lst ds⟩) => ds.length + es.length ≤ sizeLine ∧ Q (sw .non) (ρ.set i (some ⟨.own, .lst (ds ++ es)⟩))
      | _ => False
    | _ => False
  | .pop0 => match args, ρ[i]? with
    | [], some (some ⟨.own, .lst ds⟩) => match ds.getLast? with
      | some d => Q (mkSV .brw d) (ρ.set i (some ⟨.own, .lst ds.dropLast⟩))
      | none => False
    | _, _ => False
  | .pop1 => match rds ρ args, ρ[i]? with
    | some [⟨_, _, .w (.int k)⟩], some (some ⟨.own, .lst ds⟩) => -(2 ^ 63) ≤ k ∧ k < 2 ^ 63 ∧ match ixN ds.length k with
      | some j => match ds[j]? with
        | some d => Q (mkSV .brw d) (ρ.set i (some ⟨.own, .lst (ds.eraseIdx j)⟩))
        | none => False
      | none => False
    | _, _ => False
  | .reverse => match args, ρ[i]? with
    | [], some (some ⟨.own, .lst ds⟩) => Q (sw .non) (ρ.set i (some ⟨.own, .lst ds.reverse⟩))
    | _, _ => False
  | .clear => match args, ρ[i]? with
    | [], some (some ⟨.own, .lst ds⟩) => Q (sw .non) (ρ.set i (some ⟨.own, .lst []⟩))
    | _, _ => False

/-- the rows, the slots that must stay as they are, whether a borrowed thing is held meanwhile -/
structure Rows where
  rows : List (List SV)
  watch : List (Nat × SV)
  held : Bool
/-- a part of what is walked -/
def Op.wm (o : Op) : Mode := match o.s, o.m with
  | some _, .own => .brw
  | none, .own => .par
  | _, m => m
def Op.watch (o : Op) : List (Nat × SV) := match o.s with
  | some i => [(i, ⟨o.m, o.d⟩)]
  | none => []
def heldB (o : Op) : Bool := match o.m, o.d with
  | .brw, .w _ => false
  | .brw, _ => true
  | _, _ => false
def rowsSeq (o : Op) : Option Rows := match seqOf o.d with
  | some ds => some ⟨ds.map fun d => [mkSV (o.wm) d], o.watch, heldB o⟩
  | none => none
def enumFrom {α : Type} (n : Nat) : List α → List (Nat × α)
  | [] => []
  | x :: r => (n, x) :: enumFrom (n + 1) r
def rowsEnum (o : Op) : Option Rows := match seqOf o.d with
  | some ds => some ⟨(enumFrom 0 ds).map fun nd => [sw (.int nd.1), mkSV (o.wm) nd.2], o.watch, heldB o⟩
  | none => none
def rowsZip (a b : Op) : Option Rows := match seqOf a.d, seqOf b.d with
  | some ds, some es => some ⟨(ds.zip es).map fun de => [mkSV (a.wm) de.1, mkSV (b.wm) de.2], a.watch ++ b.watch, heldB a || heldB b⟩
  | _, _ => none
def isLst : D → Bool
  | .lst _ => true
  | .fz _ => true
  | _ => false
def sameKind (a b : D) : Bool := isLst a == isLst b
def sameKind0 (a b : D) : Bool := match a, b with
  | .w (.tup _), .w (.tup _) => true
  | .w (.tup _), .tup _ => true
  | .tup _, .w (.tup _) => true
  | .tup _, .tup _ => true
  | .w _, _ => false
  | .tup _, _ => false
  | _, .w _ => false
  | _, .tup _ => false
  | _, _ => true
def rangeRows (lo : Int) (n : Nat) (c : Int) : Rows := ⟨(List.range n).map fun (k : Nat) => [sw (.int (lo + (k : Int) * c))], [], false⟩
def small62 (i : Int) : Prop := -(2 ^ 62) ≤ i ∧ i < 2 ^ 62
def rngWp (ops : List Op) (Q : Rows → Prop) : Prop := match ops with
  | [a] => match a.d with
    | .w (.int j) => small62 j ∧ Q (rangeRows 0 j.toNat 1)
    | _ => False
  | [a, b] => match a.d, b.d with
    | .w (.int i), .w (.int j) => small62 i ∧ small62 j ∧ Q (rangeRows i (j - i).toNat 1)
    | _, _ => False
  | [a, b, c] => match a.d, b.d, c.d with
    | .w (.int i), .w (.int j), .w (.int c) => ∃ n, RgC i j c n ∧ Q (rangeRows i n c)
    | _, _, _ => False
  | _ => False
/-- parts of a tuple -/
def parts (s : SV) : Option (List SV) := match s.d with
  | .w (.tup ws) => some (ws.map sw)
  | .tup ds => some (ds.map (mkSV s.m))
  | _ => none
def setAll : List Nat → List SV → REnv → Option REnv
  | [], [], ρ => some ρ
  | i :: is, s :: ss, ρ => setAll is ss (ρ.set i (some s))
  | _, _, _ => none
def Tg.set : Tg → List SV → REnv → Option REnv
  | .one i, [s], ρ => some (ρ.set i (some s))
  | .tup is, [s], ρ => match parts s with
    | some ss => setAll is ss ρ
    | none => none
  | .tup is, ss, ρ => setAll is ss ρ
  | _, _, _ => none
def Tg.slots : Tg → List Nat
  | .one i => [i]
  | .tup is => is
def stays (watch : List (Nat × SV)) (ρ : REnv) : Prop := ∀ p ∈ watch, ρ[p.1]? = some (some p.2)
def forW (watch : List (Nat × SV)) (turn : List SV → REnv → (REnv → Prop) → Prop) : List (List SV) → REnv → (REnv → Prop) → Prop
  | [], ρ, Q => stays watch ρ ∧ Q ρ
  | r :: rs, ρ, Q => stays watch ρ ∧ turn r ρ fun ρ' => forW watch turn rs ρ' Q
/-- a comprehension's turns: the list so far -/
def lcW (watch : List (Nat × SV)) (turn : List SV → REnv → (Option D → REnv → Prop) → Prop) : List (List SV) → List D → REnv → (List D → REnv → Prop) → Prop
  | [], acc, ρ, Q => stays watch ρ ∧ Q acc ρ
  | r :: rs, acc, ρ, Q => stays watch ρ ∧ turn r ρ fun o ρ' => match o with
    | some d => acc.length < sizeLine ∧ lcW watch turn rs (acc ++ [d]) ρ' Q
    | none => lcW watch turn rs acc ρ' Q
def wipeR (ρ : REnv) : List Nat → REnv
  | [] => ρ
  | i :: is => (wipeR ρ is).set i none
def boolOf (s : SV) : Option Bool := match s.d with
  | .w (.bl b) => some b
  | _ => none
def ownD (s : SV) : Option D := match s.d, s.m with
  | .w x, _ => some (.w x)
  | d, .own => some d
  | _, _ => none

/-- the slots that are walked -/
def Es.vars : Es → List Nat
  | .nil => []
  | .cons (.var i) es => i :: es.vars
  | .cons _ es => es.vars
def lateIn : List Arg → List Nat → Bool
  | [], _ => true
  | .late i :: as, vs => vs.contains i && lateIn as vs
  | .tmp _ _ :: as, vs => lateIn as vs
section
variable (T : Tab)
mutual
def wpE (X : Ex → REnv → Prop) (p : Bool) : E → REnv → (SV → REnv → Prop) → Prop
  | .var i, ρ, Q => match ρ[i]? with
    | some (some ⟨m, d⟩) => match d, m with
      | .w x, _ => Q (sw x) ρ
      | d, .own => match takeSlot p ρ i d with
        | some ρ' => Q ⟨.own, d⟩ ρ'
        | none => False
      | d, m => Q ⟨m, d⟩ ρ
    | _ => False
  | .cst x, ρ, Q => Q (sw x) ρ
  | .glob _ n, ρ, Q => Q (sw (.int n)) ρ
  | .op o as, ρ, Q => wpAs X p as ρ fun args ρ' => prim o args p ρ' Q
  | .and a b, ρ, Q => wpE X p a ρ fun s ρ' => match boolOf s with
    | some true => wpE X p b ρ' Q
    | some false => Q (sw (.bl false)) ρ'
    | none => False
  | .or a b, ρ, Q => wpE X p a ρ fun s ρ' => match boolOf s with
    | some true => Q (sw (.bl true)) ρ'
    | some false => wpE X p b ρ' Q
    | none => False
  | .not a, ρ, Q => wpE X p a ρ fun s ρ' => match boolOf s with
    | some b => Q (sw (.bl (!b))) ρ'
    | none => False
  | .ite c a b, ρ, Q => wpE X p c ρ fun s ρ' => match boolOf s with
    | some true => wpE X p a ρ' Q
    | some false => wpE X p b ρ' Q
    | none => False
  | .chain o1 o2 a b c, ρ, Q => wpE X p a ρ fun x ρ1 => isW x.d = true ∧ wpE X p b ρ1 fun y ρ2 => isW y.d = true ∧ pCmp o1 x.d y.d fun r => match boolOf r with
    | some true => wpE X p c ρ2 fun z ρ3 => pCmp o2 y.d z.d fun r => Q r ρ3
    | some false => Q (sw (.bl false)) ρ2
    | none => False
  | .call f as, ρ, Q => wpAs X p as ρ fun args ρ' => match T.find f with
    | some e => callWp e args p ρ' X Q
    | none => False
  | .mth m i as, ρ, Q => ownL ρ i = true ∧ wpAs X p as ρ fun args ρ' => mthWp m i args p ρ' Q
  | .lc tg it elt own, ρ, Q => wpI X p it ρ fun R ρ' =>
    lcW R.watch (fun r ρ1 k => match tg.set r ρ1 with
      | some ρ2 => wpE (fun _ _ => False) (p || R.held) elt ρ2 fun s ρ3 => match ownD s with
        | some d => k (some d) (wipeR ρ3 (own.map (·.2)))
        | none => False
      | none => False) R.rows [] (wipeR ρ' (own.map (·.2))) fun ds ρ1 => Q ⟨.own, .lst ds⟩ ρ1
  | .lcIf tg it c elt own, ρ, Q => wpI X p it ρ fun R ρ' =>
    lcW R.watch (fun r ρ1 k => match tg.set r ρ1 with
      | some ρ2 => wpE (fun _ _ => False) (p || R.held) c ρ2 fun b ρ3 => match boolOf b with
        | some true => wpE (fun _ _ => False) (p || R.held) elt ρ3 fun s ρ4 => match ownD s with
          | some d => k (some d) (wipeR ρ4 (own.map (·.2)))
          | none => False
        | some false => k none (wipeR ρ3 (own.map (·.2)))
        | none => False
      | none => False) R.rows [] (wipeR ρ' (own.map (·.2))) fun ds ρ1 => Q ⟨.own, .lst ds⟩ ρ1
def wpAs (X : Ex → REnv → Prop) (p : Bool) : Es → REnv → (List Arg → REnv → Prop) → Prop
  | .nil, ρ, Q => Q [] ρ
  | .cons (.var i) es, ρ, Q => match ρ[i]? with
    | some (some _) => wpAs X p es ρ fun as ρ' => Q (.late i :: as) ρ'
    | _ => False
  | .cons e es, ρ, Q => wpE X p e ρ fun s ρ' => wpAs X (p || heldB ⟨none, s.m, s.d⟩) es ρ' fun as ρ2 => Q (.tmp s.m s.d :: as) ρ2
def wpI (X : Ex → REnv → Prop) (p : Bool) : Itr → REnv → (Rows → REnv → Prop) → Prop
  | .seq as, ρ, Q => wpAs X p as ρ fun args ρ' => lateIn args as.vars = true ∧ match rds ρ' args with
    | some [o] => match rowsSeq o with
      | some R => Q R ρ'
      | none => False
    | _ => False
  | .rng as, ρ, Q => wpAs X p as ρ fun args ρ' => match rds ρ' args with
    | some ops => rngWp ops fun R => Q R ρ'
    | none => False
  | .enum as, ρ, Q => wpAs X p as ρ fun args ρ' => lateIn args as.vars = true ∧ match rds ρ' args with
    | some [o] => isLst o.d = true ∧ match rowsEnum o with
      | some R => Q R ρ'
      | none => False
    | _ => False
  | .zip as, ρ, Q => wpAs X p as ρ fun args ρ' => lateIn args as.vars = true ∧ match rds ρ' args with
    | some [x, y] => sameKind x.d y.d = true ∧ match rowsZip x y with
      | some R => Q R ρ'
      | none => False
    | _ => False
end
end
end Wm
namespace Wm
open PySem PySem.Spec PyProof.Rows L2

structure WK where
  nx : REnv → Prop
  rt : D → REnv → Prop
  bk : REnv → Prop
  ct : REnv → Prop
/-- the parts of what is unpacked -/
def partsL (s : SV) : Option (List SV) := match s.d with
  | .w (.tup ws) => some (ws.map sw)
  | .tup ds => some (ds.map (mkSV s.m))
  | .lst ds => match allW ds with
    | some ws => some (ws.map sw)
    | none => none
  | _ => none
def live (ρ : REnv) (i : Nat) : Bool := match ρ[i]? with
  | some (some _) => true
  | _ => false
/-- x[k] = e -/
def setIWp (i : Nat) (d : D) (k : D) (ρ : REnv) (Q : REnv → Prop) : Prop := match ρ[i]? with
  | some (some ⟨.own, .lst ds⟩) => match k with
    | .w (.int j) => match ixN ds.length j with
      | some n => Q (ρ.set i (some ⟨.own, .lst (ds.set n d)⟩))
      | none => False
    | _ => False
  | some (some ⟨.own, .dK kvs⟩) => match k with
    | .w x => match wKey x with
      | some k => isW d = true ∧ kvs.length < sizeLine ∧ Q (ρ.set i (some ⟨.own, .dK (dPut kvs k d)⟩))
      | none => False
    | _ => False
  | some (some ⟨.own, .dT kvs⟩) => match k with
    | .w (.tup xs) => match wKeys xs with
      | some k => isW d = true ∧ kvs.length < sizeLine ∧ Q (ρ.set i (some ⟨.own, .dT (dPut kvs k d)⟩))
      | none => False
    | _ => False
  | _ => False
section
variable (T : Tab) (X : Ex → REnv → Prop)
mutual
def wpS (p : Bool) : S → REnv → WK → Prop
  | .asg i e, ρ, k => wpE T X p e ρ fun s ρ' => k.nx (ρ'.set i (some s))
  | .unp is (.var j), ρ, k => match rd ρ (.late j) with
    | some o => match partsL ⟨o.pm, o.d⟩ with
      | some ss => match setAll is ss ρ with
        | some ρ' => k.nx ρ'
        | none => False
      | none => False
    | none => False
  | .unp is e, ρ, k => wpE T X p e ρ fun s ρ' => match partsL s with
    | some ss => match setAll is ss ρ' with
      | some ρ2 => k.nx ρ2
      | none => False
    | none => False
  | .par2 i j a b, ρ, k => wpAs T X p (.cons a (.cons b .nil)) ρ fun args ρ' => match tks p ρ' args with
    | some ([x, y], ρ2) => k.nx ((ρ2.set i (some (mkSV .own x))).set j (some (mkSV .own y)))
    | _ => False
  | .setI i kx e, ρ, k => live ρ i = true ∧ wpAs T X p (.cons e (.cons kx .nil)) ρ fun args ρ' => match args with
    | [ae, ak] => match rd ρ' ak with
      | some ok => match putIn ρ' ae with
        | some (d, ρ2) => setIWp i d ok.d ρ2 k.nx
        | none => False
      | none => False
    | _ => False
  | .expr e, ρ, k => wpE T X p e ρ fun _ ρ' => k.nx ρ'
  | .ret e, ρ, k => wpE T X p e ρ fun s ρ' => match ownD s with
    | some d => k.rt d ρ'
    | none => False
  | .retN, ρ, k => k.rt (.w .non) ρ
  | .ifS c a b, ρ, k => wpE T X p c ρ fun s ρ' => match boolOf s with
    | some true => wpSs p a ρ' k
    | some false => wpSs p b ρ' k
    | none => False
  | .forS tg it body, ρ, k => wpI T X p it ρ fun R ρ' =>
    forW R.watch (fun r ρ1 q => match tg.set r ρ1 with
      | some ρ2 => wpSs (p || R.held) body ρ2 { nx := q, rt := k.rt, bk := k.nx, ct := q }
      | none => False) R.rows ρ' k.nx
  | .whl c body, ρ, k => ∃ I : Nat → REnv → Prop, (∃ m, I m ρ) ∧ ∀ m ρ, I m ρ → wpE T X p c ρ fun s ρ1 => match boolOf s with
    | some true => wpSs p body ρ1 { nx := fun ρ' => ∃ m', m' < m ∧ I m' ρ', rt := k.rt, bk := k.nx, ct := fun ρ' => ∃ m', m' < m ∧ I m' ρ' }
    | some false => k.nx ρ1
    | none => False
  | .brk, ρ, k => k.bk ρ
  | .cnt, ρ, k => k.ct ρ
  | .pass, ρ, k => k.nx ρ
  | .stuck, _, _ => False
def wpSs (p : Bool) : Ss → REnv → WK → Prop
  | .nil, ρ, k => k.nx ρ
  | .cons s ss, ρ, k => wpS p s ρ { k with nx := fun ρ' => wpSs p ss ρ' k }
end
end
structure Def where
  ps : List Str
  N : List Str
  sig : List Bool
  body : Ss
def initE : List Bool → List D → REnv
  | b :: bs, d :: ds => some (mkSV (if b then .own else .par) d) :: initE bs ds
  | _, _ => []
def startE (f : Def) (ds : List D) : REnv := initE f.sig ds ++ List.replicate (f.N.length - ds.length) none
/-- what the parameters that are handed over to be written hold at the end -/
def outsOf : List Bool → REnv → Option (List D)
  | [], _ => some []
  | false :: bs, _ :: ρ => outsOf bs ρ
  | true :: bs, some ⟨.own, d⟩ :: ρ => match outsOf bs ρ with
    | some ds => some (d :: ds)
    | none => none
  | _, _ => none
def wpFn (T : Tab) (f : Def) (ds : List D) (Q : D → List D → Prop) (X : Ex → List D → Prop) : Prop :=
  wpSs T (fun x ρ => match outsOf f.sig ρ with
    | some outs => X x outs
    | none => False) false f.body (startE f ds)
    { nx := fun ρ => match outsOf f.sig ρ with
        | some outs => Q (.w .non) outs
        | none => False
      rt := fun d ρ => match outsOf f.sig ρ with
        | some outs => Q d outs
        | none => False
      bk := fun _ => False
      ct := fun _ => False }

def vName : Expr → Option Str
  | .Name x _ => some x
  | _ => none
def vBin : Expr → Option (Expr × Operator × Expr)
  | .BinOp a o b _ => some (a, o, b)
  | _ => none
def vUn : Expr → Option (UnaryOp × Expr)
  | .UnaryOp o a _ => some (o, a)
  | _ => none
def vCmp : Expr → Option (Expr × List CmpOp × List Expr)
  | .Compare a o b _ => some (a, o, b)
  | _ => none
def vBool : Expr → Option (BoolOp × List Expr × Pos)
  | .BoolOp o a p => some (o, a, p)
  | _ => none
def vIf : Expr → Option (Expr × Expr × Expr)
  | .IfExp c a b _ => some (c, a, b)
  | _ => none
def vCall : Expr → Option (Expr × List Expr × List Keyword × Pos)
  | .Call f a k p => some (f, a, k, p)
  | _ => none
def vAttr : Expr → Option (Expr × Str × Pos)
  | .Attribute e a p => some (e, a, p)
  | _ => none
def vSub : Expr → Option (Expr × Expr)
  | .Subscript a b _ => some (a, b)
  | _ => none
def vSlice : Expr → Option (Option Expr × Option Expr × Option Expr)
  | .Slice a b c _ => some (a, b, c)
  | _ => none
def vList : Expr → Option (List Expr)
  | .List es _ => some es
  | _ => none
def vTuple : Expr → Option (List Expr)
  | .Tuple es _ _ => some es
  | _ => none
def vConst : Expr → Option Const
  | .Constant c _ _ => some c
  | _ => none
def vLc : Expr → Option (Expr × List Comprehension × Scope)
  | .ListComp e g s _ => some (e, g, s)
  | _ => none
/-- nothing with a star, no set, no slice -/
def plainE : Expr → Bool
  | .Starred .. => false
  | .Set .. => false
  | .Slice .. => false
  | .NamedExpr .. => false
  | _ => true
def notComp : Expr → Bool
  | .ListComp .. => false
  | .SetComp .. => false
  | .DictComp .. => false
  | _ => true
def visB (sc : Scope) (x : Str) : Bool := match sc.names.lookup x with
  | some .local => true
  | some .cell => true
  | some .free => true
  | _ => false
def locB (sc : Scope) (x : Str) : Bool := match sc.names.lookup x with
  | some .local => true
  | some .cell => true
  | _ => false
def glB (sc : Scope) (x : Str) : Bool := match sc.names.lookup x with
  | some .globalImplicit => true
  | _ => false
def okName (x : Str) : Bool := !(x == ("__debug__" : Str)) && !(x == ("__classdict__" : Str)) && !(decide (x = "__name__"))
def chkVar (N : List Str) (sc : Scope) (i : Nat) (e : Expr) : Bool := match vName e with
  | some x => decide (N[i]? = some x) && visB sc x && okName x
  | none => false
/-- a slot that is stored to -/
def chkSt (N : List Str) (sc : Scope) (i : Nat) (e : Expr) : Bool := match vName e with
  | some x => decide (N[i]? = some x) && locB sc x && okName x
  | none => false
def chkSts (N : List Str) (sc : Scope) : List Nat → List Expr → Bool
  | [], [] => true
  | i :: is, e :: es => chkSt N sc i e && chkSts N sc is es
  | _, _ => false
def chkTg (N : List Str) (sc : Scope) : Tg → Expr → Bool
  | .one i, e => chkSt N sc i e
  | .tup is, e => match vTuple e with
    | some es => chkSts N sc is es
    | none => false
def chkGl (sc : Scope) (x : Str) (e : Expr) : Bool := match vName e with
  | some y => decide (y = x) && glB sc x && okName x
  | none => false
def opBin : Bin → Operator
  | .add => .Add | .sub => .Sub | .mul => .Mult | .fdiv => .FloorDiv | .mod => .Mod | .pow => .Pow | .bor => .BitOr
def opCmp : Cmp → CmpOp
  | .eq => .Eq | .ne => .NotEq | .lt => .Lt | .le => .LtE | .gt => .Gt | .ge => .GtE
  | .isN => .Is | .notN => .IsNot | .inn => .In | .notin => .NotIn
def chkCst : W → Const → Bool
  | .non, .none => true
  | .bl b, .bool c => b == c
  | .int i, .int j => decide (i = j)
  | .str s, .str t => decide (s = t)
  | _, _ => false
/-- the built-in's name, by the operation -/
def primName : Prim → Option Str
  | .len => some "len" | .sorted => some "sorted" | .list => some "list" | .tuple => some "tuple"
  | .all => some "all" | .any => some "any" | .sum => some "sum" | .min1 => some "min" | .max1 => some "max"
  | .min2 => some "min" | .max2 => some "max" | .abs => some "abs" | .int => some "int"
  | _ => none
def mthName : Mth → Str
  | .append => "append" | .extend => "extend" | .insert => "insert" | .pop0 => "pop" | .pop1 => "pop" | .reverse => "reverse" | .clear => "clear"
def Es.len : Es → Nat
  | .nil => 0
  | .cons _ es => es.len + 1
def chkMinus1 (e : Expr) : Bool := match e with
  | .UnaryOp .USub (.Constant (.int 1) _ _) _ => true
  | _ => false
/-- the second argument of isinstance -/
def chkTys (sc : Scope) (tys : List String) (e : Expr) : Bool := match e, tys with
  | .Tuple es _ _, tys => decide (es.length = tys.length) && (es.zip tys).all (fun p => chkGl sc (Str.ofString p.2) p.1) && decide (tys.length ≤ 10)
  | e, [t] => chkGl sc (Str.ofString t) e
  | _, _ => false
def okTy (t : String) : Bool := t == "int" || t == "bool" || t == "str" || t == "list" || t == "tuple" || t == "dict"
def linesEq (a c : Pos) : Bool := a.endLine == c.line
structure CkT where
  cs : List (Str × Int)
  fs : List Str
  pr : List Nat
def Itr.ws : Itr → List Nat
  | .seq as => as.vars
  | .rng _ => []
  | .enum as => as.vars
  | .zip as => as.vars
def noArgs : Mth → Bool
  | .pop0 => true | .reverse => true | .clear => true
  | _ => false
/-- what may be a test -/
def tstE : E → Bool
  | .not a => tstE a
  | .and a b => tstE a && tstE b
  | .or a b => tstE a && tstE b
  | .op (.cmp _) _ => true
  | .chain .. => true
  | .call .. => true
  | .var _ => true
  | .cst _ => true
  | .op .all _ => true
  | .op .any _ => true
  | .op .idx _ => true
  | .op (.isi _) _ => true
  | _ => false
mutual
def chkE (CS : CkT) (N : List Str) (sc : Scope) : E → Expr → Bool
  | .var i, e => chkVar N sc i e
  | .cst x, e => match vConst e with
    | some c => chkCst x c
    | none => false
  | .glob x n, e => chkGl sc x e && decide (CS.cs.lookup x = some n)
  | .op (.bin b) (.cons x (.cons y .nil)), e => match vBin e with
    | some (l, o, r) => decide (o = opBin b) && chkE CS N sc x l && chkE CS N sc y r
    | none => false
  | .op (.cmp c) (.cons x (.cons y .nil)), e => match vCmp e with
    | some (l, [o], [r]) => plainE r && decide (o = opCmp c) && chkE CS N sc x l && chkE CS N sc y r
    | _ => false
  | .op .neg (.cons x .nil), e => match vUn e with
    | some (.USub, a) => chkE CS N sc x a
    | _ => false
  | .op .idx (.cons x (.cons y .nil)), e => match vSub e with
    | some (a, b) => plainE b && chkE CS N sc x a && chkE CS N sc y b
    | none => false
  | .op .rev (.cons x .nil), e => match vSub e with
    | some (a, b) => (match vSlice b with
      | some (none, none, some m) => chkMinus1 m
      | _ => false) && chkE CS N sc x a
    | none => false
  | .op (.slice false false) (.cons x .nil), e => match vSub e with
    | some (a, b) => (match vSlice b with
      | some (none, none, none) => true
      | _ => false) && chkE CS N sc x a
    | none => false
  | .op (.slice true false) (.cons x (.cons y .nil)), e => match vSub e with
    | some (a, b) => match vSlice b with
      | some (some l, none, none) => chkE CS N sc x a && chkE CS N sc y l
      | _ => false
    | none => false
  | .op (.slice false true) (.cons x (.cons y .nil)), e => match vSub e with
    | some (a, b) => match vSlice b with
      | some (none, some l, none) => chkE CS N sc x a && chkE CS N sc y l
      | _ => false
    | none => false
  | .op (.slice true true) (.cons x (.cons y (.cons z .nil))), e => match vSub e with
    | some (a, b) => match vSlice b with
      | some (some l, some h, none) => chkE CS N sc x a && chkE CS N sc y l && chkE CS N sc z h
      | _ => false
    | none => false
  | .op .lst as, e => match vList e with
    | some es => decide (as.len ≤ 1000) && chkEs CS N sc as es
    | none => false
  | .op .tup as, e => match vTuple e with
    | some es => decide (as.len ≤ 1000) && chkEs CS N sc as es
    | none => false
  | .op .dnewK .nil, e => match e with
    | .Dict [] [] _ => true
    | _ => false
  | .op .dnewT .nil, e => match e with
    | .Dict [] [] _ => true
    | _ => false
  | .op (.isi tys) (.cons x .nil), e => match vCall e with
    | some (f, [a, t], [], _) => chkGl sc "isinstance" f && plainE a && chkE CS N sc x a && chkTys sc tys t && tys.all okTy
    | _ => false
  | .op o (.cons x as), e => match primName o with
    | some n => match vCall e with
      | some (f, es, [], _) => chkGl sc n f && chkEs CS N sc (.cons x as) es
      | _ => false
    | none => false
  | .and a b, e => match vBool e with
    | some (.And, [x, y], _) => chkE CS N sc a x && chkE CS N sc b y
    | some (.And, x :: y :: z :: r, p) => chkE CS N sc a x && chkE CS N sc b (.BoolOp .And (y :: z :: r) p)
    | _ => false
  | .or a b, e => match vBool e with
    | some (.Or, [x, y], _) => chkE CS N sc a x && chkE CS N sc b y
    | some (.Or, x :: y :: z :: r, p) => chkE CS N sc a x && chkE CS N sc b (.BoolOp .Or (y :: z :: r) p)
    | _ => false
  | .not a, e => match vUn e with
    | some (.Not, x) => chkE CS N sc a x
    | _ => false
  | .ite c a b, e => match vIf e with
    | some (x, y, z) => tstE c && chkE CS N sc c x && chkE CS N sc a y && chkE CS N sc b z
    | none => false
  | .chain o1 o2 a b c, e => match vCmp e with
    | some (x, [p, q], [y, z]) => plainE z && decide (p = opCmp o1) && decide (q = opCmp o2) && chkE CS N sc a x && chkE CS N sc b y && chkE CS N sc c z
    | _ => false
  | .call f as, e => match vCall e with
    | some (g, es, [], _) => CS.fs.contains f && chkGl sc f g && chkEs CS N sc as es
    | _ => false
  | .mth m i as, e => match vCall e with
    | some (g, es, [], cp) => match vAttr g with
      | some (o, a, ap) => decide (a = mthName m) && decide (es.length < 30) && (es.isEmpty == noArgs m) && linesEq ap cp && chkVar N sc i o && chkEs CS N sc as es
      | none => false
    | _ => false
  | .lc tg it elt own, e => match vLc e with
    | some (x, [⟨t, i, [], 0⟩], s2) => blkC N sc s2 own && chkTg N s2 tg t && tg.slots.all (fun j => (own.map (·.2)).contains j) && own.all (fun q => !CS.pr.contains q.2 && !it.ws.contains q.2) && chkI CS N sc it t i && chkE CS N s2 elt x
    | _ => false
  | .lcIf tg it c elt own, e => match vLc e with
    | some (x, [⟨t, i, [g], 0⟩], s2) => tstE c && blkC N sc s2 own && chkTg N s2 tg t && tg.slots.all (fun j => (own.map (·.2)).contains j) && own.all (fun q => !CS.pr.contains q.2 && !it.ws.contains q.2) && chkI CS N sc it t i && chkE CS N s2 c g && chkE CS N s2 elt x
    | _ => false
  | .op _ _, _ => false
def chkEs (CS : CkT) (N : List Str) (sc : Scope) : Es → List Expr → Bool
  | .nil, [] => true
  | .cons e es, x :: xs => plainE x && chkE CS N sc e x && chkEs CS N sc es xs
  | _, _ => false
def chkI (CS : CkT) (N : List Str) (sc : Scope) : Itr → Expr → Expr → Bool
  | .seq (.cons e .nil), _, x => plainE x && chkE CS N sc e x
  | .seq _, _, _ => false
  | .rng as, _, x => match vCall x with
    | some (f, es, [], _) => (decide (as.len = 1) || decide (as.len = 2) || decide (as.len = 3)) && chkGl sc "range" f && chkEs CS N sc as es
    | _ => false
  | .enum as, t, x => match vCall x with
    | some (f, es, [], _) => (vTuple t).isSome && chkGl sc "enumerate" f && decide (as.len = 1) && chkEs CS N sc as es
    | _ => false
  | .zip as, t, x => match vCall x with
    | some (f, es, [], _) => (vTuple t).isSome && chkGl sc "zip" f && decide (as.len = 2) && chkEs CS N sc as es
    | _ => false
end
def vAssign : Stmt → Option (List Expr × Expr)
  | .Assign t e _ => some (t, e)
  | _ => none
def simpleV : Expr → Bool
  | .Name .. => true
  | .Call .. => true
  | .Subscript .. => true
  | _ => false
/-- name = [..] -/
def lcSet (sc : Scope) (t e : Expr) : Bool := match t, e with
  | .Name y py, .ListComp _ _ s p => (match sc.names.lookup y with | some .local => true | _ => false) && py.line == p.line && !(s.names.any fun (n, k) => n == y && (k == .local || k == .cell))
  | _, _ => false
mutual
def chkS (CS : CkT) (N : List Str) (sc : Scope) : S → Stmt → Bool
  | .asg i e, st => match st with
    | .Assign [t] x _ => chkSt N sc i t && !CS.pr.contains i && chkE CS N sc e x && (notComp x || lcSet sc t x)
    | _ => false
  | .unp is e, st => match st with
    | .Assign [t] x _ => chkTg N sc (.tup is) t && is.all (fun i => !CS.pr.contains i) && chkE CS N sc e x && simpleV x
    | _ => false
  | .setI i k e, st => match st with
    | .Assign [.Subscript o kk _] x _ => chkVar N sc i o && chkE CS N sc k kk && chkE CS N sc e x && notComp x
    | _ => false
  | .expr e, st => match st with
    | .Expr x _ => chkE CS N sc e x && notComp x
    | _ => false
  | .ret e, st => match st with
    | .Return (some x) _ => chkE CS N sc e x
    | _ => false
  | .retN, st => match st with
    | .Return none _ => true
    | _ => false
  | .ifS c a b, st => match st with
    | .If x l r _ => tstE c && chkE CS N sc c x && chkSs CS N sc a l && chkSs CS N sc b r
    | _ => false
  | .forS tg it body, st => match st with
    | .For t x l [] _ => chkTg N sc tg t && tg.slots.all (fun j => !(it.ws ++ CS.pr).contains j) && chkI CS N sc it t x && chkSs { CS with pr := it.ws ++ CS.pr } N sc body l
    | _ => false
  | .whl c body, st => match st with
    | .While x l [] _ => tstE c && chkE CS N sc c x && chkSs CS N sc body l
    | _ => false
  | .brk, st => match st with
    | .Break _ => true
    | _ => false
  | .cnt, st => match st with
    | .Continue _ => true
    | _ => false
  | .pass, st => match st with
    | .Pass _ => true
    | .Expr (.Constant (.str _) _ _) _ => true
    | _ => false
  | .stuck, _ => true
  | .par2 _ _ _ _, _ => false
def chkSs (CS : CkT) (N : List Str) (sc : Scope) : Ss → List Stmt → Bool
  | .nil, [] => true
  | .cons s ss, st :: sts => chkS CS N sc s st && chkSs CS N sc ss sts
  | _, _ => false
end
end Wm
namespace Wm
open PySem PySem.Spec PyProof.Rows L2

def itm (ρ : REnv) (G : List (V × SV)) (σ : St) : Itm
  | .inl i => match ρ[i]?, σ[i]? with
    | some (some s), some (some v) => some (v, s)
    | _, _ => none
  | .inr j => G[j]?
theorem itm_slot {ρ : REnv} {G : List (V × SV)} {σ : St} {i : Nat} {s : SV} {v : V} (h : ρ[i]? = some (some s)) (h' : σ[i]? = some (some v)) : itm ρ G σ (.inl i) = some (v, s) := by
  show (match ρ[i]?, σ[i]? with | some (some s), some (some v) => some (v, s) | _, _ => none) = _
  rw [h, h']
theorem itm_slot_inv {ρ : REnv} {G : List (V × SV)} {σ : St} {i : Nat} {x : V × SV} (h : itm ρ G σ (.inl i) = some x) : ρ[i]? = some (some x.2) ∧ σ[i]? = some (some x.1) := by
  have h' : (match ρ[i]?, σ[i]? with | some (some s), some (some v) => some (v, s) | _, _ => none) = some x := h
  split at h'
  · rename_i e e'
    cases h'
    exact ⟨e, e'⟩
  · cases h'
theorem itm_push {ρ : REnv} {G : List (V × SV)} {σ : St} {y : V × SV} : itm ρ (G ++ [y]) σ = put (itm ρ G σ) (.inr G.length) (some y) := by
  funext k
  cases k with
  | inl i => rw [put_ne (by simp)]; rfl
  | inr j =>
    by_cases h : j = G.length
    · subst h
      rw [put_same]
      show (G ++ [y])[G.length]? = _
      simp
    · rw [put_ne (by simpa using h)]
      show (G ++ [y])[j]? = G[j]?
      by_cases h2 : j < G.length
      · rw [List.getElem?_append_left h2]
      · rw [List.getElem?_eq_none (by simp; omega), List.getElem?_eq_none (by omega)]
theorem itm_set {ρ : REnv} {G : List (V × SV)} {σ : St} {i : Nat} {s : SV} {v : V} (h : i < ρ.length) (h' : i < σ.length) : itm (ρ.set i (some s)) G (σ.set i (some v)) = put (itm ρ G σ) (.inl i) (some (v, s)) := by
  funext k
  cases k with
  | inr j => rw [put_ne (by simp)]; rfl
  | inl j =>
    by_cases e : j = i
    · subst e
      rw [put_same]
      exact itm_slot (List.getElem?_set_self h) (List.getElem?_set_self h')
    · rw [put_ne (by simpa using e)]
      show (match (ρ.set i (some s))[j]?, (σ.set i (some v))[j]? with | some (some s), some (some v) => some (v, s) | _, _ => none) = _
      rw [List.getElem?_set_ne (Ne.symm e), List.getElem?_set_ne (Ne.symm e)]
      rfl
theorem itm_upd {ρ : REnv} {G : List (V × SV)} {σ : St} {i : Nat} {s : SV} {v : V} (h : i < ρ.length) (h' : σ[i]? = some (some v)) : itm (ρ.set i (some s)) G σ = put (itm ρ G σ) (.inl i) (some (v, s)) := by
  funext k
  cases k with
  | inr j => rw [put_ne (by simp)]; rfl
  | inl j =>
    by_cases e : j = i
    · subst e
      rw [put_same]
      exact itm_slot (List.getElem?_set_self h) h'
    · rw [put_ne (by simpa using e)]
      show (match (ρ.set i (some s))[j]?, σ[j]? with | some (some s), some (some v) => some (v, s) | _, _ => none) = _
      rw [List.getElem?_set_ne (Ne.symm e)]
      rfl
theorem itm_kill {ρ : REnv} {G : List (V × SV)} {σ : St} {i : Nat} : itm (ρ.set i none) G σ = put (itm ρ G σ) (.inl i) none := by
  funext k
  cases k with
  | inr j => rw [put_ne (by simp)]; rfl
  | inl j =>
    by_cases e : j = i
    · subst e
      rw [put_same]
      show (match (ρ.set j none)[j]?, σ[j]? with | some (some s), some (some v) => some (v, s) | _, _ => none) = _
      by_cases h : j < ρ.length
      · rw [List.getElem?_set_self h]
      · rw [List.getElem?_eq_none (by simpa using h)]
    · rw [put_ne (by simpa using e)]
      show (match (ρ.set i none)[j]?, σ[j]? with | some (some s), some (some v) => some (v, s) | _, _ => none) = _
      rw [List.getElem?_set_ne (Ne.symm e)]
      rfl

structure Act where
  K : PySem.W.Frag
  H0 : Hp
  M : Addr → Prop
  pr : List (Nat × V)
structure Rel (a : Act) (ρ : REnv) (G : List (V × SV)) (σ : St) (H : Hp) : Prop where
  len : ρ.length = σ.length
  sl : ∀ (i : Nat) (s : SV), ρ[i]? = some (some s) → ∃ v, σ[i]? = some (some v)
  pr : ∀ q ∈ a.pr, σ[q.1]? = some (some q.2)
  ext : ∀ b o, a.H0 b = some o → ¬ a.M b → H b = some o
  good : ∃ F, Good a.K a.H0 a.M H (itm ρ G σ) F
section
variable {a : Act} {ρ ρ' : REnv} {G G' T : List (V × SV)} {σ : St} {H H' : Hp}
theorem Rel.fresh (r : Rel a ρ G σ H) {p : Addr} (n : H p = none) : a.H0 p = none ∨ a.M p := by
  by_cases m : a.M p
  · exact .inr m
  · cases e : a.H0 p with
    | none => exact .inl rfl
    | some o => rw [r.ext p o e m] at n; cases n
theorem Rel.ext_new (r : Rel a ρ G σ H) {p : Addr} {o : HO} (n : H p = none) : ∀ b u, a.H0 b = some u → ¬ a.M b → upd H p o b = some u := fun b u e m => by
  have h := r.ext b u e m
  rw [upd_ne (ne_of_none h n)]
  exact h
/-- fewer things held -/
theorem Rel.less (r : Rel a ρ G σ H) (hl : ρ'.length = ρ.length) (h : ∀ (i : Nat) (s : SV), ρ'[i]? = some (some s) → ρ[i]? = some (some s)) (hG : ∀ (j : Nat) x, G'[j]? = some x → G[j]? = some x) : Rel a ρ' G' σ H := by
  obtain ⟨F, g⟩ := r.good
  refine ⟨hl.trans r.len, fun i s e => r.sl i s (h i s e), r.pr, r.ext, F, g.sub fun k x e => ?_⟩
  cases k with
  | inl i =>
    obtain ⟨e1, e2⟩ := itm_slot_inv e
    exact itm_slot (h i _ e1) e2
  | inr j => exact hG j x e
theorem Rel.pre (r : Rel a ρ (G ++ T) σ H) : Rel a ρ G σ H := r.less rfl (fun _ _ e => e) fun j x e => by
  have hj : j < G.length := (List.getElem?_eq_some_iff.mp e).1
  rw [List.getElem?_append_left hj]
  exact e
theorem Rel.kill (r : Rel a ρ G σ H) (i : Nat) : Rel a (ρ.set i none) G σ H := r.less (by simp) (fun j s e => by
  by_cases h : j = i
  · subst h
    by_cases hl : j < ρ.length
    · rw [List.getElem?_set_self hl] at e; cases e
    · rw [List.getElem?_eq_none (by simpa using hl)] at e; cases e
  · rw [List.getElem?_set_ne (Ne.symm h)] at e; exact e) fun _ _ e => e
/-- a new thing behind -/
theorem Rel.push {v : V} {s : SV} {F : Ky → List Addr} {F0 : List Addr} (r : Rel a ρ G σ H) (ext : ∀ b u, a.H0 b = some u → ¬ a.M b → H' b = some u) (g : Good a.K a.H0 a.M H' (put (itm ρ G σ) (.inr G.length) (some (v, s))) (putF F (.inr G.length) F0)) :
    Rel a ρ (G ++ [(v, s)]) σ H' := ⟨r.len, r.sl, r.pr, ext, _, by rw [itm_push]; exact g⟩
theorem Rel.pushW {v : V} {x : W} {m : Mode} (r : Rel a ρ G σ H) (h : RW a.K H x v) : Rel a ρ (G ++ [(v, ⟨m, .w x⟩)]) σ H := by
  obtain ⟨F, g⟩ := r.good
  exact r.push r.ext (g.addW h)
/-- the heap has a new object that nothing holds -/
theorem Rel.laid (r : Rel a ρ G σ H) {p : Addr} {o : HO} (n : H p = none) : Rel a ρ G σ (upd H p o) := by
  obtain ⟨F, g⟩ := r.good
  exact ⟨r.len, r.sl, r.pr, r.ext_new n, F, g.laid n⟩
/-- a new own list of flat things -/
theorem Rel.pushL {vs : List V} {ws : List W} (r : Rel a ρ G σ H) {p : Addr} (n : H p = none) (h : RWs a.K H ws vs) : Rel a ρ (G ++ [(.ref p, ⟨.own, .lst (ws.map .w)⟩)]) σ (upd H p (.lst vs)) := by
  obtain ⟨F, g⟩ := r.good
  refine r.push (r.ext_new n) (g.made Pool.nil n (r.fresh n) ⟨p, vs, [], rfl, upd_same, ?_, rfl⟩)
  exact RDs.flat.mpr ⟨h.stab (Stab.new n), rfl⟩
/-- a new flat tuple -/
theorem Rel.pushT {vs : List V} {ws : List W} (r : Rel a ρ G σ H) {p : Addr} (n : H p = none) (h : RWs a.K H ws vs) : Rel a ρ (G ++ [(.ref p, sw (.tup ws))]) σ (upd H p (.tup vs)) :=
  (r.laid n).pushW ⟨p, vs, rfl, upd_same, h.stab (Stab.new n)⟩

/-- no borrowed thing that can be written is held meanwhile -/
def pf (p : Bool) (G : List (V × SV)) : Prop := p = false → ∀ y ∈ G, y.2.m = .brw → isW y.2.d = true
inductive AR (σ : St) : List Arg → List (V × SV) → List V → Prop
  | nil : AR σ [] [] []
  | late {i : Nat} {v : V} {as : List Arg} {T : List (V × SV)} {vs : List V} : σ[i]? = some (some v) → AR σ as T vs → AR σ (.late i :: as) T (v :: vs)
  | tmp {m : Mode} {d : D} {v : V} {as : List Arg} {T : List (V × SV)} {vs : List V} : AR σ as T vs → AR σ (.tmp m d :: as) ((v, ⟨m, d⟩) :: T) (v :: vs)
/-- where an operand is held -/
def OpAt (it : Itm) (n : Nat) (o : Op) (v : V) : Prop := ∃ k, it k = some (v, ⟨o.m, o.d⟩) ∧ (∀ i, o.s = some i → k = .inl i) ∧ (o.s = none → ∃ j, k = .inr j ∧ n ≤ j)
theorem AR.ops (r : Rel a ρ G σ H) : ∀ {as : List Arg} {T : List (V × SV)} {vs : List V} {G0 : List (V × SV)} {ops : List Op} {n : Nat}, AR σ as T vs → rds ρ as = some ops → G = G0 ++ T → n ≤ G0.length →
    Paired (fun o v => OpAt (itm ρ G σ) n o v) ops vs
  | [], _, _, _, _, _, .nil, e, _, _ => by
    have e : some ([] : List Op) = some _ := e
    cases e
    exact .nil
  | .late i :: as, T, _, G0, ops, n, .late h h', e, hG, hn => by
    simp only [rds, rd] at e
    split at e
    · rename_i o eo
      split at eo
      · rename_i s es
        cases eo
        split at e
        · rename_i os eos
          cases e
          exact .cons ⟨.inl i, itm_slot es h, fun j q => by cases q; rfl, fun q => by cases q⟩ (AR.ops r h' eos hG hn)
        · cases e
      · cases eo
    · cases e
  | .tmp m d :: as, _, _, G0, ops, n, .tmp (v := v) (T := T) h', e, hG, hn => by
    simp only [rds, rd] at e
    split at e
    · rename_i os eos
      cases e
      refine .cons ⟨.inr G0.length, ?_, fun j q => (by cases q), fun _ => ⟨_, rfl, hn⟩⟩ (AR.ops r h' eos (G0 := G0 ++ [(v, ⟨m, d⟩)]) (by rw [hG]; simp) (by rw [List.length_append]; omega))
      show G[G0.length]? = _
      rw [hG]
      simp
    · cases e
theorem OpAt.rd (r : Rel a ρ G σ H) {n : Nat} {o : Op} {v : V} (h : OpAt (itm ρ G σ) n o v) : ∃ F, RD a.K H o.d v F := by
  obtain ⟨F, g⟩ := r.good
  obtain ⟨k, e, _⟩ := h
  exact ⟨_, g.rep e⟩
end
end Wm
namespace Wm
open PySem PySem.Spec PyProof.Rows L2

structure POk (a : Act) (o : Prim) (r : List V → Hp → VK → Prop) : Prop where
  run : ∀ {args : List Arg} {p : Bool} {ρ : REnv} {G T : List (V × SV)} {σ : St} {H : Hp} {vs : List V} {Q0 : SV → REnv → Prop} {Q : VK},
  prim o args p ρ Q0 → pf p G → AR σ args T vs → Rel a ρ (G ++ T) σ H → (∀ s ρ' v H', Q0 s ρ' → Rel a ρ' (G ++ [(v, s)]) σ H' → Q v H') → r vs H Q
/-- operations that take nothing: primB alone -/
def isB : Prim → Bool
  | .lst => false | .tup => false | .dnewK => false | .dnewT => false
  | _ => true
theorem prim_isB {o : Prim} (h : isB o = true) {args : List Arg} {p : Bool} {ρ : REnv} {Q : SV → REnv → Prop} (q : prim o args p ρ Q) : ∃ ops, rds ρ args = some ops ∧ primB o ops fun s => Q s ρ := by
  cases o <;> first
    | (simp only [prim] at q
       split at q
       · rename_i ops e
         exact ⟨ops, e, q⟩
       · exact q.elim)
    | exact (Bool.false_ne_true h).elim
/-- an operation's proof, by its operands -/
theorem POk.ofB {a : Act} {o : Prim} {r : List V → Hp → VK → Prop} (hb : isB o = true)
    (h : ∀ {ops : List Op} {ρ : REnv} {G T : List (V × SV)} {σ : St} {H : Hp} {vs : List V} {Q1 : SV → Prop} {Q : VK}, primB o ops Q1 → Rel a ρ (G ++ T) σ H → Paired (fun o v => OpAt (itm ρ (G ++ T) σ) G.length o v) ops vs →
      (∀ (v : V) (s : SV) (H' : Hp), Q1 s → Rel a ρ (G ++ [(v, s)]) σ H' → Q v H') → r vs H Q) : POk a o r := by
  refine ⟨fun {args p ρ G T σ H vs Q0 Q} q _ ar rel k => ?_⟩
  obtain ⟨ops, e, q⟩ := prim_isB hb q
  exact h q rel (ar.ops rel e rfl (Nat.le_refl _)) fun v s H' q1 hr => k s ρ v H' q1 hr
section
variable {a : Act} {ρ : REnv} {G T : List (V × SV)} {σ : St} {H : Hp}
theorem Rel.flatAll (r : Rel a ρ (G ++ T) σ H) {x : W} {v : V} (h : RW a.K H x v) : Rel a ρ (G ++ [(v, sw x)]) σ H := r.pre.pushW h
theorem Rel.listAll (r : Rel a ρ (G ++ T) σ H) {ws : List W} {vs : List V} {p : Addr} (n : H p = none) (h : RWs a.K H ws vs) : Rel a ρ (G ++ [(.ref p, ⟨.own, .lst (ws.map .w)⟩)]) σ (upd H p (.lst vs)) := r.pre.pushL n h
theorem Rel.tupAll (r : Rel a ρ (G ++ T) σ H) {ws : List W} {vs : List V} {p : Addr} (n : H p = none) (h : RWs a.K H ws vs) : Rel a ρ (G ++ [(.ref p, sw (.tup ws))]) σ (upd H p (.tup vs)) := r.pre.pushT n h
end
theorem paired2 {α β : Type} {R : α → β → Prop} {x y : α} {vs : List β} (h : Paired R [x, y] vs) : ∃ v u, vs = [v, u] ∧ R x v ∧ R y u := by
  cases h with
  | cons a h => cases h with
    | cons b h => cases h; exact ⟨_, _, rfl, a, b⟩
theorem paired1 {α β : Type} {R : α → β → Prop} {x : α} {vs : List β} (h : Paired R [x] vs) : ∃ v, vs = [v] ∧ R x v := by
  cases h with
  | cons a h => cases h; exact ⟨_, rfl, a⟩
theorem paired3 {α β : Type} {R : α → β → Prop} {x y z : α} {vs : List β} (h : Paired R [x, y, z] vs) : ∃ v u w, vs = [v, u, w] ∧ R x v ∧ R y u ∧ R z w := by
  cases h with
  | cons a h => cases h with
    | cons b h => cases h with
      | cons c h => cases h; exact ⟨_, _, _, rfl, a, b, c⟩
theorem allW_map : ∀ {ds : List D} {ws : List W}, allW ds = some ws → ds = ws.map .w
  | [], _, h => by cases h; rfl
  | .w x :: ds, ws, h => by
    simp only [allW] at h
    split at h
    · rename_i xs e
      cases h
      rw [allW_map e]
      rfl
    · cases h
  | .tup _ :: _, _, h => by cases h
  | .lst _ :: _, _, h => by cases h
  | .fz _ :: _, _, h => by cases h
  | .dK _ :: _, _, h => by cases h
  | .dT _ :: _, _, h => by cases h
theorem allW_of (ws : List W) : allW (ws.map .w) = some ws := by
  induction ws with
  | nil => rfl
  | cons x r ih => show (match allW (r.map .w) with | some xs => some (x :: xs) | none => none) = _; rw [ih]

abbrev R2' := V → V → Hp → VK → Prop
abbrev l2 (r : R2') : List V → Hp → VK → Prop := fun vs H Q => ∃ x y, vs = [x, y] ∧ r x y H Q
abbrev l1 (r : V → Hp → VK → Prop) : List V → Hp → VK → Prop := fun vs H Q => ∃ x, vs = [x] ∧ r x H Q
section
variable {a : Act}
theorem POk.of2 {o : Prim} {r : R2'} (hb : isB o = true) (hs : ∀ ops Q, primB o ops Q → ∃ x y, ops = [x, y])
    (h : ∀ {x y : Op} {ρ : REnv} {G T : List (V × SV)} {σ : St} {H : Hp} {v u : V} {Q1 : SV → Prop} {Q : VK}, primB o [x, y] Q1 → Rel a ρ (G ++ T) σ H → OpAt (itm ρ (G ++ T) σ) G.length x v → OpAt (itm ρ (G ++ T) σ) G.length y u →
      (∀ (v : V) (s : SV) (H' : Hp), Q1 s → Rel a ρ (G ++ [(v, s)]) σ H' → Q v H') → r v u H Q) : POk a o (l2 r) :=
  POk.ofB hb fun {ops ρ G T σ H vs Q1 Q} q rel pr k => by
    obtain ⟨x, y, rfl⟩ := hs _ _ q
    obtain ⟨v, u, rfl, h1, h2⟩ := paired2 pr
    exact ⟨v, u, rfl, h q rel h1 h2 k⟩
theorem POk.of1 {o : Prim} {r : V → Hp → VK → Prop} (hb : isB o = true) (hs : ∀ ops Q, primB o ops Q → ∃ x, ops = [x])
    (h : ∀ {x : Op} {ρ : REnv} {G T : List (V × SV)} {σ : St} {H : Hp} {v : V} {Q1 : SV → Prop} {Q : VK}, primB o [x] Q1 → Rel a ρ (G ++ T) σ H → OpAt (itm ρ (G ++ T) σ) G.length x v →
      (∀ (v : V) (s : SV) (H' : Hp), Q1 s → Rel a ρ (G ++ [(v, s)]) σ H' → Q v H') → r v H Q) : POk a o (l1 r) :=
  POk.ofB hb fun {ops ρ G T σ H vs Q1 Q} q rel pr k => by
    obtain ⟨x, rfl⟩ := hs _ _ q
    obtain ⟨v, rfl, h1⟩ := paired1 pr
    exact ⟨v, rfl, h q rel h1 k⟩
/-- ints alone -/
def rInt (C : Int → Int → Prop) (f : Int → Int → Int) : R2' := fun x y H Q => ∃ i j, x = .int i ∧ y = .int j ∧ C i j ∧ Q (.int (f i j)) H
theorem pI2_inv {C : Int → Int → Prop} {f : Int → Int → Int} {x y : D} {Q : SV → Prop} (h : pI2 C f x y Q) : ∃ i j, x = .w (.int i) ∧ y = .w (.int j) ∧ C i j ∧ Q (sw (.int (f i j))) := by
  unfold pI2 at h
  split at h
  · exact ⟨_, _, rfl, rfl, h⟩
  · exact h.elim
theorem POk.ints {o : Prim} {C : Int → Int → Prop} {f : Int → Int → Int} (hb : isB o = true) (hs : ∀ ops Q, primB o ops Q → ∃ x y, ops = [x, y]) (he : ∀ x y Q, primB o [x, y] Q → pI2 C f x.d y.d Q) : POk a o (l2 (rInt C f)) :=
  POk.of2 hb hs fun {x y ρ G T σ H v u Q1 Q} q rel h1 h2 k => by
    obtain ⟨i, j, e1, e2, c, q⟩ := pI2_inv (he _ _ _ q)
    obtain ⟨F1, r1⟩ := h1.rd rel
    obtain ⟨F2, r2⟩ := h2.rd rel
    rw [e1] at r1
    rw [e2] at r2
    exact ⟨i, j, r1.1, r2.1, c, k _ _ _ q (rel.flatAll rfl)⟩
theorem bin2 {b : Bin} : ∀ ops Q, primB (.bin b) ops Q → ∃ x y, ops = [x, y] := fun ops Q h => by
  unfold primB at h
  split at h <;> first
    | (rename_i e; cases e; exact ⟨_, _, rfl⟩)
    | exact h.elim
    | (rename_i e; cases e)
theorem ok_sub : POk a (.bin .sub) (l2 (rInt (fun _ _ => True) (· - ·))) := POk.ints rfl bin2 fun _ _ _ h => h
theorem ok_fdiv : POk a (.bin .fdiv) (l2 (rInt CDivW (· / ·))) := POk.ints rfl bin2 fun _ _ _ h => h
theorem ok_mod : POk a (.bin .mod) (l2 (rInt (fun _ j => 0 < j) (· % ·))) := POk.ints rfl bin2 fun _ _ _ h => h
theorem ok_pow : POk a (.bin .pow) (l2 (rInt CPow fun i j => i ^ j.toNat)) := POk.ints rfl bin2 fun _ _ _ h => h
theorem ok_bor : POk a (.bin .bor) (l2 (rInt (fun _ _ => True) Builtin.bitOr)) := POk.ints rfl bin2 fun _ _ _ h => h
end
end Wm
namespace Wm
open PySem PySem.Spec PyProof.Rows L2

section
variable {K : PySem.W.Frag} {H : Hp}
theorem RWs.ints : ∀ {is : List Int} {vs : List V}, RWs K H (is.map .int) vs → vs = is.map V.int
  | [], _, h => h
  | _ :: _, _, h => by
    obtain ⟨v, r, rfl, q, t⟩ := h
    rw [RWs.ints t, show v = _ from q]
    rfl
theorem RWs.ofInts : ∀ (is : List Int), RWs K H (is.map .int) (is.map V.int)
  | [] => rfl
  | _ :: is => ⟨_, _, rfl, rfl, RWs.ofInts is⟩
theorem RWs.bls : ∀ {is : List Bool} {vs : List V}, RWs K H (is.map .bl) vs → vs = is.map V.bl
  | [], _, h => h
  | _ :: _, _, h => by
    obtain ⟨v, r, rfl, q, t⟩ := h
    rw [RWs.bls t, show v = _ from q]
    rfl
theorem intsOf_map : ∀ {ws : List W} {is : List Int}, intsOf ws = some is → ws = is.map .int
  | [], _, h => by cases h; rfl
  | .int i :: r, _, h => by
    simp only [intsOf] at h
    split at h
    · rename_i e; cases h; rw [intsOf_map e]; rfl
    · cases h
  | .non :: _, _, h => by cases h
  | .bl _ :: _, _, h => by cases h
  | .str _ :: _, _, h => by cases h
  | .tup _ :: _, _, h => by cases h
theorem intsOf_of : ∀ (is : List Int), intsOf (is.map .int) = some is
  | [] => rfl
  | i :: r => by show (match intsOf (r.map .int) with | some is => some (i :: is) | none => none) = _; rw [intsOf_of r]
theorem boolsOf_map : ∀ {ws : List W} {is : List Bool}, boolsOf ws = some is → ws = is.map .bl
  | [], _, h => by cases h; rfl
  | .bl i :: r, _, h => by
    simp only [boolsOf] at h
    split at h
    · rename_i e; cases h; rw [boolsOf_map e]; rfl
    · cases h
  | .non :: _, _, h => by cases h
  | .int _ :: _, _, h => by cases h
  | .str _ :: _, _, h => by cases h
  | .tup _ :: _, _, h => by cases h
theorem boolsOf_of : ∀ (is : List Bool), boolsOf (is.map .bl) = some is
  | [] => rfl
  | i :: r => by show (match boolsOf (r.map .bl) with | some is => some (i :: is) | none => none) = _; rw [boolsOf_of r]
mutual
theorem RW.dp : ∀ {x : W} {v : V}, RW K H x v → Dp K H v (pyW x)
  | .non, _, h => by rw [show _ = _ from h]; exact .non
  | .bl b, _, h => by rw [show _ = _ from h]; exact .bl b
  | .int b, _, h => by rw [show _ = _ from h]; exact .int b
  | .str b, _, h => by rw [show _ = _ from h]; exact .str b
  | .tup xs, _, h => by
    obtain ⟨a, vs, rfl, q, r⟩ := h
    exact .tup (SqT.of q) (RWs.dp r)
theorem RWs.dp : ∀ {xs : List W} {vs : List V}, RWs K H xs vs → DpAll K H vs (pyWs xs)
  | [], _, h => by rw [show _ = _ from h]; exact .nil
  | x :: xs, _, h => by
    obtain ⟨v, r, rfl, q, t⟩ := h
    exact .cons (RW.dp q) (RWs.dp t)
end
mutual
theorem RD.dp : ∀ {d : D} {v : V} {F : List Addr}, RD K H d v F → noDict d = true → Dp K H v (pyD d)
  | .w _, _, _, h, _ => h.1.dp
  | .tup _, _, _, h, n => by
    obtain ⟨a, vs, rfl, q, r⟩ := h
    exact .tup (SqT.of q) (RDs.dp r n)
  | .lst _, _, _, h, n => by
    obtain ⟨a, vs, G, rfl, q, r, rfl⟩ := h
    exact .lst (SqL.of q) (RDs.dp r n)
  | .fz _, _, _, h, n => by
    obtain ⟨a, vs, rfl, q, r, rfl⟩ := h
    exact .lst q.sq r.dp
  | .dK _, _, _, _, n => by cases n
  | .dT _, _, _, _, n => by cases n
theorem RDs.dp : ∀ {ds : List D} {vs : List V} {F : List Addr}, RDs K H ds vs F → noDicts ds = true → DpAll K H vs (pyDs ds)
  | [], _, _, h, _ => by rw [h.1]; exact .nil
  | d :: ds, _, _, h, n => by
    obtain ⟨v, r, F1, F2, rfl, q, t, rfl⟩ := h
    have n' : (noDict d && noDicts ds) = true := n
    rw [Bool.and_eq_true] at n'
    exact .cons (RD.dp q n'.1) (RDs.dp t n'.2)
end
end

section
variable {a : Act}
def rAdd (K : PySem.W.Frag) : R2' := fun x y H Q =>
  (∃ i j, x = .int i ∧ y = .int j ∧ Q (.int (i + j)) H) ∨ rCatA K x y H Q ∨ (∃ i j, x = .str i ∧ y = .str j ∧ i.length + j.length ≤ sizeLine ∧ Q (.str (i ++ j)) H) ∨ rCat x y H Q
theorem ok_add : POk a (.bin .add) (l2 (rAdd a.K)) := POk.of2 rfl bin2 fun {x y ρ G T σ H v u Q1 Q} q rel h1 h2 k => by
  obtain ⟨F1, r1⟩ := h1.rd rel
  obtain ⟨F2, r2⟩ := h2.rd rel
  have q : pAdd x.d y.d Q1 := q
  unfold pAdd at q
  split at q
  · rename_i i j e1 e2
    rw [e1] at r1
    rw [e2] at r2
    exact .inl ⟨i, j, r1.1, r2.1, k _ _ _ q (rel.flatAll rfl)⟩
  · rename_i xs ys e1 e2
    rw [e1] at r1
    rw [e2] at r2
    obtain ⟨hz, q⟩ := q
    obtain ⟨⟨b1, vs, rfl, s1, t1⟩, _⟩ := r1
    obtain ⟨⟨b2, us, rfl, s2, t2⟩, _⟩ := r2
    refine .inr (.inl ⟨b1, b2, vs, us, rfl, rfl, SqT.of s1, SqT.of s2, by rw [← t1.length, ← t2.length]; exact hz, fun e => ?_, fun _ e => ?_, fun _ _ p n => ?_⟩)
    · subst e
      have e0 : xs = [] := List.eq_nil_of_length_eq_zero t1.length
      subst e0
      exact k _ _ _ q (rel.flatAll ⟨b2, us, rfl, s2, t2⟩)
    · subst e
      have e0 : ys = [] := List.eq_nil_of_length_eq_zero t2.length
      subst e0
      rw [List.append_nil] at q
      exact k _ _ _ q (rel.flatAll ⟨b1, vs, rfl, s1, t1⟩)
    · exact k _ _ _ q (rel.tupAll n (t1.append t2))
  · rename_i i j e1 e2
    rw [e1] at r1
    rw [e2] at r2
    exact .inr (.inr (.inl ⟨i, j, r1.1, r2.1, q.1, k _ _ _ q.2 (rel.flatAll rfl)⟩))
  · rename_i xs ys e1 e2
    rw [e1] at r1
    rw [e2] at r2
    obtain ⟨hz, q⟩ := q
    split at q
    · rename_i ws e
      obtain ⟨b1, vs, G1, rfl, s1, t1, _⟩ := r1
      obtain ⟨b2, us, G2, rfl, s2, t2, _⟩ := r2
      have t := t1.append t2
      rw [allW_map e] at t
      refine .inr (.inr (.inr ⟨b1, b2, vs, us, rfl, rfl, s1, s2, by rw [← t1.length, ← t2.length]; exact hz, fun p n => ?_⟩))
      exact k _ _ _ q (rel.listAll n (RDs.flat.mp t).1)
    · exact q.elim
  · exact q.elim
def rMul : R2' := fun x y H Q => (∃ i j, x = .int i ∧ y = .int j ∧ CMul i j ∧ Q (.int (i * j)) H) ∨ rRep x y H Q
theorem RWs.rep {K : PySem.W.Frag} {H : Hp} {ws : List W} {vs : List V} (h : RWs K H ws vs) : ∀ n : Nat, RWs K H (List.replicate n ws).flatten (List.replicate n vs).flatten
  | 0 => rfl
  | n + 1 => by
    rw [List.replicate_succ, List.replicate_succ, List.flatten_cons, List.flatten_cons]
    exact h.append (RWs.rep h n)
theorem map_rep (ws : List W) : ∀ n : Nat, (List.replicate n (ws.map D.w)).flatten = ((List.replicate n ws).flatten).map D.w
  | 0 => rfl
  | n + 1 => by rw [List.replicate_succ, List.replicate_succ, List.flatten_cons, List.flatten_cons, List.map_append, map_rep ws n]
theorem ok_mul : POk a (.bin .mul) (l2 rMul) := POk.of2 rfl bin2 fun {x y ρ G T σ H v u Q1 Q} q rel h1 h2 k => by
  obtain ⟨F1, r1⟩ := h1.rd rel
  obtain ⟨F2, r2⟩ := h2.rd rel
  have q : pMul x.d y.d Q1 := q
  unfold pMul at q
  split at q
  · rename_i i j e1 e2
    rw [e1] at r1
    rw [e2] at r2
    exact .inl ⟨i, j, r1.1, r2.1, q.1, k _ _ _ q.2 (rel.flatAll rfl)⟩
  · rename_i xs j e1 e2
    rw [e1] at r1
    rw [e2] at r2
    obtain ⟨c1, c2, hz, q⟩ := q
    split at q
    · rename_i ws e
      obtain ⟨b1, vs, G1, rfl, s1, t1, _⟩ := r1
      refine .inr ⟨b1, j, vs, rfl, r2.1, s1, c1, c2, by rw [← t1.length]; exact hz, fun p n => ?_⟩
      rw [map_rep] at q
      rw [allW_map e] at t1
      exact k _ _ _ q (rel.listAll n ((RDs.flat.mp t1).1.rep _))
    · exact q.elim
  · exact q.elim
theorem cmp2 {c : Cmp} : ∀ ops Q, primB (.cmp c) ops Q → ∃ x y, ops = [x, y] := fun ops Q h => by
  unfold primB at h
  split at h <;> first
    | (rename_i e; cases e; exact ⟨_, _, rfl⟩)
    | exact h.elim
    | (rename_i e; cases e)
theorem shaped_int (i : Int) : SeqAt.shaped (.int i) = true := by
  unfold SeqAt.shaped
  simp [PyData.canLay0, PyData.depth]
theorem eqv_int (i j : Int) : PyData.eqv (.int i) (.int j) = decide (i = j) := by
  show (i == j) = _
  exact Bool.beq_eq_decide_eq i j
def rEqN (K : PySem.W.Frag) (neg : Bool) : R2' := fun x y H Q => ∃ d e, Dp K H x d ∧ Dp K H y e ∧ SeqAt.shaped d = true ∧ SeqAt.shaped e = true ∧ Q (.bl (if neg then !PyData.eqv d e else PyData.eqv d e)) H
theorem pEq_ok {neg : Bool} {x y : D} {Q : SV → Prop} (q : pEq neg x y Q) : eqOk x ∧ eqOk y ∧ Q (sw (.bl (if neg then !PyData.eqv (pyD x) (pyD y) else PyData.eqv (pyD x) (pyD y)))) := by
  unfold pEq at q
  split at q
  · rename_i i j
    refine ⟨⟨rfl, shaped_int i⟩, ⟨rfl, shaped_int j⟩, ?_⟩
    rw [show PyData.eqv (pyD (.w (.int i))) (pyD (.w (.int j))) = decide (i = j) from eqv_int i j]
    exact q
  · exact q
theorem ok_eqN {c : Cmp} {neg : Bool} (he : ∀ x y Q, primB (.cmp c) [x, y] Q → pEq neg x.d y.d Q) : POk a (.cmp c) (l2 (rEqN a.K neg)) := POk.of2 rfl cmp2 fun {x y ρ G T σ H v u Q1 Q} q rel h1 h2 k => by
  obtain ⟨F1, r1⟩ := h1.rd rel
  obtain ⟨F2, r2⟩ := h2.rd rel
  obtain ⟨o1, o2, q⟩ := pEq_ok (he _ _ _ q)
  exact ⟨_, _, r1.dp o1.1, r2.dp o2.1, o1.2, o2.2, k _ _ _ q (rel.flatAll rfl)⟩
theorem ok_eq : POk a (.cmp .eq) (l2 (rEqN a.K false)) := ok_eqN fun _ _ _ h => h
theorem ok_ne : POk a (.cmp .ne) (l2 (rEqN a.K true)) := ok_eqN fun _ _ _ h => h
def rOrd (f : Int → Int → Bool) : R2' := fun x y H Q => ∃ i j, x = .int i ∧ y = .int j ∧ Q (.bl (f i j)) H
theorem ok_ord {c : Cmp} {f : Int → Int → Bool} (he : ∀ x y Q, primB (.cmp c) [x, y] Q → pOrd f x.d y.d Q) : POk a (.cmp c) (l2 (rOrd f)) := POk.of2 rfl cmp2 fun {x y ρ G T σ H v u Q1 Q} q rel h1 h2 k => by
  obtain ⟨F1, r1⟩ := h1.rd rel
  obtain ⟨F2, r2⟩ := h2.rd rel
  have q := he _ _ _ q
  unfold pOrd at q
  split at q
  · rename_i i j e1 e2
    rw [e1] at r1
    rw [e2] at r2
    exact ⟨i, j, r1.1, r2.1, k _ _ _ q (rel.flatAll rfl)⟩
  · exact q.elim
def rLt (K : PySem.W.Frag) : R2' := fun x y H Q => rOrd (fun i j => decide (i < j)) x y H Q ∨ rLtT K x y H Q
theorem ok_lt : POk a (.cmp .lt) (l2 (rLt a.K)) := POk.of2 rfl cmp2 fun {x y ρ G T σ H v u Q1 Q} q rel h1 h2 k => by
  obtain ⟨F1, r1⟩ := h1.rd rel
  obtain ⟨F2, r2⟩ := h2.rd rel
  have q : pLt x.d y.d Q1 := q
  unfold pLt at q
  split at q
  · rename_i i j e1 e2
    rw [e1] at r1
    rw [e2] at r2
    exact .inl ⟨i, j, r1.1, r2.1, k _ _ _ q (rel.flatAll rfl)⟩
  · rename_i xs ys e1 e2
    rw [e1] at r1
    rw [e2] at r2
    split at q
    · rename_i is js ei ej
      obtain ⟨⟨b1, vs, rfl, s1, t1⟩, _⟩ := r1
      obtain ⟨⟨b2, us, rfl, s2, t2⟩, _⟩ := r2
      rw [intsOf_map ei] at t1
      rw [intsOf_map ej] at t2
      rw [t1.ints] at s1
      rw [t2.ints] at s2
      exact .inr ⟨b1, b2, is, js, rfl, rfl, SqT.of s1, SqT.of s2, k _ _ _ q (rel.flatAll rfl)⟩
    · exact q.elim
  · exact q.elim
theorem ok_le : POk a (.cmp .le) (l2 (rOrd fun i j => decide (i ≤ j))) := ok_ord fun _ _ _ h => h
theorem ok_gt : POk a (.cmp .gt) (l2 (rOrd fun i j => decide (j < i))) := ok_ord fun _ _ _ h => h
theorem ok_ge : POk a (.cmp .ge) (l2 (rOrd fun i j => decide (j ≤ i))) := ok_ord fun _ _ _ h => h
theorem RD.non_iff {K : PySem.W.Frag} {H : Hp} {d : D} {v : V} {F : List Addr} (h : RD K H d v F) : decide (v = .non) = isNon d := by
  cases d with
  | w x =>
    cases x with
    | non => rw [show v = _ from h.1]; rfl
    | bl b => rw [show v = _ from h.1]; rfl
    | int b => rw [show v = _ from h.1]; rfl
    | str b => rw [show v = _ from h.1]; rfl
    | tup b => obtain ⟨_, _, e, _⟩ := h.1; rw [e]; rfl
  | tup b => obtain ⟨_, _, e, _⟩ := h; rw [e]; rfl
  | lst b => obtain ⟨_, _, _, e, _⟩ := h; rw [e]; rfl
  | fz b => obtain ⟨_, _, e, _⟩ := h; rw [e]; rfl
  | dK b => obtain ⟨_, _, _, e, _⟩ := h; rw [e]; rfl
  | dT b => obtain ⟨_, _, _, e, _⟩ := h; rw [e]; rfl
def rIs (neg : Bool) : R2 := fun x y H Q => (y = .non ∧ Q (.bl (if neg then !decide (x = .non) else decide (x = .non))) H) ∨ ∃ b c, x = .bl b ∧ y = .bl c ∧ Q (.bl (if neg then !(b == c) else b == c)) H
theorem isD_inv {a b : D} {r : Bool} (h : isD a b = some r) : (b = .w .non ∧ r = isNon a) ∨ ∃ x y, a = .w (.bl x) ∧ b = .w (.bl y) ∧ r = (x == y) := by
  unfold isD at h
  split at h
  · injection h with h
    exact .inl ⟨rfl, h.symm⟩
  · split at h
    · injection h with h
      exact .inr ⟨_, _, rfl, rfl, h.symm⟩
    · cases h
  · cases h
theorem ok_isN : POk a (.cmp .isN) (l2 (rIs false)) := POk.of2 rfl cmp2 fun {x y ρ G T σ H v u Q1 Q} q rel h1 h2 k => by
  obtain ⟨F1, r1⟩ := h1.rd rel
  obtain ⟨F2, r2⟩ := h2.rd rel
  have q : pCmp .isN x.d y.d Q1 := q
  unfold pCmp at q
  simp only at q
  split at q
  · rename_i r e
    rcases isD_inv e with ⟨e1, rfl⟩ | ⟨b, c, e1, e2, rfl⟩
    · rw [e1] at r2
      exact .inl ⟨r2.1, k _ _ _ q (by rw [← r1.non_iff]; exact rel.flatAll rfl)⟩
    · rw [e1] at r1
      rw [e2] at r2
      exact .inr ⟨b, c, r1.1, r2.1, k _ _ _ q (rel.flatAll rfl)⟩
  · exact q.elim
theorem ok_notN : POk a (.cmp .notN) (l2 (rIs true)) := POk.of2 rfl cmp2 fun {x y ρ G T σ H v u Q1 Q} q rel h1 h2 k => by
  obtain ⟨F1, r1⟩ := h1.rd rel
  obtain ⟨F2, r2⟩ := h2.rd rel
  have q : pCmp .notN x.d y.d Q1 := q
  unfold pCmp at q
  simp only at q
  split at q
  · rename_i r e
    rcases isD_inv e with ⟨e1, rfl⟩ | ⟨b, c, e1, e2, rfl⟩
    · rw [e1] at r2
      exact .inl ⟨r2.1, k _ _ _ q (by rw [← r1.non_iff]; exact rel.flatAll rfl)⟩
    · rw [e1] at r1
      rw [e2] at r2
      exact .inr ⟨b, c, r1.1, r2.1, k _ _ _ q (rel.flatAll rfl)⟩
  · exact q.elim
end
end Wm
namespace Wm
open PySem PySem.Spec PyProof.Rows L2

section
variable {K : PySem.W.Frag} {H0 H : Hp} {M : Addr → Prop} {it it' : Itm} {F : Ky → List Addr}
/-- a part of a temporary that goes -/
theorem Good.partOff (g : Good K H0 M H it F) {j n : Nat} {x : V × SV} (e : it (.inr j) = some x) (hs : ∀ k y, it' k = some y → it k = some y ∧ k ≠ .inr j) {v : V} {d : D} {F' : List Addr} (r : RD K H d v F') (hf : F'.Sublist (F (.inr j))) :
    Good K H0 M H (put it' (.inr n) (some (v, ⟨x.2.m, d⟩))) (putF F (.inr n) F') := by
  have g' : Good K H0 M H it' F := g.sub fun k y q => (hs k y q).1
  refine g'.add (s := ⟨x.2.m, d⟩) r (fun m => (g.nd e m).sublist hf) (fun m a ha => g.mine e m a (hf.subset ha)) (fun m k y _ q b a ha => ?_) (fun m1 m2 k y _ q o a ha hb => ?_) (fun m k y a _ q b t => ?_) (fun m k y a _ q o t hb => ?_)
  · obtain ⟨q, n⟩ := hs k y q
    exact g.dis (Ne.symm n) e q m b a (hf.subset ha)
  · obtain ⟨q, n⟩ := hs k y q
    exact g.dis n q e o m2 a ha (hf.subset hb)
  · obtain ⟨q, n⟩ := hs k y q
    exact g.top (Ne.symm n) e q m b (hf.subset t)
  · obtain ⟨q, n⟩ := hs k y q
    exact g.top n q e o m t (hf.subset hb)
end
section
variable {a : Act} {ρ : REnv} {G T : List (V × SV)} {σ : St} {H : Hp}
theorem itm_pre {k : Ky} {y : V × SV} (h : itm ρ G σ k = some y) : itm ρ (G ++ T) σ k = some y := by
  cases k with
  | inl i => exact h
  | inr j =>
    have h : G[j]? = some y := h
    show (G ++ T)[j]? = some y
    rw [List.getElem?_append_left (List.getElem?_eq_some_iff.mp h).1]
    exact h
theorem itm_lt {j : Nat} {y : V × SV} (h : itm ρ G σ (.inr j) = some y) : j < G.length := (List.getElem?_eq_some_iff.mp (show G[j]? = some y from h)).1
theorem mkSV_non {m : Mode} {d : D} (h : isW d = false) : mkSV m d = ⟨m, d⟩ := by
  cases d <;> first | rfl | cases h
theorem Rel.partAll (r : Rel a ρ (G ++ T) σ H) {o : Op} {v : V} (h : OpAt (itm ρ (G ++ T) σ) G.length o v) {d' : D} {P : V → Prop}
    (hp : ∀ F, RD a.K H o.d v F → ∃ v' F', P v' ∧ RD a.K H d' v' F' ∧ F'.Sublist F ∧ ∀ b, topOf (v, ⟨o.m, o.d⟩) = some b → F.Nodup → b ∉ F') : ∃ v', P v' ∧ Rel a ρ (G ++ [(v', mkSV o.pm d')]) σ H := by
  obtain ⟨F, g⟩ := r.good
  obtain ⟨k, e, hk, hk'⟩ := h
  obtain ⟨v', F', pv, rd', sub, nt⟩ := hp _ (g.rep e)
  refine ⟨v', pv, ?_⟩
  cases hw : isW d' with
  | true =>
    cases d' with
    | w x => exact r.pre.pushW rd'.1
    | tup _ => cases hw
    | lst _ => cases hw
    | fz _ => cases hw
    | dK _ => cases hw
    | dT _ => cases hw
  | false =>
    rw [mkSV_non hw]
    cases es : o.s with
    | some i =>
      have ek := hk i es
      subst ek
      have e2 : itm ρ G σ (.inl i) = some (v, ⟨o.m, o.d⟩) := e
      have g2 : Good a.K a.H0 a.M H (itm ρ G σ) F := g.sub fun _ _ q => itm_pre q
      have q := g2.part (k0 := .inr G.length) e2 rd' (fun b hb => sub.subset hb) (fun m b hb => nt b (edge_inl hb) (g.nd e m))
      have em : o.pm = partMode o.m := by
        unfold Op.pm
        rw [es]
        cases o.m <;> rfl
      rw [em]
      exact r.pre.push r.ext q
    | none =>
      obtain ⟨j, ek, hj⟩ := hk' es
      subst ek
      have q := g.partOff (it' := itm ρ G σ) (n := G.length) e (fun k y hy => ⟨itm_pre hy, fun z => by
        subst z
        exact absurd (itm_lt hy) (Nat.not_lt.mpr hj)⟩) rd' sub
      have em : o.pm = o.m := by
        unfold Op.pm
        rw [es]
      rw [em]
      exact r.pre.push r.ext q
end
section
variable {K : PySem.W.Frag} {H : Hp}
/-- an item of a list or tuple -/
theorem RD.item {d d' : D} {ds : List D} {v : V} {j : Nat} (hs : seqOf d = some ds) (hj : ds[j]? = some d') {F : List Addr} (r : RD K H d v F) (m : Mode) :
    ∃ b vs v' F', v = .ref b ∧ (SqL K H b vs ∨ SqT K H b vs) ∧ vs.length = ds.length ∧ vs[j]? = some v' ∧ RD K H d' v' F' ∧ F'.Sublist F ∧ ∀ c, topOf (v, ⟨m, d⟩) = some c → F.Nodup → c ∉ F' := by
  cases d with
  | w x =>
    cases x with
    | tup xs =>
      cases hs
      obtain ⟨⟨b, vs, rfl, q, t⟩, rfl⟩ := r
      rw [List.getElem?_map] at hj
      obtain ⟨y, ey, rfl⟩ := Option.map_eq_some_iff.mp hj
      obtain ⟨v', e', r'⟩ := t.get ey
      exact ⟨b, vs, v', [], rfl, .inr (SqT.of q), by rw [List.length_map, t.length], e', ⟨r', rfl⟩, List.Sublist.refl _, fun c hc => by cases hc⟩
    | non => cases hs
    | bl _ => cases hs
    | int _ => cases hs
    | str _ => cases hs
  | tup xs =>
    cases hs
    obtain ⟨b, vs, rfl, q, t⟩ := r
    obtain ⟨v', G', e', r', s'⟩ := t.get hj
    exact ⟨b, vs, v', G', rfl, .inr (SqT.of q), t.length.symm, e', r', s', fun c hc => by cases hc⟩
  | lst xs =>
    cases hs
    obtain ⟨b, vs, G, rfl, q, t, rfl⟩ := r
    obtain ⟨v', G', e', r', s'⟩ := t.get hj
    refine ⟨b, vs, v', G', rfl, .inl (SqL.of q), t.length.symm, e', r', s'.trans (List.sublist_cons_self _ _), fun c hc nd hm => ?_⟩
    cases hc
    exact (List.nodup_cons.mp nd).1 (s'.subset hm)
  | fz xs =>
    cases hs
    obtain ⟨b, vs, rfl, q, t, rfl⟩ := r
    rw [List.getElem?_map] at hj
    obtain ⟨y, ey, rfl⟩ := Option.map_eq_some_iff.mp hj
    obtain ⟨v', e', r'⟩ := t.get ey
    exact ⟨b, vs, v', [], rfl, .inl q.sq, by rw [List.length_map, t.length], e', ⟨r', rfl⟩, List.Sublist.refl _, fun c hc => by cases hc⟩
  | dK _ => cases hs
  | dT _ => cases hs
/-- a list or tuple as it is read -/
theorem RD.seq {d : D} {ds : List D} {v : V} (hs : seqOf d = some ds) {F : List Addr} (r : RD K H d v F) : ∃ b vs, v = .ref b ∧ (SqL K H b vs ∨ SqT K H b vs) ∧ vs.length = ds.length := by
  cases d with
  | w x =>
    cases x with
    | tup xs =>
      cases hs
      obtain ⟨⟨b, vs, rfl, q, t⟩, rfl⟩ := r
      exact ⟨b, vs, rfl, .inr (SqT.of q), by rw [List.length_map, t.length]⟩
    | non => cases hs
    | bl _ => cases hs
    | int _ => cases hs
    | str _ => cases hs
  | tup xs =>
    cases hs
    obtain ⟨b, vs, rfl, q, t⟩ := r
    exact ⟨b, vs, rfl, .inr (SqT.of q), t.length.symm⟩
  | lst xs =>
    cases hs
    obtain ⟨b, vs, G, rfl, q, t, rfl⟩ := r
    exact ⟨b, vs, rfl, .inl (SqL.of q), t.length.symm⟩
  | fz xs =>
    cases hs
    obtain ⟨b, vs, rfl, q, t, rfl⟩ := r
    exact ⟨b, vs, rfl, .inl q.sq, by rw [List.length_map, t.length]⟩
  | dK _ => cases hs
  | dT _ => cases hs
/-- a flat list as it is read -/
theorem RD.flatL {d : D} {ws : List W} {v : V} (hs : flatOf d = some ws) {F : List Addr} (r : RD K H d v F) : ∃ b vs, v = .ref b ∧ SqL K H b vs ∧ RWs K H ws vs := by
  cases d with
  | lst xs =>
    obtain ⟨b, vs, G, rfl, q, t, rfl⟩ := r
    rw [allW_map hs] at t
    exact ⟨b, vs, rfl, SqL.of q, (RDs.flat.mp t).1⟩
  | fz xs =>
    cases hs
    obtain ⟨b, vs, rfl, q, t, rfl⟩ := r
    exact ⟨b, vs, rfl, q.sq, t⟩
  | w _ => cases hs
  | tup _ => cases hs
  | dK _ => cases hs
  | dT _ => cases hs
theorem RDk.val : ∀ {kvs : List (L2.Key × D)} {us : List (L2.Key × V)} {F : List Addr} (k : L2.Key), RDk K H kvs us F →
    match dFind kvs k with
    | some d => ∃ v G, valV us k = some v ∧ RD K H d v G ∧ G.Sublist F
    | none => valV us k = none
  | [], _, _, k, h => by rw [h.1]; rfl
  | (k', d) :: kvs, _, _, k, h => by
    obtain ⟨v, r, F1, F2, rfl, q, t, rfl⟩ := h
    have ih := RDk.val k t
    by_cases e : k' = k
    · subst e
      have e1 : dFind ((k', d) :: kvs) k' = some d := by simp [dFind, List.find?_cons]
      rw [e1]
      exact ⟨v, F1, valV_pos rfl, q, List.sublist_append_left _ _⟩
    · have e1 : dFind ((k', d) :: kvs) k = dFind kvs k := by simp [dFind, List.find?_cons, e]
      rw [e1]
      have e2 : valV ((k', v) :: r) k = valV r k := valV_neg e
      rw [e2]
      split at ih
      · rename_i ed
        obtain ⟨v', G, h1, h2, h3⟩ := ih
        exact ⟨v', G, h1, h2, h3.trans (List.sublist_append_right _ _)⟩
      · exact ih
theorem RDt.val : ∀ {kvs : List (List L2.Key × D)} {us : List (List L2.Key × V)} {F : List Addr} (k : List L2.Key), RDt K H kvs us F →
    match dFind kvs k with
    | some d => ∃ v G, valV us k = some v ∧ RD K H d v G ∧ G.Sublist F
    | none => valV us k = none
  | [], _, _, k, h => by rw [h.1]; rfl
  | (k', d) :: kvs, _, _, k, h => by
    obtain ⟨v, r, F1, F2, rfl, q, t, rfl⟩ := h
    have ih := RDt.val k t
    by_cases e : k' = k
    · subst e
      have e1 : dFind ((k', d) :: kvs) k' = some d := by simp [dFind, List.find?_cons]
      rw [e1]
      exact ⟨v, F1, valV_pos rfl, q, List.sublist_append_left _ _⟩
    · have e1 : dFind ((k', d) :: kvs) k = dFind kvs k := by simp [dFind, List.find?_cons, e]
      rw [e1]
      have e2 : valV ((k', v) :: r) k = valV r k := valV_neg e
      rw [e2]
      split at ih
      · rename_i ed
        obtain ⟨v', G, h1, h2, h3⟩ := ih
        exact ⟨v', G, h1, h2, h3.trans (List.sublist_append_right _ _)⟩
      · exact ih
theorem RW.key {x : W} {k : L2.Key} {v : V} (e : wKey x = some k) (r : RW K H x v) : v = kV k := by
  cases x with
  | int i => cases e; exact r
  | str i => cases e; exact r
  | non => cases e
  | bl _ => cases e
  | tup _ => cases e
theorem RWs.keys : ∀ {xs : List W} {ks : List L2.Key} {vs : List V}, wKeys xs = some ks → RWs K H xs vs → vs = ks.map kV
  | [], _, _, e, r => by cases e; exact r
  | x :: xs, _, _, e, r => by
    simp only [wKeys] at e
    split at e
    · rename_i k ks e1 e2
      cases e
      obtain ⟨v, t, rfl, q, h⟩ := r
      rw [RW.key e1 q, RWs.keys e2 h]
      rfl
    · cases e
end
end Wm
namespace Wm
open PySem PySem.Spec PyProof.Rows L2

section
variable {a : Act}
theorem one1 {o : Prim} (ho : ∀ Q, primB o [] Q → False) (ho2 : ∀ x y r Q, primB o (x :: y :: r) Q → False) : ∀ ops Q, primB o ops Q → ∃ x, ops = [x]
  | [], Q, h => (ho Q h).elim
  | [x], _, _ => ⟨x, rfl⟩
  | x :: y :: r, Q, h => (ho2 x y r Q h).elim
theorem two2 {o : Prim} (h0 : ∀ Q, primB o [] Q → False) (h1 : ∀ x Q, primB o [x] Q → False) (h3 : ∀ x y z r Q, primB o (x :: y :: z :: r) Q → False) : ∀ ops Q, primB o ops Q → ∃ x y, ops = [x, y]
  | [], Q, h => (h0 Q h).elim
  | [x], Q, h => (h1 x Q h).elim
  | [x, y], _, _ => ⟨x, y, rfl⟩
  | x :: y :: z :: r, Q, h => (h3 x y z r Q h).elim
def rInN (K : PySem.W.Frag) (neg : Bool) : R2' := fun x y H Q =>
  (∃ b o, y = .ref b ∧ DGet H b x o ∧ Q (.bl (if neg then !o.isSome else o.isSome)) H) ∨
  (∃ d ds, Dp K H x d ∧ Dp K H y (.list ds) ∧ SeqAt.shaped d = true ∧ SeqAt.shaped (.list ds) = true ∧ Q (.bl (if neg then !ds.any (fun z => PyData.eqv z d) else ds.any fun z => PyData.eqv z d)) H) ∨
  (∃ d ds, Dp K H x d ∧ Dp K H y (.tuple ds) ∧ SeqAt.shaped d = true ∧ SeqAt.shaped (.tuple ds) = true ∧ Q (.bl (if neg then !ds.any (fun z => PyData.eqv z d) else ds.any fun z => PyData.eqv z d)) H)
theorem pyDs_map : ∀ xs : List W, pyDs (xs.map .w) = pyWs xs
  | [] => rfl
  | x :: xs => by show pyW x :: pyDs (xs.map .w) = _; rw [pyDs_map xs]; rfl
theorem pyD_seq {d : D} {ds : List D} (h : seqOf d = some ds) : pyD d = .list (pyDs ds) ∨ pyD d = .tuple (pyDs ds) := by
  cases d with
  | w x =>
    cases x with
    | tup xs => cases h; right; show PyData.tuple (pyWs xs) = _; rw [pyDs_map]
    | non => cases h
    | bl _ => cases h
    | int _ => cases h
    | str _ => cases h
  | tup xs => cases h; right; rfl
  | lst xs => cases h; left; rfl
  | fz xs => cases h; left; show PyData.list (pyWs xs) = _; rw [pyDs_map]
  | dK _ => cases h
  | dT _ => cases h
theorem ok_inN {c : Cmp} {neg : Bool} (he : ∀ x y Q, primB (.cmp c) [x, y] Q → pIn neg x.d y.d Q) : POk a (.cmp c) (l2 (rInN a.K neg)) := POk.of2 rfl cmp2 fun {x y ρ G T σ H v u Q1 Q} q rel h1 h2 k => by
  obtain ⟨F1, r1⟩ := h1.rd rel
  obtain ⟨F2, r2⟩ := h2.rd rel
  have q := he _ _ _ q
  unfold pIn at q
  split at q
  · rename_i kvs ey
    rw [ey] at r2
    obtain ⟨b, us, G', rfl, hb, hk, _⟩ := r2
    split at q
    · rename_i xw ex
      rw [ex] at r1
      split at q
      · rename_i key ek
        have ev := RW.key ek r1.1
        subst ev
        refine .inl ⟨b, valV us key, rfl, DGet.k hb, ?_⟩
        have hv := RDk.val key hk
        cases ed : dFind kvs key with
        | none =>
          rw [ed] at hv q
          rw [show valV us key = none from hv]
          exact k _ _ _ q (rel.flatAll rfl)
        | some d =>
          rw [ed] at hv q
          obtain ⟨_, _, e, _⟩ := hv
          rw [e]
          exact k _ _ _ q (rel.flatAll rfl)
      · exact q.elim
    · exact q.elim
  · rename_i kvs ey
    rw [ey] at r2
    obtain ⟨b, us, G', rfl, hb, hk, _⟩ := r2
    split at q
    · rename_i xs ex
      rw [ex] at r1
      split at q
      · rename_i key ek
        obtain ⟨⟨b1, vs, rfl, s1, t1⟩, _⟩ := r1
        have ev := RWs.keys ek t1
        subst ev
        refine .inl ⟨b, valV us key, rfl, DGet.t hb s1, ?_⟩
        have hv := RDt.val key hk
        cases ed : dFind kvs key with
        | none =>
          rw [ed] at hv q
          rw [show valV us key = none from hv]
          exact k _ _ _ q (rel.flatAll rfl)
        | some d =>
          rw [ed] at hv q
          obtain ⟨_, _, e, _⟩ := hv
          rw [e]
          exact k _ _ _ q (rel.flatAll rfl)
      · exact q.elim
    · exact q.elim
  · split at q
    · rename_i ds es
      obtain ⟨o1, o2, q⟩ := q
      have d1 := r1.dp o1.1
      have d2 := r2.dp o2.1
      have sh := o2.2
      rcases pyD_seq es with e | e
      · rw [e] at d2 sh
        exact .inr (.inl ⟨_, _, d1, d2, o1.2, sh, k _ _ _ q (rel.flatAll rfl)⟩)
      · rw [e] at d2 sh
        exact .inr (.inr ⟨_, _, d1, d2, o1.2, sh, k _ _ _ q (rel.flatAll rfl)⟩)
    · exact q.elim
theorem ok_in : POk a (.cmp .inn) (l2 (rInN a.K false)) := ok_inN fun _ _ _ h => h
theorem ok_notin : POk a (.cmp .notin) (l2 (rInN a.K true)) := ok_inN fun _ _ _ h => h
def rIdx (K : PySem.W.Frag) : R2' := fun x y H Q => rIxL K x y H Q ∨ rIxT K x y H Q ∨ (∃ b v, x = .ref b ∧ DGet H b y (some v) ∧ Q v H)
theorem atI_ex {α : Type} {xs : List α} {i : Int} {x : α} (e : atI xs i = some x) : ∃ j : Nat, xs[j]? = some x ∧ ∀ {β : Type} (ys : List β) (y : β), ys.length = xs.length → ys[j]? = some y → atI ys i = some y := by
  unfold atI at e
  cases q : ixN xs.length i with
  | none => rw [q] at e; cases e
  | some j =>
    rw [q] at e
    refine ⟨j, e, fun ys y h hy => ?_⟩
    unfold atI
    rw [h, q]
    exact hy
theorem idx2 : ∀ ops Q, primB .idx ops Q → ∃ x y, ops = [x, y] := two2 (fun _ h => h) (fun _ _ h => h) (fun _ _ _ _ _ h => h)
theorem ok_idx : POk a .idx (l2 (rIdx a.K)) := POk.of2 rfl idx2 fun {x y ρ G T σ H v u Q1 Q} q rel h1 h2 k => by
  obtain ⟨F1, r1⟩ := h1.rd rel
  obtain ⟨F2, r2⟩ := h2.rd rel
  have q : pIdx x y.d Q1 := q
  have seqs : ∀ {ds : List D} {i : Int} {d' : D}, seqOf x.d = some ds → y.d = .w (.int i) → atI ds i = some d' → Q1 (mkSV x.pm d') → rIdx a.K v u H Q := fun {ds i d'} es ey ei q1 => by
    rw [ey] at r2
    obtain ⟨j, hj, hget⟩ := atI_ex ei
    obtain ⟨v', ⟨b, vs, rfl, hs, hv'⟩, hrel⟩ := rel.partAll h1 (d' := d') (P := fun v' => ∃ b vs, v = .ref b ∧ (SqL a.K H b vs ∨ SqT a.K H b vs) ∧ atI vs i = some v') fun F hF => by
      obtain ⟨b, vs, v', F', e1, e2, e3, e4, e5, e6, e7⟩ := RD.item es hj hF x.m
      exact ⟨v', F', ⟨b, vs, e1, e2, hget vs v' e3 e4⟩, e5, e6, e7⟩
    rcases hs with hs | hs
    · exact .inl ⟨b, vs, i, v', rfl, r2.1, hs, hv', k _ _ _ q1 hrel⟩
    · exact .inr (.inl ⟨b, vs, i, v', rfl, r2.1, hs, hv', k _ _ _ q1 hrel⟩)
  unfold pIdx at q
  split at q
  · rename_i xs ex
    split at q
    · rename_i i ey
      split at q
      · rename_i w ew
        refine seqs (ds := xs.map .w) (by rw [ex]; rfl) ey (d' := .w w) ?_ q
        obtain ⟨j, hj, hget⟩ := atI_ex ew
        exact hget _ _ (by simp) (by rw [List.getElem?_map, hj]; rfl)
      · exact q.elim
    · exact q.elim
  · rename_i kvs ex
    split at q
    · rename_i xw ey
      rw [ey] at r2
      split at q
      · rename_i key ek
        split at q
        · rename_i d ed
          have ev := RW.key ek r2.1
          subst ev
          obtain ⟨v', ⟨b, rfl, hg⟩, hrel⟩ := rel.partAll h1 (d' := d) (P := fun v' => ∃ b, v = .ref b ∧ DGet H b (kV key) (some v')) fun F hF => by
            rw [ex] at hF
            obtain ⟨b, us, G', rfl, hb, hk, rfl⟩ := hF
            have hv := RDk.val key hk
            rw [ed] at hv
            obtain ⟨v', F', e1, e2, e3⟩ := hv
            refine ⟨v', F', ⟨b, rfl, by rw [← e1]; exact DGet.k hb⟩, e2, e3.trans (List.sublist_cons_self _ _), fun c hc nd hm => ?_⟩
            rw [ex] at hc
            cases hc
            exact (List.nodup_cons.mp nd).1 (e3.subset hm)
          exact .inr (.inr ⟨b, v', rfl, hg, k _ _ _ q hrel⟩)
        · exact q.elim
      · exact q.elim
    · exact q.elim
  · rename_i kvs ex
    split at q
    · rename_i xs ey
      rw [ey] at r2
      split at q
      · rename_i key ek
        split at q
        · rename_i d ed
          obtain ⟨⟨b1, vs, rfl, s1, t1⟩, _⟩ := r2
          have ev := RWs.keys ek t1
          subst ev
          obtain ⟨v', ⟨b, rfl, hg⟩, hrel⟩ := rel.partAll h1 (d' := d) (P := fun v' => ∃ b, v = .ref b ∧ DGet H b (.ref b1) (some v')) fun F hF => by
            rw [ex] at hF
            obtain ⟨b, us, G', rfl, hb, hk, rfl⟩ := hF
            have hv := RDt.val key hk
            rw [ed] at hv
            obtain ⟨v', F', e1, e2, e3⟩ := hv
            refine ⟨v', F', ⟨b, rfl, by rw [← e1]; exact DGet.t hb s1⟩, e2, e3.trans (List.sublist_cons_self _ _), fun c hc nd hm => ?_⟩
            rw [ex] at hc
            cases hc
            exact (List.nodup_cons.mp nd).1 (e3.subset hm)
          exact .inr (.inr ⟨b, v', rfl, hg, k _ _ _ q hrel⟩)
        · exact q.elim
      · exact q.elim
    · exact q.elim
  · split at q
    · rename_i ds i es ey
      split at q
      · rename_i d' ed
        exact seqs es ey ed q
      · exact q.elim
    · exact q.elim
theorem cutL_rws {K : PySem.W.Frag} {H : Hp} {ws : List W} {vs : List V} (h : RWs K H ws vs) (lo hi : Option Int) : RWs K H (cutL ws lo hi) (cutV vs lo hi) := by
  have e := h.length
  unfold cutL cutV
  rw [e]
  exact (h.drop _).take _
end
end Wm
namespace Wm
open PySem PySem.Spec PyProof.Rows L2

section
variable {a : Act}
/-- a slice, by values: the list's or the tuple's -/
def rSl (K : PySem.W.Frag) : V → Option Int → Option Int → Hp → VK → Prop := fun x lo hi H Q => rSlL K x lo hi H Q ∨ rSlA K x lo hi H Q
theorem pFlat_cut {ρ : REnv} {G T : List (V × SV)} {σ : St} {H : Hp} {v : V} {Q1 : SV → Prop} {Q : VK} {d : D} {F : List Addr} {lo hi : Option Int} (rel : Rel a ρ (G ++ T) σ H) (r : RD a.K H d v F) (q : pFlat (fun l => cutL l lo hi) d Q1)
    (k : ∀ (v : V) (s : SV) (H' : Hp), Q1 s → Rel a ρ (G ++ [(v, s)]) σ H' → Q v H') : rSl a.K v lo hi H Q := by
  unfold pFlat at q
  split at q
  · rename_i xs
    obtain ⟨⟨b, vs, rfl, s1, t1⟩, _⟩ := r
    refine .inr ⟨b, vs, rfl, SqT.of s1, fun hw => ?_, fun _ p n => ?_⟩
    · have e : cutL xs lo hi = xs := by
        unfold cutL
        rw [t1.length, hw.1, hw.2]
        simp [← t1.length]
      have q : Q1 (sw (.tup (cutL xs lo hi))) := q
      rw [e] at q
      exact k _ _ _ q (rel.flatAll ⟨b, vs, rfl, s1, t1⟩)
    · exact k _ _ _ q (rel.tupAll n (cutL_rws t1 lo hi))
  · rename_i ds
    split at q
    · rename_i ws e
      obtain ⟨b, vs, G', rfl, s1, t1, _⟩ := r
      rw [allW_map e] at t1
      exact .inl ⟨b, vs, rfl, SqL.of s1, fun p n => k _ _ _ q (rel.listAll n (cutL_rws (RDs.flat.mp t1).1 lo hi))⟩
    · exact q.elim
  · rename_i ws
    obtain ⟨b, vs, rfl, s1, t1, _⟩ := r
    exact .inl ⟨b, vs, rfl, s1.sq, fun p n => k _ _ _ q (rel.listAll n (cutL_rws t1 lo hi))⟩
  · exact q.elim
theorem ok_sl00 : POk a (.slice false false) (l1 fun x H Q => rSl a.K x none none H Q) := POk.of1 rfl (one1 (fun _ h => h) (fun _ _ _ _ h => h)) fun {x ρ G T σ H v Q1 Q} q rel h1 k => by
  obtain ⟨F1, r1⟩ := h1.rd rel
  exact pFlat_cut rel r1 q k
theorem ok_sl10 : POk a (.slice true false) (l2 fun x y H Q => ∃ i, y = .int i ∧ rSl a.K x (some i) none H Q) := POk.of2 rfl (two2 (fun _ h => h) (fun _ _ h => h) (fun _ _ _ _ _ h => h)) fun {x y ρ G T σ H v u Q1 Q} q rel h1 h2 k => by
  obtain ⟨F1, r1⟩ := h1.rd rel
  obtain ⟨F2, r2⟩ := h2.rd rel
  have q : (match y.d with | .w (.int i) => pFlat (fun l => cutL l (some i) none) x.d Q1 | _ => False) := q
  split at q
  · rename_i i e
    rw [e] at r2
    exact ⟨i, r2.1, pFlat_cut rel r1 q k⟩
  · exact q.elim
theorem ok_sl01 : POk a (.slice false true) (l2 fun x y H Q => ∃ i, y = .int i ∧ rSl a.K x none (some i) H Q) := POk.of2 rfl (two2 (fun _ h => h) (fun _ _ h => h) (fun _ _ _ _ _ h => h)) fun {x y ρ G T σ H v u Q1 Q} q rel h1 h2 k => by
  obtain ⟨F1, r1⟩ := h1.rd rel
  obtain ⟨F2, r2⟩ := h2.rd rel
  have q : (match y.d with | .w (.int i) => pFlat (fun l => cutL l none (some i)) x.d Q1 | _ => False) := q
  split at q
  · rename_i i e
    rw [e] at r2
    exact ⟨i, r2.1, pFlat_cut rel r1 q k⟩
  · exact q.elim
abbrev l3 (r : V → V → V → Hp → VK → Prop) : List V → Hp → VK → Prop := fun vs H Q => ∃ x y z, vs = [x, y, z] ∧ r x y z H Q
theorem ok_sl11 : POk a (.slice true true) (l3 fun x y z H Q => ∃ i j, y = .int i ∧ z = .int j ∧ rSl a.K x (some i) (some j) H Q) := POk.ofB rfl fun {ops ρ G T σ H vs Q1 Q} q rel pr k => by
  match ops, q, pr with
  | [x, y, z], q, pr =>
    obtain ⟨v, u, w, rfl, h1, h2, h3⟩ := paired3 pr
    obtain ⟨F1, r1⟩ := h1.rd rel
    obtain ⟨F2, r2⟩ := h2.rd rel
    obtain ⟨F3, r3⟩ := h3.rd rel
    have q : (match y.d, z.d with | .w (.int i), .w (.int j) => pFlat (fun l => cutL l (some i) (some j)) x.d Q1 | _, _ => False) := q
    split at q
    · rename_i i j e e'
      rw [e] at r2
      rw [e'] at r3
      exact ⟨v, u, w, rfl, i, j, r2.1, r3.1, pFlat_cut rel r1 q k⟩
    · exact q.elim
  | [], q, _ => exact q.elim
  | [_], q, _ => exact q.elim
  | [_, _], q, _ => exact q.elim
  | _ :: _ :: _ :: _ :: _, q, _ => exact q.elim
/-- reversed -/
def rRevA (K : PySem.W.Frag) : V → Hp → VK → Prop := fun x H Q => ∃ b vs, x = .ref b ∧ ((SqL K H b vs ∧ ∀ p, H p = none → Q (.ref p) (upd H p (.lst vs.reverse))) ∨ (SqT K H b vs ∧ ∀ p, H p = none → Q (.ref p) (upd H p (.tup vs.reverse))))
theorem ok_rev : POk a .rev (l1 (rRevA a.K)) := POk.of1 rfl (one1 (fun _ h => h) (fun _ _ _ _ h => h)) fun {x ρ G T σ H v Q1 Q} q rel h1 k => by
  obtain ⟨F1, r1⟩ := h1.rd rel
  have q : pFlat List.reverse x.d Q1 := q
  unfold pFlat at q
  split at q
  · rename_i xs e
    rw [e] at r1
    obtain ⟨⟨b, vs, rfl, s1, t1⟩, _⟩ := r1
    exact ⟨b, vs, rfl, .inr ⟨SqT.of s1, fun p n => k _ _ _ q (rel.tupAll n t1.reverse)⟩⟩
  · rename_i ds e
    rw [e] at r1
    split at q
    · rename_i ws e
      obtain ⟨b, vs, G', rfl, s1, t1, _⟩ := r1
      rw [allW_map e] at t1
      exact ⟨b, vs, rfl, .inl ⟨SqL.of s1, fun p n => k _ _ _ q (rel.listAll n (RDs.flat.mp t1).1.reverse)⟩⟩
    · exact q.elim
  · rename_i ws e
    rw [e] at r1
    obtain ⟨b, vs, rfl, s1, t1, _⟩ := r1
    exact ⟨b, vs, rfl, .inl ⟨s1.sq, fun p n => k _ _ _ q (rel.listAll n t1.reverse)⟩⟩
  · exact q.elim
/-- len -/
def rLen (K : PySem.W.Frag) : V → Hp → VK → Prop := fun x H Q => (∃ b vs, x = .ref b ∧ (SqL K H b vs ∨ SqT K H b vs) ∧ Q (.int vs.length) H) ∨ (∃ b kvs, x = .ref b ∧ H b = some (.dK kvs) ∧ Q (.int kvs.length) H) ∨ (∃ b kvs, x = .ref b ∧ H b = some (.dT kvs) ∧ Q (.int kvs.length) H)
theorem RDk.length {K : PySem.W.Frag} {H : Hp} : ∀ {ds : List (L2.Key × D)} {vs : List (L2.Key × V)} {F : List Addr}, RDk K H ds vs F → ds.length = vs.length
  | [], _, _, h => by rw [h.1]; rfl
  | (_, _) :: _, _, _, h => by
    obtain ⟨v, r, F1, F2, rfl, q, t, rfl⟩ := h
    rw [List.length_cons, List.length_cons, RDk.length t]
theorem RDt.length {K : PySem.W.Frag} {H : Hp} : ∀ {ds : List (List L2.Key × D)} {vs : List (List L2.Key × V)} {F : List Addr}, RDt K H ds vs F → ds.length = vs.length
  | [], _, _, h => by rw [h.1]; rfl
  | (_, _) :: _, _, _, h => by
    obtain ⟨v, r, F1, F2, rfl, q, t, rfl⟩ := h
    rw [List.length_cons, List.length_cons, RDt.length t]
theorem ok_len : POk a .len (l1 (rLen a.K)) := POk.of1 rfl (one1 (fun _ h => h) (fun _ _ _ _ h => h)) fun {x ρ G T σ H v Q1 Q} q rel h1 k => by
  obtain ⟨F1, r1⟩ := h1.rd rel
  have q : (match lenOf x.d with | some n => Q1 (sw (.int n)) | none => False) := q
  split at q
  · rename_i n e
    unfold lenOf at e
    split at e
    · rename_i kvs ex
      cases e
      rw [ex] at r1
      obtain ⟨b, us, G', rfl, hb, hk, _⟩ := r1
      exact .inr (.inl ⟨b, us, rfl, hb, by rw [← hk.length]; exact k _ _ _ q (rel.flatAll rfl)⟩)
    · rename_i kvs ex
      cases e
      rw [ex] at r1
      obtain ⟨b, us, G', rfl, hb, hk, _⟩ := r1
      exact .inr (.inr ⟨b, us, rfl, hb, by rw [← hk.length]; exact k _ _ _ q (rel.flatAll rfl)⟩)
    · obtain ⟨ds, es, rfl⟩ := Option.map_eq_some_iff.mp e
      obtain ⟨b, vs, rfl, hs, hl⟩ := r1.seq es
      exact .inl ⟨b, vs, rfl, hs, by rw [hl]; exact k _ _ _ q (rel.flatAll rfl)⟩
  · exact q.elim
/-- tuple(x) -/
def rTuple (K : PySem.W.Frag) : V → Hp → VK → Prop := fun x H Q => ∃ p ys, x = .ref p ∧ ((SqL K H p ys ∧ ∀ l, H l = none → Q (.ref l) (upd H l (.tup ys))) ∨ (SqT K H p ys ∧ Q (.ref p) H))
theorem ok_tuple : POk a .tuple (l1 (rTuple a.K)) := POk.of1 rfl (one1 (fun _ h => h) (fun _ _ _ _ h => h)) fun {x ρ G T σ H v Q1 Q} q rel h1 k => by
  obtain ⟨F1, r1⟩ := h1.rd rel
  have q : pTuple x.d Q1 := q
  unfold pTuple at q
  split at q
  · rename_i xs e
    rw [e] at r1
    obtain ⟨⟨b, vs, rfl, s1, t1⟩, _⟩ := r1
    exact ⟨b, vs, rfl, .inr ⟨SqT.of s1, k _ _ _ q (rel.flatAll ⟨b, vs, rfl, s1, t1⟩)⟩⟩
  · rename_i ds e
    rw [e] at r1
    split at q
    · rename_i ws e
      obtain ⟨b, vs, G', rfl, s1, t1, _⟩ := r1
      rw [allW_map e] at t1
      exact ⟨b, vs, rfl, .inl ⟨SqL.of s1, fun p n => k _ _ _ q (rel.tupAll n (RDs.flat.mp t1).1)⟩⟩
    · exact q.elim
  · exact q.elim
/-- all, any -/
def rBools (K : PySem.W.Frag) (f : List Bool → Bool) : V → Hp → VK → Prop := fun x H Q => ∃ b bs, x = .ref b ∧ SqL K H b (bs.map V.bl) ∧ Q (.bl (f bs)) H
theorem ok_bools {o : Prim} {f : List Bool → Bool} (hb : isB o = true) (hs : ∀ ops Q, primB o ops Q → ∃ x, ops = [x]) (he : ∀ x Q, primB o [x] Q → pBools f x.d Q) : POk a o (l1 (rBools a.K f)) := POk.of1 hb hs fun {x ρ G T σ H v Q1 Q} q rel h1 k => by
  obtain ⟨F1, r1⟩ := h1.rd rel
  have q := he _ _ q
  unfold pBools at q
  split at q
  · rename_i ws ew
    obtain ⟨b, vs, rfl, hs, hw⟩ := r1.flatL ew
    split at q
    · rename_i bs eb
      rw [boolsOf_map eb] at hw
      rw [hw.bls] at hs
      exact ⟨b, bs, rfl, hs, k _ _ _ q (rel.flatAll rfl)⟩
    · exact q.elim
  · exact q.elim
theorem ok_all : POk a .all (l1 (rBools a.K fun bs => bs.all id)) := ok_bools rfl (one1 (fun _ h => h) (fun _ _ _ _ h => h)) fun _ _ h => h
theorem ok_any : POk a .any (l1 (rBools a.K fun bs => bs.any id)) := ok_bools rfl (one1 (fun _ h => h) (fun _ _ _ _ h => h)) fun _ _ h => h
/-- sum, min, max of ints -/
def rInts (K : PySem.W.Frag) (f : List Int → (Int → Prop) → Prop) : V → Hp → VK → Prop := fun x H Q => ∃ b is, x = .ref b ∧ SqL K H b (is.map V.int) ∧ f is fun i => Q (.int i) H
theorem ok_ints {o : Prim} {f : List Int → (Int → Prop) → Prop} (hb : isB o = true) (hs : ∀ ops Q, primB o ops Q → ∃ x, ops = [x]) (hm : ∀ is P P', (∀ i, P i → P' i) → f is P → f is P') (he : ∀ x Q, primB o [x] Q → pInts f x.d Q) : POk a o (l1 (rInts a.K f)) := POk.of1 hb hs fun {x ρ G T σ H v Q1 Q} q rel h1 k => by
  obtain ⟨F1, r1⟩ := h1.rd rel
  have q := he _ _ q
  unfold pInts at q
  split at q
  · rename_i ws ew
    obtain ⟨b, vs, rfl, hs, hw⟩ := r1.flatL ew
    split at q
    · rename_i bs eb
      rw [intsOf_map eb] at hw
      rw [hw.ints] at hs
      exact ⟨b, bs, rfl, hs, hm _ _ _ (fun i qi => k (.int i) _ _ qi (rel.flatAll (x := .int i) rfl)) q⟩
    · exact q.elim
  · exact q.elim
theorem ok_sum : POk a .sum (l1 (rInts a.K fun is q => q is.sum)) := ok_ints rfl (one1 (fun _ h => h) (fun _ _ _ _ h => h)) (fun _ _ _ h q => h _ q) fun _ _ h => h
theorem ok_min1 : POk a .min1 (l1 (rInts a.K fun is q => 0 < is.length ∧ ∀ m, m ∈ is → (∀ y, y ∈ is → m ≤ y) → q m)) := ok_ints rfl (one1 (fun _ h => h) (fun _ _ _ _ h => h)) (fun _ _ _ h q => ⟨q.1, fun m h1 h2 => h _ (q.2 m h1 h2)⟩) fun _ _ h => h
theorem ok_max1 : POk a .max1 (l1 (rInts a.K fun is q => 0 < is.length ∧ ∀ m, m ∈ is → (∀ y, y ∈ is → y ≤ m) → q m)) := ok_ints rfl (one1 (fun _ h => h) (fun _ _ _ _ h => h)) (fun _ _ _ h q => ⟨q.1, fun m h1 h2 => h _ (q.2 m h1 h2)⟩) fun _ _ h => h
theorem ok_min2 : POk a .min2 (l2 (rInt (fun _ _ => True) (fun i j => if j < i then j else i))) := POk.ints rfl (two2 (fun _ h => h) (fun _ _ h => h) (fun _ _ _ _ _ h => h)) fun _ _ _ h => h
theorem ok_max2 : POk a .max2 (l2 (rInt (fun _ _ => True) (fun i j => if j > i then j else i))) := POk.ints rfl (two2 (fun _ h => h) (fun _ _ h => h) (fun _ _ _ _ _ h => h)) fun _ _ _ h => h
theorem ok_abs : POk a .abs (l1 fun x H Q => ∃ i, x = .int i ∧ Q (.int (if i < 0 then -i else i)) H) := POk.of1 rfl (one1 (fun _ h => h) (fun _ _ _ _ h => h)) fun {x ρ G T σ H v Q1 Q} q rel h1 k => by
  obtain ⟨F1, r1⟩ := h1.rd rel
  have q : (match x.d with | .w (.int i) => Q1 (sw (.int (if i < 0 then -i else i))) | _ => False) := q
  split at q
  · rename_i i e
    rw [e] at r1
    exact ⟨i, r1.1, k _ _ _ q (rel.flatAll rfl)⟩
  · exact q.elim
theorem ok_neg : POk a .neg (l1 fun x H Q => ∃ i, x = .int i ∧ Q (.int (-i)) H) := POk.of1 rfl (one1 (fun _ h => h) (fun _ _ _ _ h => h)) fun {x ρ G T σ H v Q1 Q} q rel h1 k => by
  obtain ⟨F1, r1⟩ := h1.rd rel
  have q : (match x.d with | .w (.int i) => Q1 (sw (.int (-i))) | _ => False) := q
  split at q
  · rename_i i e
    rw [e] at r1
    exact ⟨i, r1.1, k _ _ _ q (rel.flatAll rfl)⟩
  · exact q.elim
theorem ok_int : POk a .int (l1 fun x H Q => (∃ i, x = .int i ∧ Q (.int i) H) ∨ ∃ b, x = .bl b ∧ Q (.int (if b then 1 else 0)) H) := POk.of1 rfl (one1 (fun _ h => h) (fun _ _ _ _ h => h)) fun {x ρ G T σ H v Q1 Q} q rel h1 k => by
  obtain ⟨F1, r1⟩ := h1.rd rel
  have q : (match x.d with | .w (.int i) => Q1 (sw (.int i)) | .w (.bl b) => Q1 (sw (.int (if b then 1 else 0))) | _ => False) := q
  split at q
  · rename_i i e
    rw [e] at r1
    exact .inl ⟨i, r1.1, k _ _ _ q (rel.flatAll rfl)⟩
  · rename_i i e
    rw [e] at r1
    exact .inr ⟨i, r1.1, k _ _ _ q (rel.flatAll rfl)⟩
  · exact q.elim
/-- isinstance: the value's type -/
def rIsTys (K : PySem.W.Frag) (tys : List String) : V → Hp → VK → Prop := fun x H Q => ∃ t, TyX K H x (.type t) ∧ t ∈ ["NoneType", "bool", "int", "str", "tuple", "list", "dict"] ∧ Q (.bl (tys.any (isOne t))) H
theorem RD.ty {K : PySem.W.Frag} {H : Hp} {d : D} {v : V} {F : List Addr} (r : RD K H d v F) : TyX K H v (.type (tyD d)) ∧ tyD d ∈ ["NoneType", "bool", "int", "str", "tuple", "list", "dict"] := by
  cases d with
  | w x =>
    cases x with
    | non => rw [show v = _ from r.1]; exact ⟨.base .non, by simp [tyD]⟩
    | bl b => rw [show v = _ from r.1]; exact ⟨.base (.bl b), by simp [tyD]⟩
    | int b => rw [show v = _ from r.1]; exact ⟨.base (.int b), by simp [tyD]⟩
    | str b => rw [show v = _ from r.1]; exact ⟨.base (.str b), by simp [tyD]⟩
    | tup b =>
      obtain ⟨_, vs, rfl, q, _⟩ := r.1
      exact ⟨.base (.tup q), by simp [tyD]⟩
  | tup b =>
    obtain ⟨_, vs, rfl, q, _⟩ := r
    exact ⟨.base (.tup q), by simp [tyD]⟩
  | lst b =>
    obtain ⟨_, vs, _, rfl, q, _⟩ := r
    exact ⟨.base (.lst q), by simp [tyD]⟩
  | fz b =>
    obtain ⟨_, vs, rfl, q, _⟩ := r
    rcases q with ⟨o, q⟩ | ⟨o, its, n, q1, q2, _⟩
    · exact ⟨.base (.frz q), by simp [tyD]⟩
    · exact ⟨.kList q1 q2, by simp [tyD]⟩
  | dK b =>
    obtain ⟨_, vs, _, rfl, q, _⟩ := r
    exact ⟨.base (.dK q), by simp [tyD]⟩
  | dT b =>
    obtain ⟨_, vs, _, rfl, q, _⟩ := r
    exact ⟨.base (.dT q), by simp [tyD]⟩
theorem ok_isi {tys : List String} : POk a (.isi tys) (l1 (rIsTys a.K tys)) := POk.of1 rfl (one1 (fun _ h => h) (fun _ _ _ _ h => h)) fun {x ρ G T σ H v Q1 Q} q rel h1 k => by
  obtain ⟨F1, r1⟩ := h1.rd rel
  obtain ⟨t1, t2⟩ := r1.ty
  exact ⟨_, t1, t2, k _ _ _ q (rel.flatAll rfl)⟩
end
end Wm
namespace Wm
open PySem PySem.Spec PyProof.Rows L2

def slotI (ρ : REnv) (σ : St) (i : Nat) : Option (V × SV) := match ρ[i]?, σ[i]? with
  | some (some s), some (some v) => some (v, s)
  | _, _ => none
theorem slotI_itm {ρ : REnv} {σ : St} {G : List (V × SV)} {i : Nat} : itm ρ G σ (.inl i) = slotI ρ σ i := rfl
def itf (ρ : REnv) (g : Nat → Option (V × SV)) (σ : St) : Itm
  | .inl i => slotI ρ σ i
  | .inr j => g j
theorem slotI_inv {ρ : REnv} {σ : St} {i : Nat} {x : V × SV} (h : slotI ρ σ i = some x) : ρ[i]? = some (some x.2) ∧ σ[i]? = some (some x.1) := itm_slot_inv (G := []) h
theorem slotI_of {ρ : REnv} {σ : St} {i : Nat} {s : SV} {v : V} (h : ρ[i]? = some (some s)) (h' : σ[i]? = some (some v)) : slotI ρ σ i = some (v, s) := itm_slot (G := []) h h'
theorem killB_get {ρ : REnv} {i : Nat} {s : SV} (h : (killB ρ)[i]? = some (some s)) : ρ[i]? = some (some s) ∧ (s.m = .brw → isW s.d = true) := by
  unfold killB at h
  rw [List.getElem?_map] at h
  obtain ⟨o, e, q⟩ := Option.map_eq_some_iff.mp h
  split at q
  · rename_i x
    cases q
    exact ⟨e, fun _ => rfl⟩
  · cases q
  · rename_i o' h1 h2
    subst q
    refine ⟨e, fun m => ?_⟩
    obtain ⟨m', d⟩ := s
    have m : m' = .brw := m
    subst m
    exact (h2 d rfl).elim
theorem killB_len (ρ : REnv) : (killB ρ).length = ρ.length := by unfold killB; simp
theorem set_none_get {ρ : REnv} {i j : Nat} {s : SV} (h : (ρ.set i none)[j]? = some (some s)) : ρ[j]? = some (some s) ∧ j ≠ i := by
  by_cases e : j = i
  · subst e
    by_cases hl : j < ρ.length
    · rw [List.getElem?_set_self hl] at h; cases h
    · rw [List.getElem?_eq_none (by simpa using hl)] at h; cases h
  · rw [List.getElem?_set_ne (Ne.symm e)] at h
    exact ⟨h, e⟩
theorem takeSlot_less {p : Bool} {ρ ρ' : REnv} {i : Nat} {d : D} (h : takeSlot p ρ i d = some ρ') : ρ'.length = ρ.length ∧ (∀ (j : Nat) (s : SV), ρ'[j]? = some (some s) → ρ[j]? = some (some s) ∧ j ≠ i) ∧ (shallow d = true ∨ (p = false ∧ ∀ (j : Nat) (s : SV), ρ'[j]? = some (some s) → s.m = .brw → isW s.d = true)) := by
  unfold takeSlot at h
  split at h
  · rename_i e
    cases h
    exact ⟨by simp, fun j s q => set_none_get q, .inl e⟩
  · split at h
    · cases h
    · cases h
      refine ⟨by rw [killB_len]; simp, fun j s q => set_none_get (killB_get q).1, .inr ⟨rfl, fun j s q => (killB_get q).2⟩⟩
section
variable {K : PySem.W.Frag} {H0 H : Hp} {M : Addr → Prop} {F : Ky → List Addr} {σ : St}
theorem isW_all_nil : ∀ {ds : List D} {vs : List V} {G : List Addr}, RDs K H ds vs G → ds.all isW = true → G = []
  | [], _, _, h, _ => h.2
  | d :: ds, _, _, h, e => by
    obtain ⟨v, r, F1, F2, rfl, q, t, rfl⟩ := h
    rw [List.all_cons, Bool.and_eq_true] at e
    rw [isW_all_nil t e.2]
    cases d with
    | w x => rw [q.2]; rfl
    | tup _ => exact (Bool.false_ne_true e.1).elim
    | lst _ => exact (Bool.false_ne_true e.1).elim
    | fz _ => exact (Bool.false_ne_true e.1).elim
    | dK _ => exact (Bool.false_ne_true e.1).elim
    | dT _ => exact (Bool.false_ne_true e.1).elim
theorem isW_allk_nil : ∀ {ds : List (L2.Key × D)} {vs : List (L2.Key × V)} {G : List Addr}, RDk K H ds vs G → (ds.all fun kv => isW kv.2) = true → G = []
  | [], _, _, h, _ => h.2
  | (_, d) :: ds, _, _, h, e => by
    obtain ⟨v, r, F1, F2, rfl, q, t, rfl⟩ := h
    rw [List.all_cons, Bool.and_eq_true] at e
    rw [isW_allk_nil t e.2]
    cases d with
    | w x => rw [q.2]; rfl
    | tup _ => exact (Bool.false_ne_true e.1).elim
    | lst _ => exact (Bool.false_ne_true e.1).elim
    | fz _ => exact (Bool.false_ne_true e.1).elim
    | dK _ => exact (Bool.false_ne_true e.1).elim
    | dT _ => exact (Bool.false_ne_true e.1).elim
theorem isW_allt_nil : ∀ {ds : List (List L2.Key × D)} {vs : List (List L2.Key × V)} {G : List Addr}, RDt K H ds vs G → (ds.all fun kv => isW kv.2) = true → G = []
  | [], _, _, h, _ => h.2
  | (_, d) :: ds, _, _, h, e => by
    obtain ⟨v, r, F1, F2, rfl, q, t, rfl⟩ := h
    rw [List.all_cons, Bool.and_eq_true] at e
    rw [isW_allt_nil t e.2]
    cases d with
    | w x => rw [q.2]; rfl
    | tup _ => exact (Bool.false_ne_true e.1).elim
    | lst _ => exact (Bool.false_ne_true e.1).elim
    | fz _ => exact (Bool.false_ne_true e.1).elim
    | dK _ => exact (Bool.false_ne_true e.1).elim
    | dT _ => exact (Bool.false_ne_true e.1).elim
theorem shallow_top {d : D} {v : V} {G : List Addr} {m : Mode} (h : shallow d = true) (r : RD K H d v G) : ∀ b ∈ G, topOf (v, ⟨m, d⟩) = some b := fun b hb => by
  cases d with
  | w x => rw [r.2] at hb; cases hb
  | tup _ => cases h
  | fz _ => obtain ⟨_, _, _, _, _, e⟩ := r; rw [e] at hb; cases hb
  | lst ds =>
    obtain ⟨c, vs, G', rfl, q, t, rfl⟩ := r
    rw [isW_all_nil t h] at hb
    cases List.mem_singleton.mp hb
    rfl
  | dK ds =>
    obtain ⟨c, vs, G', rfl, q, t, rfl⟩ := r
    rw [isW_allk_nil t h] at hb
    cases List.mem_singleton.mp hb
    rfl
  | dT ds =>
    obtain ⟨c, vs, G', rfl, q, t, rfl⟩ := r
    rw [isW_allt_nil t h] at hb
    cases List.mem_singleton.mp hb
    rfl
theorem isW_nil {d : D} {v : V} {G : List Addr} (h : isW d = true) (r : RD K H d v G) : G = [] := by
  cases d with
  | w x => exact r.2
  | tup _ => cases h
  | fz _ => cases h
  | lst _ => cases h
  | dK _ => cases h
  | dT _ => cases h
/-- one more item at the end -/
theorem RDs.snoc {ds : List D} {vs : List V} {G G' : List Addr} {d : D} {v : V} (h : RDs K H ds vs G) (r : RD K H d v G') : RDs K H (ds ++ [d]) (vs ++ [v]) (G ++ G') := h.append ⟨v, [], G', [], rfl, r, ⟨rfl, rfl⟩, by simp⟩
theorem takes_ok {p : Bool} : ∀ (args : List Arg) {T : List (V × SV)} {vs : List V} {ρ ρ' : REnv} {g : Nat → Option (V × SV)} {n : Nat} {F0 : List Addr} {ds0 ds : List D} {vs0 : List V},
    AR σ args T vs → Good K H0 M H (itf ρ g σ) F → Pool H0 M H (itf ρ g σ) F F0 → RDs K H ds0 vs0 F0 → (∀ j, g (n + j) = T[j]?) →
    (p = false → ∀ j y, g j = some y → y.2.m = .brw → isW y.2.d = true) → tks1 p ρ args = some (ds, ρ') →
    ∃ g' F0', Good K H0 M H (itf ρ' g' σ) F ∧ Pool H0 M H (itf ρ' g' σ) F F0' ∧ RDs K H (ds0 ++ ds) (vs0 ++ vs) F0' ∧ (∀ j, j < n → g' j = g j) ∧ ρ'.length = ρ.length ∧ ∀ (j : Nat) (s : SV), ρ'[j]? = some (some s) → ρ[j]? = some (some s)
  | [], _, _, ρ, _, g, n, F0, ds0, ds, vs0, .nil, gd, pl, rd, hg, nb, e => by
    cases e
    exact ⟨g, F0, gd, pl, by simpa using rd, fun _ _ => rfl, rfl, fun _ _ h => h⟩
  | .late i :: as, T, _, ρ, ρ', g, n, F0, ds0, ds, vs0, .late (v := v) hv ar, gd, pl, rd, hg, nb, e => by
    simp only [tks1, tk] at e
    split at e
    · rename_i d ρ1 et
      split at e
      · rename_i ds' ρ2 e2
        cases e
        split at et
        · rename_i m x es
          cases et
          have r1 := gd.rep (k := .inl i) (slotI_of es hv)
          obtain ⟨g', F0', h1, h2, h3, h4, h5, h6⟩ := takes_ok as ar gd pl (rd.snoc (G' := []) (d := .w x) (v := v) ⟨r1.1, rfl⟩ |> fun z => by rw [List.append_nil] at z; exact z) hg nb e2
          exact ⟨g', F0', h1, h2, by simpa using h3, h4, h5, h6⟩
        · rename_i d' hw es
          split at et
          · rename_i ρ3 e3
            cases et
            have ei : itf ρ g σ (.inl i) = some (v, ⟨.own, d⟩) := slotI_of es hv
            obtain ⟨hl, hless, hsh⟩ := takeSlot_less e3
            have sub : ∀ k x, itf ρ1 g σ k = some x → put (itf ρ g σ) (.inl i) none k = some x := fun k x q => by
              cases k with
              | inl j =>
                obtain ⟨q1, q2⟩ := slotI_inv q
                obtain ⟨q3, q4⟩ := hless j _ q1
                rw [put_ne (by simpa using q4)]
                exact slotI_of q3 q2
              | inr j => rw [put_ne (by simp)]; exact q
            have sub2 : ∀ k x, itf ρ1 g σ k = some x → itf ρ g σ k = some x := fun k x q => by
              have h := sub k x q
              by_cases z : k = .inl i
              · subst z; rw [put_same] at h; cases h
              · rw [put_ne z] at h; exact h
            have r1 := gd.rep ei
            have gd1 : Good K H0 M H (itf ρ1 g σ) F := gd.sub sub2
            have pl1 : Pool H0 M H (itf ρ1 g σ) F (F0 ++ F (.inl i)) := by
              rcases hsh with hs | ⟨hp, hk⟩
              · exact (pl.take gd ei rfl fun b hb => .inl (by
                  show b ∈ (topOf _).toList
                  rw [shallow_top hs r1 b hb]
                  simp)).sub sub
              · -- nothing borrowed is left
                have g2 : Good K H0 M H (put (itf ρ1 g σ) (.inl i) (some (v, ⟨.own, d⟩))) F := gd.sub fun k x q => by
                  by_cases z : k = .inl i
                  · subst z; rw [put_same] at q; cases q; exact ei
                  · rw [put_ne z] at q; exact sub2 k x q
                have p2 : Pool H0 M H (put (itf ρ1 g σ) (.inl i) (some (v, ⟨.own, d⟩))) F F0 := pl.sub fun k x q => by
                  by_cases z : k = .inl i
                  · subst z; rw [put_same] at q; cases q; exact ei
                  · rw [put_ne z] at q; exact sub2 k x q
                refine (p2.take g2 put_same rfl fun b hb => .inr fun j y q m => ?_).sub fun k x q => ?_
                · have hj : j ≠ .inl i := fun z => by subst z; rw [put_same] at q; cases q; cases m
                  have q0 := q
                  rw [put_ne hj] at q
                  have w : isW y.2.d = true := by
                    cases j with
                    | inl j => exact hk j _ (slotI_inv q).1 m
                    | inr j => exact nb hp j y q m
                  rw [isW_nil w (g2.rep (s := y.2) q0)]
                  exact fun z => nomatch z
                · have z : k ≠ .inl i := fun z => by
                    subst z
                    obtain ⟨q1, _⟩ := slotI_inv q
                    exact (hless i _ q1).2 rfl
                  rw [put_ne z, put_ne z]
                  exact q
            obtain ⟨g', F0', h1, h2, h3, h4, h5, h6⟩ := takes_ok as ar gd1 pl1 (rd.snoc (d := d) (v := v) r1) hg nb e2
            exact ⟨g', F0', h1, h2, by simpa using h3, h4, h5.trans hl, fun j s q => (hless j s (h6 j s q)).1⟩
          · cases et
        · cases et
      · cases e
    · cases e
  | .tmp m d0 :: as, _, _, ρ, ρ', g, n, F0, ds0, ds, vs0, .tmp (v := v) (T := T) ar, gd, pl, rd, hg, nb, e => by
    have e0 : itf ρ g σ (.inr n) = some (v, ⟨m, d0⟩) := hg 0
    have r0 := gd.rep e0
    -- the temporary goes
    let g1 : Nat → Option (V × SV) := fun j => if j = n then none else g j
    have sub : ∀ k x, itf ρ g1 σ k = some x → put (itf ρ g σ) (.inr n) none k = some x := fun k x q => by
      cases k with
      | inl j => rw [put_ne (by simp)]; exact q
      | inr j =>
        have q : (if j = n then none else g j) = some x := q
        by_cases z : j = n
        · rw [if_pos z] at q; cases q
        · rw [if_neg z] at q; rw [put_ne (by simpa using z)]; exact q
    have sub2 : ∀ k x, itf ρ g1 σ k = some x → itf ρ g σ k = some x := fun k x q => by
      have h := sub k x q
      by_cases z : k = .inr n
      · subst z; rw [put_same] at h; cases h
      · rw [put_ne z] at h; exact h
    have gd1 : Good K H0 M H (itf ρ g1 σ) F := gd.sub sub2
    have hg1 : ∀ j, g1 (n + 1 + j) = T[j]? := fun j => by
      show (if n + 1 + j = n then none else g (n + 1 + j)) = _
      rw [if_neg (by omega), show n + 1 + j = n + (j + 1) by omega, hg]
      rfl
    have nb1 : p = false → ∀ j y, g1 j = some y → y.2.m = .brw → isW y.2.d = true := fun hp j y q => by
      have q : (if j = n then none else g j) = some y := q
      by_cases z : j = n
      · rw [if_pos z] at q; cases q
      · rw [if_neg z] at q; exact nb hp j y q
    have fin : ∀ {g' : Nat → Option (V × SV)}, (∀ j, j < n + 1 → g' j = g1 j) → ∀ j, j < n → g' j = g j := fun {g'} h j hj => by
      rw [h j (by omega)]
      exact if_neg (by omega)
    simp only [tks1] at e
    split at e
    · rename_i d ρ1 et
      split at e
      · rename_i ds' ρ2 e2
        cases e
        unfold tk at et
        split at et
        · rename_i heq; cases heq
        · rename_i x heq
          cases heq
          cases et
          obtain ⟨g', F0', h1, h2, h3, h4, h5, h6⟩ := takes_ok as ar gd1 (pl.sub sub2) (rd.snoc (G' := []) (d := .w x) (v := v) ⟨r0.1, rfl⟩ |> fun z => by rw [List.append_nil] at z; exact z) hg1 nb1 e2
          exact ⟨g', F0', h1, h2, by simpa using h3, fin h4, h5, h6⟩
        · rename_i d' hw heq
          cases heq
          cases et
          have pl1 : Pool H0 M H (itf ρ g1 σ) F (F0 ++ F (.inr n)) := (pl.take gd e0 rfl fun b hb => .inl hb).sub sub
          obtain ⟨g', F0', h1, h2, h3, h4, h5, h6⟩ := takes_ok as ar gd1 pl1 (rd.snoc (v := v) r0) hg1 nb1 e2
          exact ⟨g', F0', h1, h2, by simpa using h3, fin h4, h5, h6⟩
        · cases et
      · cases e
    · cases e
end
end Wm
namespace Wm
open PySem PySem.Spec PyProof.Rows L2

section
variable {a : Act}
theorem itm_itf {ρ : REnv} {G : List (V × SV)} {σ : St} : itm ρ G σ = itf ρ (fun j => G[j]?) σ := by
  funext k
  cases k <;> rfl
/-- what displays take -/
theorem takes_rel {args : List Arg} {p : Bool} {ρ ρ' : REnv} {G T : List (V × SV)} {σ : St} {H : Hp} {vs : List V} {ds : List D} (e : tks p ρ args = some (ds, ρ')) (hp : pf p G) (ar : AR σ args T vs) (rel : Rel a ρ (G ++ T) σ H) :
    Rel a ρ' G σ H ∧ ∃ F F0, Good a.K a.H0 a.M H (itm ρ' G σ) F ∧ Pool a.H0 a.M H (itm ρ' G σ) F F0 ∧ RDs a.K H ds vs F0 := by
  obtain ⟨F, g⟩ := rel.good
  rw [itm_itf] at g
  have nbT : ∀ {args : List Arg} {T : List (V × SV)} {vs : List V}, AR σ args T vs → args.any brwArg = false → ∀ y ∈ T, y.2.m = .brw → isW y.2.d = true := by
    intro args T vs ar
    induction ar with
    | nil => intro _ y hy; cases hy
    | late _ _ ih =>
      intro h
      rw [List.any_cons, Bool.or_eq_false_iff] at h
      exact ih h.2
    | @tmp m d v as T vs _ ih =>
      intro h y hy hm
      rw [List.any_cons, Bool.or_eq_false_iff] at h
      rcases List.mem_cons.mp hy with rfl | hy
      · have hm : m = .brw := hm
        subst hm
        have h1 := h.1
        cases d <;> first | rfl | cases h1
      · exact ih h.2 y hy hm
  obtain ⟨g', F0, h1, h2, h3, h4, h5, h6⟩ := takes_ok (n := G.length) args ar g Pool.nil (ds0 := []) (vs0 := []) ⟨rfl, rfl⟩ (fun j => by
    show (G ++ T)[G.length + j]? = _
    rw [List.getElem?_append_right (by omega), Nat.add_sub_cancel_left]) (fun hpp j y q m => by
    rw [Bool.or_eq_false_iff] at hpp
    rcases List.mem_append.mp (List.mem_of_getElem? q) with hy | hy
    · exact hp hpp.1 y hy m
    · exact nbT ar hpp.2 y hy m) e
  have sub : ∀ k x, itm ρ' G σ k = some x → itf ρ' g' σ k = some x := fun k x q => by
    cases k with
    | inl i => exact q
    | inr j =>
      have q : G[j]? = some x := q
      have hj := (List.getElem?_eq_some_iff.mp q).1
      show g' j = some x
      rw [h4 j hj]
      show (G ++ T)[j]? = some x
      rw [List.getElem?_append_left hj]
      exact q
  refine ⟨⟨h5.trans rel.len, fun i s q => rel.sl i s (h6 i s q), rel.pr, rel.ext, F, h1.sub sub⟩, F, F0, h1.sub sub, h2.sub sub, by simpa using h3⟩
theorem ok_lst : POk a .lst (fun vs H Q => ∀ p, H p = none → Q (.ref p) (upd H p (.lst vs))) := ⟨fun {args p ρ G T σ H vs Q0 Q} q hp ar rel k b n => by
  have q : (match tks p ρ args with | some (ds, ρ') => Q0 ⟨.own, .lst ds⟩ ρ' | none => False) := q
  split at q
  · rename_i ds ρ' e
    obtain ⟨r, F, F0, g, pl, rd⟩ := takes_rel e hp ar rel
    refine k _ _ _ _ q (r.push (r.ext_new n) (g.made pl n (r.fresh n) ⟨b, vs, F0, rfl, upd_same, ?_, rfl⟩))
    exact rd.stab (Stab.new n) fun c hc => upd_ne (mut_ne_none (pl.dom c hc) n)
  · exact q.elim⟩
theorem mkTup_or (ds : List D) : (∃ ws, ds = ws.map .w ∧ mkTup ds = .w (.tup ws)) ∨ mkTup ds = .tup ds := by
  unfold mkTup
  split
  · rename_i ws e
    exact .inl ⟨ws, allW_map e, rfl⟩
  · exact .inr rfl
theorem ok_tup : POk a .tup (fun vs H Q => ∀ p, H p = none → Q (.ref p) (upd H p (.tup vs))) := ⟨fun {args p ρ G T σ H vs Q0 Q} q hp ar rel k b n => by
  have q : (match tks p ρ args with | some (ds, ρ') => Q0 ⟨.own, mkTup ds⟩ ρ' | none => False) := q
  split at q
  · rename_i ds ρ' e
    obtain ⟨r, F, F0, g, pl, rd⟩ := takes_rel e hp ar rel
    rcases mkTup_or ds with ⟨ws, rfl, et⟩ | et
    · rw [et] at q
      exact k _ _ _ _ q (r.pushT n (RDs.flat.mp rd).1)
    · rw [et] at q
      have pl2 : Pool a.H0 a.M (upd H b (.tup vs)) (itm ρ' G σ) F F0 := ⟨pl.nd, pl.mine, fun c hc => by
        rw [upd_ne (mut_ne_none (pl.dom c hc) n)]
        exact pl.dom c hc, pl.dis⟩
      refine k _ _ _ _ q (r.push (r.ext_new n) ((g.laid n).madeT pl2 ⟨b, vs, rfl, upd_same, ?_⟩))
      exact rd.stab (Stab.new n) fun c hc => upd_ne (mut_ne_none (pl.dom c hc) n)
  · exact q.elim⟩
theorem ok_dnewK : POk a .dnewK (fun vs H Q => vs = [] → ∀ p, H p = none → Q (.ref p) (upd H p (.dK []))) := ⟨fun {args p ρ G T σ H vs Q0 Q} q hp ar rel k _ b n => by
  have r := rel.pre
  obtain ⟨F, g⟩ := r.good
  exact k _ _ _ _ q (r.push (r.ext_new n) (g.made Pool.nil n (r.fresh n) ⟨b, [], [], rfl, upd_same, ⟨rfl, rfl⟩, rfl⟩))⟩
theorem ok_dnewT : POk a .dnewT (fun vs H Q => vs = [] → ∀ p, H p = none → Q (.ref p) (upd H p (.dT []))) := ⟨fun {args p ρ G T σ H vs Q0 Q} q hp ar rel k _ b n => by
  have r := rel.pre
  obtain ⟨F, g⟩ := r.good
  exact k _ _ _ _ q (r.push (r.ext_new n) (g.made Pool.nil n (r.fresh n) ⟨b, [], [], rfl, upd_same, ⟨rfl, rfl⟩, rfl⟩))⟩
/-- the flat items of a list, a tuple or a dict's keys, as they stand -/
def SrcW (K : PySem.W.Frag) (H : Hp) (x : V) (ws : List W) : Prop :=
  (∃ b vs, x = .ref b ∧ (SqL K H b vs ∨ SqT K H b vs) ∧ RWs K H ws vs) ∨
  (∃ b kvs, x = .ref b ∧ H b = some (.dK kvs) ∧ ws = kvs.map fun kv => keyW kv.1) ∨
  (∃ b kvs, x = .ref b ∧ H b = some (.dT kvs) ∧ ws = kvs.map fun kv => .tup (kv.1.map keyW))
theorem RDk.keysW {K : PySem.W.Frag} {H : Hp} : ∀ {kvs : List (L2.Key × D)} {us : List (L2.Key × V)} {F : List Addr}, RDk K H kvs us F → us.map (·.1) = kvs.map (·.1)
  | [], _, _, h => by rw [h.1]; rfl
  | (_, _) :: _, _, _, h => by
    obtain ⟨v, r, F1, F2, rfl, q, t, rfl⟩ := h
    rw [List.map_cons, List.map_cons, RDk.keysW t]
theorem RDt.keysW {K : PySem.W.Frag} {H : Hp} : ∀ {kvs : List (List L2.Key × D)} {us : List (List L2.Key × V)} {F : List Addr}, RDt K H kvs us F → us.map (·.1) = kvs.map (·.1)
  | [], _, _, h => by rw [h.1]; rfl
  | (_, _) :: _, _, _, h => by
    obtain ⟨v, r, F1, F2, rfl, q, t, rfl⟩ := h
    rw [List.map_cons, List.map_cons, RDt.keysW t]
theorem RD.src {K : PySem.W.Frag} {H : Hp} {d : D} {v : V} {F : List Addr} {ws : List W} (e : itemsW d = some ws) (r : RD K H d v F) : SrcW K H v ws := by
  cases d with
  | w x =>
    cases x with
    | tup xs =>
      cases e
      obtain ⟨⟨b, vs, rfl, q, t⟩, _⟩ := r
      exact .inl ⟨b, vs, rfl, .inr (SqT.of q), t⟩
    | non => cases e
    | bl _ => cases e
    | int _ => cases e
    | str _ => cases e
  | tup _ => cases e
  | lst ds =>
    obtain ⟨b, vs, G', rfl, q, t, _⟩ := r
    rw [allW_map e] at t
    exact .inl ⟨b, vs, rfl, .inl (SqL.of q), (RDs.flat.mp t).1⟩
  | fz xs =>
    cases e
    obtain ⟨b, vs, rfl, q, t, _⟩ := r
    exact .inl ⟨b, vs, rfl, .inl q.sq, t⟩
  | dK kvs =>
    cases e
    obtain ⟨b, us, G', rfl, q, t, _⟩ := r
    refine .inr (.inl ⟨b, us, rfl, q, ?_⟩)
    have h := t.keysW
    calc kvs.map (fun kv => keyW kv.1) = (kvs.map (·.1)).map keyW := by simp
      _ = (us.map (·.1)).map keyW := by rw [h]
      _ = _ := by simp
  | dT kvs =>
    cases e
    obtain ⟨b, us, G', rfl, q, t, _⟩ := r
    refine .inr (.inr ⟨b, us, rfl, q, ?_⟩)
    have h := t.keysW
    calc kvs.map (fun kv => W.tup (kv.1.map keyW)) = (kvs.map (·.1)).map (fun k => W.tup (k.map keyW)) := by simp
      _ = (us.map (·.1)).map (fun k => W.tup (k.map keyW)) := by rw [h]
      _ = _ := by simp
/-- list(x) -/
def rListW (K : PySem.W.Frag) : V → Hp → VK → Prop := fun x H Q => ∃ ws, SrcW K H x ws ∧ ∀ p vs, H p = none → RWs K H ws vs → Q (.ref p) (upd H p (.lst vs))
theorem ok_list : POk a .list (l1 (rListW a.K)) := POk.of1 rfl (one1 (fun _ h => h) (fun _ _ _ _ h => h)) fun {x ρ G T σ H v Q1 Q} q rel h1 k => by
  obtain ⟨F1, r1⟩ := h1.rd rel
  have q : pList x.d Q1 := q
  unfold pList at q
  split at q
  · rename_i ws e
    exact ⟨ws, r1.src e, fun p vs n hw => k _ _ _ q (rel.listAll n hw)⟩
  · exact q.elim
/-- sorted(x): ints, or tuples of as many ints -/
def SortsTo (ws ws' : List W) : Prop :=
  (∃ is, ws = is.map .int ∧ is.length < 64 ∧ ws' = (sortI is).map .int) ∨ (∃ n ts, 0 < n ∧ ws = ts.map wT ∧ (∀ t ∈ ts, t.length = n) ∧ ts.length < 64 ∧ ws' = (sortT ts).map wT)
def rSortW (K : PySem.W.Frag) : V → Hp → VK → Prop := fun x H Q => ∃ ws ws', SrcW K H x ws ∧ SortsTo ws ws' ∧ ∀ p vs, H p = none → RWs K H ws' vs → Q (.ref p) (upd H p (.lst vs))
theorem tupsN_map {n : Nat} : ∀ {ws : List W} {ts : List (List Int)}, tupsN n ws = some ts → ws = ts.map wT ∧ ∀ t ∈ ts, t.length = n
  | [], _, h => by cases h; exact ⟨rfl, fun t ht => nomatch ht⟩
  | .tup xs :: r, _, h => by
    simp only [tupsN] at h
    split at h
    · rename_i is rs e1 e2
      split at h
      · rename_i hl
        cases h
        obtain ⟨h1, h2⟩ := tupsN_map e2
        refine ⟨?_, fun t ht => ?_⟩
        · rw [h1, List.map_cons, intsOf_map e1]
          rfl
        · rcases List.mem_cons.mp ht with rfl | ht
          · exact hl
          · exact h2 t ht
      · cases h
    · cases h
  | .non :: _, _, h => by cases h
  | .bl _ :: _, _, h => by cases h
  | .str _ :: _, _, h => by cases h
  | .int _ :: _, _, h => by cases h
theorem ok_sorted : POk a .sorted (l1 (rSortW a.K)) := POk.of1 rfl (one1 (fun _ h => h) (fun _ _ _ _ h => h)) fun {x ρ G T σ H v Q1 Q} q rel h1 k => by
  obtain ⟨F1, r1⟩ := h1.rd rel
  have q : pSorted x.d Q1 := q
  unfold pSorted at q
  split at q
  · rename_i ws e
    split at q
    · rename_i is ei
      obtain ⟨hl, q⟩ := q
      refine ⟨ws, (sortI is).map .int, r1.src e, .inl ⟨is, intsOf_map ei, hl, rfl⟩, fun p vs n hw => ?_⟩
      have z := rel.listAll n hw
      rw [List.map_map] at z
      exact k _ _ _ q z
    · split at q
      · rename_i t r
        split at q
        · rename_i ts et
          obtain ⟨h0, hl, q⟩ := q
          obtain ⟨e1, e2⟩ := tupsN_map et
          refine ⟨_, (sortT ts).map wT, r1.src e, .inr ⟨_, ts, h0, e1, e2, hl, rfl⟩, fun p vs n hw => ?_⟩
          have z := rel.listAll n hw
          rw [List.map_map] at z
          exact k _ _ _ q z
        · exact q.elim
      · exact q.elim
  · exact q.elim
end
end Wm
namespace Wm
open PySem PySem.Spec PyProof.Rows L2

section
variable {K : PySem.W.Frag} {H0 H H' : Hp} {M0 M : Addr → Prop} {it it2 it3 itP : Itm} {F FP : Ky → List Addr}
def mF (src : Ky → Option Ky) (F FP : Ky → List Addr) (k : Ky) : List Addr := match src k with
  | some kp => FP kp
  | none => F k
theorem Good.merge (g : Good K H0 M0 H it F) (io : Ky → Prop) (hio : ∀ k, io k → ∃ x, it k = some x ∧ x.2.m = .own) (hM : ∀ b, M b → ∃ k, io k ∧ b ∈ F k)
    (h2 : ∀ k x, it2 k = some x → it k = some x ∧ ¬ io k) (hB : ∀ k x, it2 k = some x → x.2.m = .brw → ∀ b, M b → b ∉ F k)
    (ext : ∀ b o, H b = some o → ¬ M b → H' b = some o) (fr : ∀ b, H b = none → H0 b = none ∨ M0 b)
    (gp : Good K H M H' itP FP) (own : ∀ k x, itP k = some x → x.2.m = .own)
    (src : Ky → Option Ky) (inj : ∀ k k' kp, src k = some kp → src k' = some kp → k = k')
    (h3 : ∀ k x, it3 k = some x → match src k with | some kp => itP kp = some x | none => it2 k = some x) : Good K H0 M0 H' it3 (mF src F FP) := by
  have mutM : ∀ b, M b → Mut (H b) := fun b hb => by
    obtain ⟨k, hk, hbk⟩ := hM b hb
    obtain ⟨x, e, _⟩ := hio k hk
    exact g.dom e b hbk
  have st : Stab H H' := fun b hb => by
    have nm : ¬ M b := fun m => by
      have := mutM b m
      rcases hb with ⟨xs, e⟩ | ⟨o, u, e⟩ <;> (rw [e] at this; exact this)
    rcases hb with ⟨xs, e⟩ | ⟨o, u, e⟩
    · rw [e]; exact ext b _ e nm
    · rw [e]; exact ext b _ e nm
  -- what stays has nothing that was handed over
  have offM : ∀ k x, it2 k = some x → ∀ b ∈ F k, ¬ M b := fun k x q b hb m => by
    obtain ⟨q1, q2⟩ := h2 k x q
    by_cases br : x.2.m = .brw
    · exact hB k x q br b m hb
    · obtain ⟨k', hk', hbk⟩ := hM b m
      obtain ⟨y, ey, oy⟩ := hio k' hk'
      have n : k' ≠ k := fun z => q2 (z ▸ hk')
      exact g.dis n ey q1 oy br b hbk hb
  have same : ∀ k x, it2 k = some x → ∀ b ∈ F k, H' b = H b := fun k x q b hb => by
    have mu := g.dom (h2 k x q).1 b hb
    cases e : H b with
    | none => rw [e] at mu; exact mu.elim
    | some o => exact ext b o e (offM k x q b hb)
  -- what came is new, or was handed over
  have newP : ∀ kp x, itP kp = some x → ∀ b ∈ FP kp, H b = none ∨ M b := fun kp x q b hb => gp.mine q (own kp x q) b hb
  have offP : ∀ k x kp y, it2 k = some x → itP kp = some y → ∀ b ∈ FP kp, b ∉ F k := fun k x kp y q qp b hb hk => by
    rcases newP kp y qp b hb with n | m
    · exact mut_ne_none (g.dom (h2 k x q).1 b hk) n rfl
    · exact offM k x q b hk m
  have cs : ∀ {k x}, it3 k = some x → (∃ kp, src k = some kp ∧ itP kp = some x ∧ mF src F FP k = FP kp) ∨ (src k = none ∧ it2 k = some x ∧ mF src F FP k = F k) := fun {k x} q => by
    have z := h3 k x q
    cases e : src k with
    | some kp =>
      rw [e] at z
      exact .inl ⟨kp, rfl, z, by unfold mF; rw [e]⟩
    | none =>
      rw [e] at z
      exact .inr ⟨rfl, z, by unfold mF; rw [e]⟩
  refine ⟨fun {k v s} q => ?_, fun {k v s} q m => ?_, fun {k v s} q m b hb => ?_, fun {k k' x x'} n q q' m m' b hb => ?_, fun {k k' x x' b} n q q' m m' hb => ?_⟩
  · rcases cs q with ⟨kp, _, z, e⟩ | ⟨_, z, e⟩
    · rw [e]; exact gp.rep z
    · rw [e]; exact (g.rep (h2 _ _ z).1).stab st (same _ _ z)
  · rcases cs q with ⟨kp, _, z, e⟩ | ⟨_, z, e⟩
    · rw [e]; exact gp.nd z m
    · rw [e]; exact g.nd (h2 _ _ z).1 m
  · rcases cs q with ⟨kp, _, z, e⟩ | ⟨_, z, e⟩
    · rw [e] at hb
      rcases newP _ _ z b hb with nn | mm
      · exact fr b nn
      · obtain ⟨k', hk', hbk⟩ := hM b mm
        obtain ⟨y, ey, oy⟩ := hio k' hk'
        exact g.mine ey oy b hbk
    · rw [e] at hb
      exact g.mine (h2 _ _ z).1 m b hb
  · rcases cs q with ⟨kp, s1, z, e⟩ | ⟨_, z, e⟩
    · rw [e] at hb
      rcases cs q' with ⟨kp', s2, z', e'⟩ | ⟨_, z', e'⟩
      · rw [e']
        have nk : kp ≠ kp' := fun y => n (inj _ _ _ s1 (y ▸ s2))
        exact gp.dis nk z z' m m' b hb
      · rw [e']
        exact offP _ _ _ _ z' z b hb
    · rw [e] at hb
      rcases cs q' with ⟨kp', s2, z', e'⟩ | ⟨_, z', e'⟩
      · rw [e']
        exact fun hb' => offP _ _ _ _ z z' b hb' hb
      · rw [e']
        exact g.dis n (h2 _ _ z).1 (h2 _ _ z').1 m m' b hb
  · rcases cs q' with ⟨kp', s2, z', e'⟩ | ⟨_, z', e'⟩
    · have := own kp' x' z'
      rw [this] at m'; cases m'
    · rw [e']
      rcases cs q with ⟨kp, s1, z, e⟩ | ⟨_, z, e⟩
      · rw [e] at hb
        exact offP _ _ _ _ z' z b (edge_sub (gp.rep (s := x.2) z) hb)
      · rw [e] at hb
        exact g.top n (h2 _ _ z).1 (h2 _ _ z').1 m m' hb
end
def outAt : List Bool → List D → Nat → Option D
  | true :: _, d :: _, 0 => some d
  | true :: bs, _ :: ds, i + 1 => outAt bs ds i
  | false :: bs, ds, i + 1 => outAt bs ds i
  | _, _, _ => none
def postIt (sig : List Bool) (vs : List V) (outs : List D) (res : Option (V × SV)) : Itm
  | .inl i => match outAt sig outs i, vs[i]? with
    | some d, some u => some (u, ⟨.own, d⟩)
    | _, _ => none
  | .inr j => if j = 0 then res else none
def MofS (sig : List Bool) (Fs : Nat → List Addr) (b : Addr) : Prop := ∃ i : Nat, sig[i]? = some true ∧ b ∈ Fs i
structure SpIn (K : PySem.W.Frag) (H : Hp) (sig : List Bool) (ds : List D) (vs : List V) (Fs : Nat → List Addr) : Prop where
  l1 : ds.length = sig.length
  l2 : vs.length = sig.length
  rep : ∀ (i : Nat) d v, ds[i]? = some d → vs[i]? = some v → RD K H d v (Fs i)
  nd : ∀ (i : Nat), sig[i]? = some true → (Fs i).Nodup
  dis : ∀ i j : Nat, i ≠ j → i < sig.length → j < sig.length → sig[i]? = some true → ∀ b ∈ Fs i, b ∉ Fs j
/-- an exception, as HandS tells it -/
def ExR (mg : Str → Option Value) (H : Hp) (cls : Value) (d : Option Addr) (x : Ex) : Prop :=
  ∃ C, mg x.c = some (.ref C) ∧ cls = .ref C ∧ match x.at_ with
    | none => d = none
    | some n => ∃ dd, d = some dd ∧ H dd = some (.xd [("at", .int n)])
def ExtM (M : Addr → Prop) (H H' : Hp) : Prop := ∀ b o, H b = some o → ¬ M b → H' b = some o
def spOf (K : PySem.W.Frag) (mg : Str → Option Value) (f : Fn) : Sp := fun vs H Q E => ∃ (ds : List D) (Fs : Nat → List Addr), SpIn K H f.sig ds vs Fs ∧
  ∃ Q1 X1, f.spec ds Q1 X1 ∧
    (∀ r outs v H', Q1 r outs → outs.length = (f.sig.filter id).length → ExtM (MofS f.sig Fs) H H' → (∃ FP, Good K H (MofS f.sig Fs) H' (postIt f.sig vs outs (some (v, ⟨.own, r⟩))) FP) → Q v H') ∧
    (∀ x outs cls d H', X1 x outs → outs.length = (f.sig.filter id).length → ExtM (MofS f.sig Fs) H H' → (∃ FP, Good K H (MofS f.sig Fs) H' (postIt f.sig vs outs none) FP) → ExR mg H' cls d x → E cls d H')
end Wm
namespace Wm
open PySem PySem.Spec PyProof.Rows L2

theorem rd_late {ρ : REnv} {i : Nat} {o : Op} (h : rd ρ (.late i) = some o) : ∃ s, ρ[i]? = some (some s) ∧ o = ⟨some i, s.m, s.d⟩ := by
  have h : (match ρ[i]? with | some (some s) => some (⟨some i, s.m, s.d⟩ : Op) | _ => none) = some o := h
  split at h
  · rename_i s e
    cases h
    exact ⟨s, e, rfl⟩
  · cases h
def aKeys (n : Nat) : List Arg → List Ky
  | [] => []
  | .late i :: as => .inl i :: aKeys n as
  | .tmp _ _ :: as => .inr n :: aKeys (n + 1) as
def findIx : List Bool → List Arg → Nat → Option Nat
  | true :: bs, .late i :: as, j => if i = j then some 0 else (findIx bs as j).map (· + 1)
  | _ :: bs, _ :: as, j => (findIx bs as j).map (· + 1)
  | _, _, _ => none
theorem findIx_some : ∀ {sig : List Bool} {as : List Arg} {j i : Nat}, findIx sig as j = some i → sig[i]? = some true ∧ as[i]? = some (.late j)
  | [], _, _, _, h => by simp [findIx] at h
  | b :: bs, [], _, _, h => by cases b <;> simp [findIx] at h
  | true :: bs, .late k :: as, j, i, h => by
    simp only [findIx] at h
    split at h
    · rename_i e
      cases h
      exact ⟨rfl, by rw [e]; rfl⟩
    · obtain ⟨m, e, rfl⟩ := Option.map_eq_some_iff.mp h
      obtain ⟨h1, h2⟩ := findIx_some e
      exact ⟨by simpa using h1, by simpa using h2⟩
  | true :: bs, .tmp _ _ :: as, j, i, h => by
    simp only [findIx] at h
    obtain ⟨m, e, rfl⟩ := Option.map_eq_some_iff.mp h
    obtain ⟨h1, h2⟩ := findIx_some e
    exact ⟨by simpa using h1, by simpa using h2⟩
  | false :: bs, a :: as, j, i, h => by
    simp only [findIx] at h
    obtain ⟨m, e, rfl⟩ := Option.map_eq_some_iff.mp h
    obtain ⟨h1, h2⟩ := findIx_some e
    exact ⟨by simpa using h1, by simpa using h2⟩
structure CArgs (ρ : REnv) (sig : List Bool) (as : List Arg) (ds : List D) (is : List Nat) : Prop where
  l1 : ds.length = sig.length
  l2 : as.length = sig.length
  rd : ∀ (i : Nat) A, as[i]? = some A → ∃ o, rd ρ A = some o ∧ ds[i]? = some o.d ∧ (sig[i]? = some true → ∃ j, A = .late j ∧ o.m = .own ∧ j ∈ is)
  nd : is.Nodup
  mem : ∀ j ∈ is, ∃ i, findIx sig as j = some i
  uniq : ∀ (i j : Nat), sig[i]? = some true → as[i]? = some (.late j) → findIx sig as j = some i
  len : is.length = (sig.filter id).length
theorem cArgs_ok {ρ : REnv} : ∀ {sig : List Bool} {as : List Arg} {ds : List D} {is : List Nat}, cArgs ρ sig as = some (ds, is) → CArgs ρ sig as ds is
  | [], [], _, _, h => by
    simp only [cArgs] at h
    cases h
    exact ⟨rfl, rfl, (fun i A e => by simp at e), List.nodup_nil, (fun j hj => nomatch hj), (fun i j e => by simp at e), rfl⟩
  | [], _ :: _, _, _, h => by simp [cArgs] at h
  | _ :: _, [], _, _, h => by simp [cArgs] at h
  | b :: bs, A :: as, ds, is, h => by
    simp only [cArgs] at h
    split at h
    · rename_i o eo
      split at h
      · rename_i ds' is' e'
        have ih := cArgs_ok e'
        split at h
        · -- handed in
          have hd : ds = o.d :: ds' ∧ is = is' := by
            split at h
            · split at h
              · cases h
              · cases h; exact ⟨rfl, rfl⟩
            · cases h; exact ⟨rfl, rfl⟩
          obtain ⟨rfl, rfl⟩ := hd
          refine ⟨by simp [ih.l1], by simp [ih.l2], fun i B e => ?_, ih.nd, fun j hj => ?_, fun i j e1 e2 => ?_, by simpa using ih.len⟩
          · cases i with
            | zero =>
              have e : A = B := by simpa using e
              subst e
              exact ⟨o, eo, rfl, fun z => by simp at z⟩
            | succ i =>
              obtain ⟨o', h1, h2, h3⟩ := ih.rd i B (by simpa using e)
              exact ⟨o', h1, by simpa using h2, fun z => h3 (by simpa using z)⟩
          · obtain ⟨i, e⟩ := ih.mem j hj
            exact ⟨i + 1, by simp only [findIx, e]; rfl⟩
          · cases i with
            | zero => simp at e1
            | succ i => simp only [findIx, ih.uniq i j (by simpa using e1) (by simpa using e2)]; rfl
        · -- handed over
          split at h
          · rename_i i0 es em
            split at h
            · cases h
            · rename_i hn
              cases h
              have eA : A = .late i0 := by
                cases A with
                | late k =>
                  obtain ⟨sv, _, rfl⟩ := rd_late eo
                  cases es
                  rfl
                | tmp m d =>
                  cases eo; cases es
              subst eA
              refine ⟨by simp [ih.l1], by simp [ih.l2], fun i B e => ?_, List.nodup_cons.mpr ⟨hn, ih.nd⟩, fun j hj => ?_, fun i j e1 e2 => ?_, by simpa using ih.len⟩
              · cases i with
                | zero =>
                  have e : Arg.late i0 = B := by simpa using e
                  subst e
                  exact ⟨o, eo, rfl, fun _ => ⟨i0, rfl, em, List.mem_cons_self⟩⟩
                | succ i =>
                  obtain ⟨o', h1, h2, h3⟩ := ih.rd i B (by simpa using e)
                  refine ⟨o', h1, by simpa using h2, fun z => ?_⟩
                  obtain ⟨j, q1, q2, q3⟩ := h3 (by simpa using z)
                  exact ⟨j, q1, q2, List.mem_cons_of_mem _ q3⟩
              · rcases List.mem_cons.mp hj with rfl | hj
                · exact ⟨0, by simp only [findIx, if_true]⟩
                · obtain ⟨i, e⟩ := ih.mem j hj
                  have n : i0 ≠ j := fun z => hn (z ▸ hj)
                  exact ⟨i + 1, by simp only [findIx, if_neg n, e]; rfl⟩
              · cases i with
                | zero =>
                  have e : Arg.late i0 = Arg.late j := by simpa using e2
                  cases e
                  simp only [findIx, if_true]
                | succ i =>
                  have q := ih.uniq i j (by simpa using e1) (by simpa using e2)
                  have hj : j ∈ is' := by
                    obtain ⟨o', h1, h2, h3⟩ := ih.rd i (.late j) (by simpa using e2)
                    obtain ⟨j', q1, _, q3⟩ := h3 (by simpa using e1)
                    cases q1
                    exact q3
                  have n : i0 ≠ j := fun z => hn (z ▸ hj)
                  simp only [findIx, if_neg n, q]; rfl
          · cases h
      · cases h
    · cases h
theorem AR.len {σ : St} : ∀ {as : List Arg} {T : List (V × SV)} {vs : List V}, AR σ as T vs → vs.length = as.length
  | _, _, _, .nil => rfl
  | _, _, _, .late _ h => by rw [List.length_cons, List.length_cons, h.len]
  | _, _, _, .tmp h => by rw [List.length_cons, List.length_cons, h.len]
/-- where each argument is held -/
theorem AR.keys {ρ : REnv} {G : List (V × SV)} {σ : St} : ∀ {as : List Arg} {T : List (V × SV)} {vs : List V} {G0 : List (V × SV)}, AR σ as T vs → G = G0 ++ T →
    ∀ (i : Nat) A v o, as[i]? = some A → vs[i]? = some v → rd ρ A = some o → ∃ k, (aKeys G0.length as)[i]? = some k ∧ itm ρ G σ k = some (v, ⟨o.m, o.d⟩) ∧ (∀ j, A = .late j → k = .inl j) ∧ (∀ m d, A = .tmp m d → ∃ t, k = .inr t ∧ G0.length ≤ t)
  | [], _, _, _, .nil, _, i, A, v, o, e, _, _ => by simp at e
  | .late s :: as, T, _, G0, .late (v := u) hu ar, hG, i, A, v, o, e, ev, eo => by
    cases i with
    | zero =>
      have e : Arg.late s = A := by simpa using e
      subst e
      have ev : u = v := by simpa using ev
      subst ev
      obtain ⟨sv, es, rfl⟩ := rd_late eo
      exact ⟨.inl s, rfl, itm_slot es hu, (fun j q => by cases q; rfl), (fun m d q => by cases q)⟩
    | succ i =>
      obtain ⟨k, h1, h2, h3, h4⟩ := AR.keys ar hG i A v o (by simpa using e) (by simpa using ev) eo
      exact ⟨k, by simpa [aKeys] using h1, h2, h3, h4⟩
  | .tmp m d :: as, _, _, G0, .tmp (v := u) (T := T) ar, hG, i, A, v, o, e, ev, eo => by
    cases i with
    | zero =>
      have e : Arg.tmp m d = A := by simpa using e
      subst e
      have ev : u = v := by simpa using ev
      subst ev
      cases eo
      refine ⟨.inr G0.length, rfl, ?_, fun j q => (by cases q), fun m d q => ⟨_, rfl, Nat.le_refl _⟩⟩
      show G[G0.length]? = _
      rw [hG]
      simp
    | succ i =>
      obtain ⟨k, h1, h2, h3, h4⟩ := AR.keys (G := G) (G0 := G0 ++ [(u, ⟨m, d⟩)]) ar (by rw [hG]; simp) i A v o (by simpa using e) (by simpa using ev) eo
      refine ⟨k, ?_, h2, h3, fun m' d' q => ?_⟩
      · rw [List.length_append] at h1
        simpa [aKeys] using h1
      · obtain ⟨t, q1, q2⟩ := h4 m' d' q
        exact ⟨t, q1, by rw [List.length_append] at q2; omega⟩
theorem aKeys_len : ∀ (n : Nat) (as : List Arg), (aKeys n as).length = as.length
  | _, [] => rfl
  | n, .late _ :: as => by simp [aKeys, aKeys_len n as]
  | n, .tmp _ _ :: as => by simp [aKeys, aKeys_len (n + 1) as]
/-- no two arguments that are not the same name share a key -/
theorem aKeys_inj : ∀ (n : Nat) (as : List Arg) (i j : Nat) k, (aKeys n as)[i]? = some k → (aKeys n as)[j]? = some k → i ≠ j → ∃ s, as[i]? = some (.late s) ∧ as[j]? = some (.late s) ∧ k = .inl s := by
  have ge : ∀ (as : List Arg) (n i t : Nat), (aKeys n as)[i]? = some (.inr t) → n ≤ t := by
    intro as
    induction as with
    | nil => intro n i t h; simp [aKeys] at h
    | cons A as ih =>
      intro n i t h
      cases A with
      | late s =>
        cases i with
        | zero => simp [aKeys] at h
        | succ i => exact ih n i t (by simpa [aKeys] using h)
      | tmp m d =>
        cases i with
        | zero =>
          have h : n = t := by simpa [aKeys] using h
          omega
        | succ i =>
          have := ih (n + 1) i t (by simpa [aKeys] using h)
          omega
  intro n as
  induction as generalizing n with
  | nil => intro i j k h; simp [aKeys] at h
  | cons A as ih =>
    intro i j k h h' ne
    have inl_of : ∀ (as : List Arg) (n i s : Nat), (aKeys n as)[i]? = some (.inl s) → as[i]? = some (.late s) := by
      intro as
      induction as with
      | nil => intro n i s h; simp [aKeys] at h
      | cons B bs ihb =>
        intro n i s h
        cases B with
        | late q =>
          cases i with
          | zero =>
            have h : q = s := by simpa [aKeys] using h
            subst h; rfl
          | succ i => exact ihb n i s (by simpa [aKeys] using h)
        | tmp m d =>
          cases i with
          | zero => simp [aKeys] at h
          | succ i => exact ihb (n + 1) i s (by simpa [aKeys] using h)
    cases k with
    | inl s => exact ⟨s, inl_of _ n i s h, inl_of _ n j s h', rfl⟩
    | inr t =>
      cases A with
      | late s =>
        cases i with
        | zero => simp [aKeys] at h
        | succ i =>
          cases j with
          | zero => simp [aKeys] at h'
          | succ j =>
            obtain ⟨s', q1, q2, q3⟩ := ih n i j (.inr t) (by simpa [aKeys] using h) (by simpa [aKeys] using h') (by omega)
            cases q3
      | tmp m d =>
        cases i with
        | zero =>
          have e : n = t := by simpa [aKeys] using h
          cases j with
          | zero => exact (ne rfl).elim
          | succ j =>
            have := ge as (n + 1) j t (by simpa [aKeys] using h')
            omega
        | succ i =>
          cases j with
          | zero =>
            have e : n = t := by simpa [aKeys] using h'
            have := ge as (n + 1) i t (by simpa [aKeys] using h)
            omega
          | succ j =>
            obtain ⟨s', q1, q2, q3⟩ := ih (n + 1) i j (.inr t) (by simpa [aKeys] using h) (by simpa [aKeys] using h') (by omega)
            cases q3
end Wm
namespace Wm
open PySem PySem.Spec PyProof.Rows L2

def isOf : List Bool → List Arg → List Nat
  | true :: bs, .late i :: as => i :: isOf bs as
  | _ :: bs, _ :: as => isOf bs as
  | _, _ => []
theorem cArgs_is {ρ : REnv} : ∀ {sig : List Bool} {as : List Arg} {ds : List D} {is : List Nat}, cArgs ρ sig as = some (ds, is) → is = isOf sig as
  | [], [], _, _, h => by simp only [cArgs] at h; cases h; rfl
  | [], _ :: _, _, _, h => by simp [cArgs] at h
  | _ :: _, [], _, _, h => by simp [cArgs] at h
  | b :: bs, A :: as, ds, is, h => by
    simp only [cArgs] at h
    split at h
    · rename_i o eo
      split at h
      · rename_i ds' is' e'
        have ih := cArgs_is e'
        split at h
        · have hd : is = is' := by
            split at h
            · split at h
              · cases h
              · cases h; rfl
            · cases h; rfl
          subst hd
          simp only [isOf]
          exact ih
        · split at h
          · rename_i i0 es em
            split at h
            · cases h
            · cases h
              cases A with
              | late k =>
                obtain ⟨sv, _, rfl⟩ := rd_late eo
                cases es
                simp only [isOf]
                rw [ih]
              | tmp m d => cases eo; cases es
          · cases h
      · cases h
    · cases h
theorem putOuts_len : ∀ (is : List Nat) (outs : List D) (ρ : REnv), (putOuts ρ is outs).length = ρ.length
  | [], _, _ => rfl
  | _ :: _, [], _ => rfl
  | i :: is, d :: ds, ρ => by
    show (putOuts (ρ.set i (some (mkSV .own d))) is ds).length = _
    rw [putOuts_len is ds]
    simp
theorem putOuts_off : ∀ (is : List Nat) (outs : List D) (ρ : REnv) (s : Nat), s ∉ is → (putOuts ρ is outs)[s]? = ρ[s]?
  | [], _, _, _, _ => rfl
  | _ :: _, [], _, _, _ => rfl
  | i :: is, d :: ds, ρ, s, h => by
    show (putOuts (ρ.set i (some (mkSV .own d))) is ds)[s]? = _
    rw [putOuts_off is ds _ s fun z => h (List.mem_cons_of_mem _ z), List.getElem?_set_ne (fun z => h (by rw [z]; exact List.mem_cons_self))]
theorem putOuts_at : ∀ {sig : List Bool} {as : List Arg} {outs : List D} {s i : Nat} {ρ : REnv}, findIx sig as s = some i → outs.length = (isOf sig as).length → (isOf sig as).Nodup → s < ρ.length → (∀ (t : Nat) A, sig[t]? = some true → as[t]? = some A → ∃ j, A = .late j) →
    ∃ d, outAt sig outs i = some d ∧ (putOuts ρ (isOf sig as) outs)[s]? = some (some ⟨.own, d⟩)
  | [], _, _, _, _, _, h, _, _, _, _ => by simp [findIx] at h
  | b :: bs, [], _, _, _, _, h, _, _, _, _ => by cases b <;> simp [findIx] at h
  | true :: bs, .late k :: as, outs, s, i, ρ, h, hl, nd, hs, ok => by
    simp only [findIx] at h
    simp only [isOf] at hl nd ⊢
    cases outs with
    | nil => simp at hl
    | cons d ds =>
      have nd' := List.nodup_cons.mp nd
      split at h
      · rename_i e
        cases h
        subst e
        refine ⟨d, rfl, ?_⟩
        show (putOuts (ρ.set k (some (mkSV .own d))) (isOf bs as) ds)[k]? = _
        rw [putOuts_off _ _ _ _ nd'.1, List.getElem?_set_self hs]
        cases d <;> rfl
      · rename_i e
        obtain ⟨m, em, rfl⟩ := Option.map_eq_some_iff.mp h
        obtain ⟨d', h1, h2⟩ := putOuts_at (ρ := ρ.set k (some (mkSV .own d))) em (by simpa using hl) nd'.2 (by simpa using hs) (fun t A e1 e2 => ok (t + 1) A (by simpa using e1) (by simpa using e2))
        exact ⟨d', h1, h2⟩
  | true :: bs, .tmp _ _ :: as, outs, s, i, ρ, h, hl, nd, hs, ok => by
    obtain ⟨j, e⟩ := ok 0 _ rfl rfl
    cases e
  | false :: bs, A :: as, outs, s, i, ρ, h, hl, nd, hs, ok => by
    simp only [findIx] at h
    obtain ⟨m, em, rfl⟩ := Option.map_eq_some_iff.mp h
    simp only [isOf] at hl nd ⊢
    obtain ⟨d', h1, h2⟩ := putOuts_at (outs := outs) (ρ := ρ) em hl nd hs (fun t A e1 e2 => ok (t + 1) A (by simpa using e1) (by simpa using e2))
    refine ⟨d', ?_, h2⟩
    cases outs <;> exact h1
theorem apart_mem : ∀ {sig : List Bool} {as : List Arg} {is : List Nat}, apartArgs sig as is = true → ∀ (i s : Nat), sig[i]? = some false → as[i]? = some (.late s) → s ∉ is
  | [], _, _, _, i, s, e, _ => by simp at e
  | _ :: _, [], _, _, i, s, _, e => by simp at e
  | b :: bs, A :: as, is, h, i, s, e1, e2 => by
    simp only [apartArgs, Bool.and_eq_true] at h
    cases i with
    | zero =>
      have e1 : b = false := by simpa using e1
      have e2 : A = .late s := by simpa using e2
      subst e1 e2
      have h1 := h.1
      simp at h1
      exact h1
    | succ i => exact apart_mem h.2 i s (by simpa using e1) (by simpa using e2)
theorem noBrw_at {ρ : REnv} : ∀ {as : List Arg}, noBrw ρ as = true → ∀ (i : Nat) A o, as[i]? = some A → rd ρ A = some o → o.m = .brw → isW o.d = true
  | [], _, i, A, o, e, _, _ => by simp at e
  | B :: as, h, i, A, o, e, eo, m => by
    simp only [noBrw, Bool.and_eq_true] at h
    cases i with
    | zero =>
      have e : B = A := by simpa using e
      subst e
      have h1 := h.1
      rw [eo] at h1
      obtain ⟨s, m', d⟩ := o
      have m : m' = .brw := m
      subst m
      cases d <;> first | rfl | cases h1
    | succ i => exact noBrw_at h.2 i A o (by simpa using e) eo m
theorem call_rel {a : Act} {ρ ρ' : REnv} {sig : List Bool} {args : List Arg} {ds : List D} {is : List Nat} {G T : List (V × SV)} {σ : St} {H : Hp} {vs : List V} {p : Bool} (ec : cArgs ρ sig args = some (ds, is)) (ap : apartArgs sig args is = true) (ar : AR σ args T vs)
    (rel : Rel a ρ (G ++ T) σ H) (hc : ((outDs ρ is).all shallow = true ∧ ρ' = ρ) ∨ (pf p G ∧ p = false ∧ noBrw ρ args = true ∧ ρ' = killB ρ)) :
    ∃ Fs, SpIn a.K H sig ds vs Fs ∧ ∀ (outs : List D) (res : Option (V × SV)) (H' : Hp), outs.length = (sig.filter id).length → ExtM (MofS sig Fs) H H' → (∃ FP, Good a.K H (MofS sig Fs) H' (postIt sig vs outs res) FP) → (∀ x, res = some x → x.2.m = .own) → Rel a (putOuts ρ' is outs) (G ++ res.toList) σ H' := by
  obtain ⟨F, g⟩ := rel.good
  have C := cArgs_ok ec
  have ei := cArgs_is ec
  have lv : vs.length = sig.length := by rw [ar.len, C.l2]
  -- each argument
  have at_ : ∀ i : Nat, i < sig.length → ∃ A v o k, args[i]? = some A ∧ vs[i]? = some v ∧ rd ρ A = some o ∧ ds[i]? = some o.d ∧ (aKeys G.length args)[i]? = some k ∧ itm ρ (G ++ T) σ k = some (v, ⟨o.m, o.d⟩) ∧ (∀ j, A = .late j → k = .inl j) ∧
      (sig[i]? = some true → ∃ j, A = .late j ∧ o.m = .own ∧ j ∈ is ∧ k = .inl j) := fun i hi => by
    have h1 : i < args.length := by rw [C.l2]; exact hi
    have h2 : i < vs.length := by rw [lv]; exact hi
    obtain ⟨o, e1, e2, e3⟩ := C.rd i args[i] (List.getElem?_eq_getElem h1)
    obtain ⟨k, k1, k2, k3, _⟩ := AR.keys (ρ := ρ) ar rfl i args[i] vs[i] o (List.getElem?_eq_getElem h1) (List.getElem?_eq_getElem h2) e1
    refine ⟨_, _, o, k, List.getElem?_eq_getElem h1, List.getElem?_eq_getElem h2, e1, e2, k1, k2, k3, fun z => ?_⟩
    obtain ⟨j, q1, q2, q3⟩ := e3 z
    exact ⟨j, q1, q2, q3, k3 j q1⟩
  let Fs : Nat → List Addr := fun i => match (aKeys G.length args)[i]? with
    | some k => F k
    | none => []
  have eFs : ∀ {i k}, (aKeys G.length args)[i]? = some k → Fs i = F k := fun {i k} e => by
    show (match (aKeys G.length args)[i]? with | some k => F k | none => []) = _
    rw [e]
  have lt_of : ∀ {i : Nat} {b : Bool}, sig[i]? = some b → i < sig.length := fun e => (List.getElem?_eq_some_iff.mp e).1
  have sh : (outDs ρ is).all shallow = true → ∀ s ∈ is, ∀ sv, ρ[s]? = some (some sv) → shallow sv.d = true := fun h s hs sv e => by
    have : sv.d ∈ outDs ρ is := by
      unfold outDs
      rw [List.mem_filterMap]
      exact ⟨s, hs, by rw [e]⟩
    exact List.all_eq_true.mp h _ this
  -- what is handed over has no borrowed part
  have offB : ∀ s ∈ is, ∀ v d, itm ρ (G ++ T) σ (.inl s) = some (v, ⟨.own, d⟩) → ∀ k x, k ≠ .inl s → itm ρ (G ++ T) σ k = some x → x.2.m = .brw → (((outDs ρ is).all shallow = true) ∨ isW x.2.d = true) → ∀ b ∈ F (.inl s), b ∉ F k := fun s hs v d e k x n q m hh b hb => by
    rcases hh with hh | hh
    · have r1 := g.rep e
      have hsd : shallow d = true := sh hh s hs _ (itm_slot_inv e).1
      exact g.top (Ne.symm n) e q rfl m (by
        show b ∈ (topOf _).toList
        rw [shallow_top hsd r1 b hb]
        simp)
    · rw [isW_nil hh (g.rep (s := x.2) q)]
      exact fun z => nomatch z
  have spin : SpIn a.K H sig ds vs Fs := by
    refine ⟨C.l1, lv, fun i d v e1 e2 => ?_, fun i e => ?_, fun i j n hi hj e b hb => ?_⟩
    · have hi : i < sig.length := by rw [← C.l1]; exact (List.getElem?_eq_some_iff.mp e1).1
      obtain ⟨A, v', o, k, q1, q2, q3, q4, q5, q6, _⟩ := at_ i hi
      rw [e1] at q4; cases q4
      rw [e2] at q2; cases q2
      rw [eFs q5]
      exact g.rep q6
    · obtain ⟨A, v', o, k, q1, q2, q3, q4, q5, q6, q7, q8⟩ := at_ i (lt_of e)
      obtain ⟨s, z1, z2, z3, z4⟩ := q8 e
      rw [eFs q5]
      exact g.nd q6 z2
    · obtain ⟨A, v, o, k, q1, q2, q3, q4, q5, q6, q7, q8⟩ := at_ i hi
      obtain ⟨s, z1, z2, z3, z4⟩ := q8 e
      obtain ⟨A', v', o', k', q1', q2', q3', q4', q5', q6', q7', q8'⟩ := at_ j hj
      rw [eFs q5] at hb
      rw [eFs q5']
      have nk : k ≠ k' := fun z => by
        subst z
        obtain ⟨s', w1, w2, w3⟩ := aKeys_inj _ _ i j k q5 q5' n
        rw [w3] at z4; cases z4
        cases ej : sig[j]? with
        | none => exact absurd (List.getElem?_eq_none_iff.mp ej) (by omega)
        | some bj =>
          cases bj with
          | true =>
            have u1 := C.uniq i s e w1
            have u2 := C.uniq j s ej w2
            rw [u1] at u2
            exact n (Option.some.inj u2)
          | false => exact apart_mem ap j s ej w2 z3
      by_cases br : o'.m = .brw
      · subst z4
        have e6 : itm ρ (G ++ T) σ (.inl s) = some (v, ⟨.own, o.d⟩) := by rw [q6, z2]
        refine offB s z3 v o.d e6 k' _ (Ne.symm nk) q6' br ?_ b hb
        rcases hc with ⟨h, _⟩ | ⟨_, _, h, _⟩
        · exact .inl h
        · exact .inr (noBrw_at h j A' o' q1' q3' br)
      · exact g.dis nk q6 q6' z2 br b hb
  refine ⟨Fs, spin, fun outs res H' hl ext ⟨FP, gp⟩ hown => ?_⟩
  -- the slots handed over
  have io_own : ∀ s ∈ is, ∃ i v d, findIx sig args s = some i ∧ itm ρ (G ++ T) σ (.inl s) = some (v, ⟨.own, d⟩) ∧ Fs i = F (.inl s) ∧ vs[i]? = some v ∧ sig[i]? = some true := fun s hs => by
    obtain ⟨i, e⟩ := C.mem s hs
    obtain ⟨e1, e2⟩ := findIx_some e
    obtain ⟨A, v, o, k, q1, q2, q3, q4, q5, q6, q7, q8⟩ := at_ i (lt_of e1)
    obtain ⟨s', z1, z2, z3, z4⟩ := q8 e1
    rw [e2] at q1; cases q1; cases z1
    subst z4
    exact ⟨i, v, o.d, e, by rw [q6, z2], eFs q5, q2, e1⟩
  have hless : ∀ (j : Nat) (s : SV), ρ'[j]? = some (some s) → ρ[j]? = some (some s) := fun j s e => by
    rcases hc with ⟨_, rfl⟩ | ⟨_, _, _, rfl⟩
    · exact e
    · exact (killB_get e).1
  have hlen : ρ'.length = ρ.length := by
    rcases hc with ⟨_, rfl⟩ | ⟨_, _, _, rfl⟩
    · rfl
    · exact killB_len _
  have late_ok : ∀ (t : Nat) A, sig[t]? = some true → args[t]? = some A → ∃ j, A = .late j := fun t A e1 e2 => by
    obtain ⟨o, _, _, h⟩ := C.rd t A e2
    obtain ⟨j, h, _⟩ := h e1
    exact ⟨j, h⟩
  let it2 : Itm := fun k => match k with
    | .inl s => if s ∈ is then none else slotI ρ' σ s
    | .inr j => G[j]?
  have h2 : ∀ k x, it2 k = some x → itm ρ (G ++ T) σ k = some x ∧ ¬ (∃ s, k = .inl s ∧ s ∈ is) := fun k x q => by
    cases k with
    | inl s =>
      have q : (if s ∈ is then none else slotI ρ' σ s) = some x := q
      split at q
      · cases q
      · rename_i hn
        obtain ⟨q1, q2⟩ := slotI_inv q
        refine ⟨itm_slot (hless s _ q1) q2, fun ⟨s', e, hs⟩ => ?_⟩
        cases e
        exact hn hs
    | inr j => exact ⟨itm_pre q, fun ⟨s', e, _⟩ => by cases e⟩
  have gm := g.merge (it2 := it2) (it3 := itm (putOuts ρ' is outs) (G ++ res.toList) σ) (fun k => ∃ s, k = .inl s ∧ s ∈ is)
    (fun k ⟨s, e, hs⟩ => by
      obtain ⟨i, v, d, _, q, _⟩ := io_own s hs
      exact ⟨_, e ▸ q, rfl⟩)
    (fun b ⟨i, e, hb⟩ => by
      obtain ⟨A, v, o, k, q1, q2, q3, q4, q5, q6, q7, q8⟩ := at_ i (lt_of e)
      obtain ⟨s', z1, z2, z3, z4⟩ := q8 e
      rw [eFs q5] at hb
      exact ⟨k, ⟨s', z4, z3⟩, hb⟩)
    h2
    (fun k x q m b ⟨i, e, hb⟩ => by
      obtain ⟨A, v, o, k', q1, q2, q3, q4, q5, q6, q7, q8⟩ := at_ i (lt_of e)
      obtain ⟨s', z1, z2, z3, z4⟩ := q8 e
      rw [eFs q5] at hb
      subst z4
      obtain ⟨w1, w2⟩ := h2 k x q
      have nk : k ≠ .inl s' := fun z => w2 ⟨s', z, z3⟩
      refine offB s' z3 v o.d (by rw [q6, z2]) k x nk w1 m ?_ b hb
      rcases hc with ⟨h, _⟩ | ⟨hp, hp2, _, rfl⟩
      · exact .inl h
      · cases k with
        | inl s =>
          have q : (if s ∈ is then none else slotI (killB ρ) σ s) = some x := q
          split at q
          · cases q
          · exact .inr ((killB_get (slotI_inv q).1).2 m)
        | inr j => exact .inr (hp hp2 x (List.mem_of_getElem? q) m))
    ext (fun b n => rel.fresh n) gp
    (fun k x q => by
      cases k with
      | inl i =>
        have q : (match outAt sig outs i, vs[i]? with | some d, some u => some (u, (⟨.own, d⟩ : SV)) | _, _ => none) = some x := q
        split at q
        · cases q; rfl
        · cases q
      | inr j =>
        have q : (if j = 0 then res else none) = some x := q
        split at q
        · exact hown x q
        · cases q)
    (fun k => match k with
      | .inl s => if s ∈ is then (findIx sig args s).map Sum.inl else none
      | .inr j => if j = G.length then some (.inr 0) else none)
    (fun k k' kp e e' => by
      cases k with
      | inl s =>
        simp only at e
        split at e
        · obtain ⟨i, ei, rfl⟩ := Option.map_eq_some_iff.mp e
          cases k' with
          | inl s' =>
            simp only at e'
            split at e'
            · obtain ⟨i', ei', w⟩ := Option.map_eq_some_iff.mp e'
              cases w
              have u1 := (findIx_some ei).2
              have u2 := (findIx_some ei').2
              rw [u1] at u2; cases u2; rfl
            · cases e'
          | inr j =>
            simp only at e'
            split at e' <;> cases e'
        · cases e
      | inr j =>
        simp only at e
        split at e
        · rename_i hj
          cases e
          cases k' with
          | inl s' =>
            simp only at e'
            split at e'
            · obtain ⟨i', ei', w⟩ := Option.map_eq_some_iff.mp e'
              cases w
            · cases e'
          | inr j' =>
            simp only at e'
            split at e'
            · rename_i hj'
              rw [hj, hj']
            · cases e'
        · cases e)
    (fun k x q => by
      cases k with
      | inl s =>
        obtain ⟨q1, q2⟩ := itm_slot_inv q
        by_cases hs : s ∈ is
        · obtain ⟨i, v, d, f1, f2, f3, f4, f5⟩ := io_own s hs
          have hsl : s < ρ'.length := by rw [hlen]; exact (List.getElem?_eq_some_iff.mp (itm_slot_inv f2).1).1
          have nd2 := C.nd
          rw [ei] at nd2
          obtain ⟨d', o1, o2⟩ := putOuts_at (outs := outs) (ρ := ρ') f1 (by rw [← ei, C.len]; exact hl) nd2 hsl late_ok
          rw [← ei] at o2
          rw [o2] at q1
          have ex : x.2 = ⟨.own, d'⟩ := (Option.some.inj (Option.some.inj q1)).symm
          have ev : x.1 = v := by
            have z := (itm_slot_inv f2).2
            rw [q2] at z
            exact Option.some.inj (Option.some.inj z)
          simp only [if_pos hs, f1, Option.map_some]
          show (match outAt sig outs i, vs[i]? with | some d, some u => some (u, (⟨.own, d⟩ : SV)) | _, _ => none) = some x
          rw [o1, f4, ← ev]
          show some (x.1, (⟨.own, d'⟩ : SV)) = some x
          rw [← ex]
        · simp only [if_neg hs]
          show (if s ∈ is then none else slotI ρ' σ s) = some x
          rw [if_neg hs]
          rw [putOuts_off _ _ _ _ hs] at q1
          exact slotI_of q1 q2
      | inr j =>
        have q : (G ++ res.toList)[j]? = some x := q
        by_cases hj : j = G.length
        · simp only [if_pos hj]
          show (if (0 : Nat) = 0 then res else none) = some x
          rw [if_pos rfl]
          subst hj
          cases res with
          | none => simp at q
          | some y => simpa using q
        · simp only [if_neg hj]
          show G[j]? = some x
          by_cases hl2 : j < G.length
          · rw [List.getElem?_append_left hl2] at q; exact q
          · have : (G ++ res.toList).length ≤ j := by
              rw [List.length_append]
              cases res with
              | none => simp; omega
              | some y => simp; omega
            rw [List.getElem?_eq_none this] at q; cases q)
  refine ⟨by rw [putOuts_len, hlen]; exact rel.len, fun i s e => ?_, rel.pr, fun b o e m => ?_, _, gm⟩
  · by_cases hs : i ∈ is
    · obtain ⟨_, v, d, _, f2, _⟩ := io_own i hs
      exact ⟨v, (itm_slot_inv f2).2⟩
    · rw [putOuts_off _ _ _ _ hs] at e
      exact rel.sl i s (hless i s e)
  · refine ext b o (rel.ext b o e m) fun ⟨i, e1, hb⟩ => ?_
    obtain ⟨A, v, o', k, q1, q2, q3, q4, q5, q6, q7, q8⟩ := at_ i (lt_of e1)
    obtain ⟨s', z1, z2, z3, z4⟩ := q8 e1
    rw [eFs q5] at hb
    rcases g.mine q6 z2 b hb with n | n
    · rw [n] at e; cases e
    · exact m n
end Wm
namespace Wm
open PySem PySem.Spec PyProof.Rows L2

def bltNames : List Str := ["len", "sorted", "list", "tuple", "all", "any", "sum", "min", "max", "abs", "int", "isinstance", "range", "enumerate", "zip", "bool", "str", "dict", "set"]
def wX (a : Act) (mg : Str → Option Value) (Xc : Ex → REnv → Prop) : WX := fun cls d σ H => ∃ ρ x, Rel a ρ [] σ H ∧ ExR mg H cls d x ∧ Xc x ρ
structure Ctx (X : Cx) (a : Act) (T : Tab) (CS : CkT) (N : List Str) (sc : Scope) (R : Nat) : Prop where
  hN : X.N = N
  nd : N.Nodup
  hK : X.K = a.K
  scp : ∀ x k, sc.names.lookup x = some k → (k = .free → X.env.scope.names.lookup x = some .cell ∨ X.env.scope.names.lookup x = some .free) ∧ (k ≠ .free → X.env.scope.names.lookup x = some k)
  fn : ∀ x, locB sc x = true → X.fn x = true ∨ X.env.scope.names.lookup x = some .local
  kind : X.env.scope.kind = .function
  calm : X.calm = true
  room : Room R X.A
  blt : ∀ x ∈ bltNames, X.mg x = none
  tab : ∀ f fn, T.find f = some fn → fn.lvl ≤ R ∧ ∃ ad fd ps, X.mg f = some (.ref ad) ∧ FnOk X.prog X.w X.K X.mg X.base (L2.CX X.prog X.w) fn.lvl ad fd ps (spOf X.K X.mg fn) ∧ PySem.W.keepIn X.K (.ref ad) = true ∧ Binds X.K fd ps []
  pr : ∀ q ∈ a.pr, CS.pr.contains q.1 = true
  fs : ∀ f, CS.fs.contains f = true → (T.find f).isSome = true
  cst : ∀ x n, CS.cs.lookup x = some n → ∃ t, X.mg x = some (.int n t)
section
variable {X : Cx} {a : Act} {T : Tab} {CS : CkT} {N : List Str} {sc : Scope} {R : Nat}
theorem Ctx.vis (c : Ctx X a T CS N sc R) {x : Str} (h : visB sc x = true) : Vis X.env.scope x := by
  unfold visB at h
  split at h
  · rename_i e; exact .inl ((c.scp x _ e).2 (by decide))
  · rename_i e; exact .inr (.inl ((c.scp x _ e).2 (by decide)))
  · rename_i e
    rcases (c.scp x _ e).1 rfl with q | q
    · exact .inr (.inl q)
    · exact .inr (.inr q)
  · cases h
theorem Ctx.loc (c : Ctx X a T CS N sc R) {x : Str} (h : locB sc x = true) : Loc X.env.scope x := by
  unfold locB at h
  split at h
  · rename_i e; exact .inl ((c.scp x _ e).2 (by decide))
  · rename_i e; exact .inr ((c.scp x _ e).2 (by decide))
  · cases h
theorem Ctx.gl (c : Ctx X a T CS N sc R) {x : Str} (h : glB sc x = true) : Gl X x := by
  unfold glB at h
  split at h
  · rename_i e; exact (c.scp x _ e).2 (by decide)
  · cases h
theorem okName_of {x : Str} (h : okName x = true) : (x == ("__debug__" : Str)) = false ∧ (x == ("__classdict__" : Str)) = false ∧ x ≠ "__name__" := by
  unfold okName at h
  simp only [Bool.and_eq_true, Bool.not_eq_true', decide_eq_false_iff_not] at h
  exact ⟨h.1.1, h.1.2, h.2⟩
theorem vName_inv {e : Expr} {x : Str} (h : vName e = some x) : ∃ p, e = .Name x p := by
  cases e <;> first | (cases h; exact ⟨_, rfl⟩) | cases h
theorem vBin_inv {e l r : Expr} {o : Operator} (h : vBin e = some (l, o, r)) : ∃ p, e = .BinOp l o r p := by
  cases e <;> first | (cases h; exact ⟨_, rfl⟩) | cases h
theorem vUn_inv {e l : Expr} {o : UnaryOp} (h : vUn e = some (o, l)) : ∃ p, e = .UnaryOp o l p := by
  cases e <;> first | (cases h; exact ⟨_, rfl⟩) | cases h
theorem vCmp_inv {e l : Expr} {o : List CmpOp} {r : List Expr} (h : vCmp e = some (l, o, r)) : ∃ p, e = .Compare l o r p := by
  cases e <;> first | (cases h; exact ⟨_, rfl⟩) | cases h
theorem vBool_inv {e : Expr} {o : BoolOp} {r : List Expr} {p : Pos} (h : vBool e = some (o, r, p)) : e = .BoolOp o r p := by
  cases e <;> first | (cases h; rfl) | cases h
theorem vIf_inv {e c x y : Expr} (h : vIf e = some (c, x, y)) : ∃ p, e = .IfExp c x y p := by
  cases e <;> first | (cases h; exact ⟨_, rfl⟩) | cases h
theorem vCall_inv {e f : Expr} {as : List Expr} {k : List Keyword} {p : Pos} (h : vCall e = some (f, as, k, p)) : e = .Call f as k p := by
  cases e <;> first | (cases h; rfl) | cases h
theorem vAttr_inv {e f : Expr} {x : Str} {p : Pos} (h : vAttr e = some (f, x, p)) : e = .Attribute f x p := by
  cases e <;> first | (cases h; rfl) | cases h
theorem vSub_inv {e x y : Expr} (h : vSub e = some (x, y)) : ∃ p, e = .Subscript x y p := by
  cases e <;> first | (cases h; exact ⟨_, rfl⟩) | cases h
theorem vSlice_inv {e : Expr} {x y z : Option Expr} (h : vSlice e = some (x, y, z)) : ∃ p, e = .Slice x y z p := by
  cases e <;> first | (cases h; exact ⟨_, rfl⟩) | cases h
theorem vList_inv {e : Expr} {es : List Expr} (h : vList e = some es) : ∃ p, e = .List es p := by
  cases e <;> first | (cases h; exact ⟨_, rfl⟩) | cases h
theorem vTuple_inv {e : Expr} {es : List Expr} (h : vTuple e = some es) : ∃ k p, e = .Tuple es k p := by
  cases e <;> first | (cases h; exact ⟨_, _, rfl⟩) | cases h
theorem vConst_inv {e : Expr} {c : Const} (h : vConst e = some c) : ∃ k p, e = .Constant c k p := by
  cases e <;> first | (cases h; exact ⟨_, _, rfl⟩) | cases h
theorem vLc_inv {e x : Expr} {g : List Comprehension} {s : Scope} (h : vLc e = some (x, g, s)) : ∃ p, e = .ListComp x g s p := by
  cases e <;> first | (cases h; exact ⟨_, rfl⟩) | cases h
theorem star_plain {e : Expr} (es : List Expr) (env : Env) (h : plainE e = true) : starEach (e :: es) env = (false, eval e env) :: starEach es env := by
  cases e <;> first | rfl | cases h
theorem plainIx {b : Expr} (h : plainE b = true) : PlainIx b := fun o i => by
  cases b <;> first | rfl | cases h
theorem folded_plain {e : Expr} (env : Env) (h : plainE e = true) : ∀ x, foldedSetIterable e env x = pure x := fun x => by
  cases e <;> first | rfl | cases h
theorem swaps_plain {e : Expr} {tg : Option Expr} {l : Nat} {env : Env} (h : notComp e = true) : swapsWith e tg l env = pure false := by
  cases e <;> first | rfl | cases h
/-- a name that is a slot -/
theorem Ctx.peVar (c : Ctx X a T CS N sc R) {i : Nat} {e : Expr} (h : chkVar N sc i e = true) : PE X e (tVar i) := by
  unfold chkVar at h
  split at h
  · rename_i x ex
    simp only [Bool.and_eq_true, decide_eq_true_eq] at h
    obtain ⟨p, rfl⟩ := vName_inv ex
    obtain ⟨n1, n2, n3⟩ := okName_of h.2
    exact pe_var (by rw [c.hN]; exact h.1.1) (c.vis h.1.2) n1 n2
  · cases h
end
def tE (a : Act) (T : Tab) (Xc : Ex → REnv → Prop) (e : E) : TE := fun σ H Q => ∃ p ρ G Q0, pf p G ∧ Rel a ρ G σ H ∧ wpE T Xc p e ρ Q0 ∧ ∀ s ρ' v H', Q0 s ρ' → Rel a ρ' (G ++ [(v, s)]) σ H' → Q v H'
def tT (a : Act) (T : Tab) (Xc : Ex → REnv → Prop) (e : E) : TT := fun σ H Q => ∃ p ρ G Q0, pf p G ∧ Rel a ρ G σ H ∧ wpE T Xc p e ρ Q0 ∧ ∀ s ρ' H', Q0 s ρ' → Rel a ρ' G σ H' → ∃ b, boolOf s = some b ∧ Q b H'
def tAr (a : Act) (T : Tab) (Xc : Ex → REnv → Prop) (e : E) : TE := match e with
  | .var i => tVar i
  | e => tE a T Xc e
def tAs (a : Act) (T : Tab) (Xc : Ex → REnv → Prop) (es : Es) : TA := fun σ H R => ∃ p ρ G Q0, pf p G ∧ Rel a ρ G σ H ∧ wpAs T Xc p es ρ Q0 ∧ ∀ args ρ' T' vs H', Q0 args ρ' → AR σ args T' vs → Rel a ρ' (G ++ T') σ H' → R vs H'
theorem PE.mono {X : Cx} {e : Expr} {t t' : TE} (h : PE X e t) (k : ∀ σ H Q, t' σ H Q → t σ H Q) : PE X e t' := ⟨fun pins s σ H Q I q => h.run pins s σ H Q I (k σ H Q q)⟩
theorem PT.mono {X : Cx} {e : Expr} {t t' : TT} (h : PT X e t) (k : ∀ σ H Q, t' σ H Q → t σ H Q) : PT X e t' := ⟨fun pins s σ H Q I q => h.run pins s σ H Q I (k σ H Q q)⟩
theorem PA.mono {X : Cx} {e : List Expr} {t t' : TA} (h : PA X e t) (k : ∀ σ H Q, t' σ H Q → t σ H Q) : PA X e t' := ⟨fun pos pins s σ H Q I q => h.run pos pins s σ H Q I (k σ H Q q)⟩
theorem PE.or {X : Cx} {e : Expr} {t t' : TE} (h : PE X e t) (h' : PE X e t') : PE X e (fun σ H Q => t σ H Q ∨ t' σ H Q) := ⟨fun pins s σ H Q I q => q.elim (h.run pins s σ H Q I) (h'.run pins s σ H Q I)⟩
section
variable {X : Cx} {a : Act} {T : Tab} {CS : CkT} {N : List Str} {sc : Scope} {R : Nat} {Xc : Ex → REnv → Prop}
def notVar : E → Bool
  | .var _ => false
  | _ => true
theorem wpAs_cons {p : Bool} {e : E} {es : Es} {ρ : REnv} {Q : List Arg → REnv → Prop} (h : notVar e = true) : wpAs T Xc p (.cons e es) ρ Q = wpE T Xc p e ρ fun s ρ' => wpAs T Xc (p || heldB ⟨none, s.m, s.d⟩) es ρ' fun as ρ2 => Q (.tmp s.m s.d :: as) ρ2 := by
  cases e <;> first | rfl | cases h
theorem pf_push {p : Bool} {G : List (V × SV)} {v : V} {s : SV} (h : pf p G) : pf (p || heldB ⟨none, s.m, s.d⟩) (G ++ [(v, s)]) := fun e y hy m => by
  rw [Bool.or_eq_false_iff] at e
  rcases List.mem_append.mp hy with hy | hy
  · exact h e.1 y hy m
  · cases List.mem_singleton.mp hy
    obtain ⟨m', d⟩ := s
    have m : m' = .brw := m
    subst m
    have e2 := e.2
    cases d <;> first | rfl | cases e2
theorem tAs_nil {σ : St} {H : Hp} {R : List V → Hp → Prop} (h : tAs a T Xc .nil σ H R) : R [] H := by
  obtain ⟨p, ρ, G, Q0, hp, rel, q, k⟩ := h
  exact k [] ρ [] [] H q .nil (by rw [List.append_nil]; exact rel)
theorem tAs_cons {e : E} {es : Es} {σ : St} {H : Hp} {R : List V → Hp → Prop} (h : tAs a T Xc (.cons e es) σ H R) : tAr a T Xc e σ H fun v H1 => tAs a T Xc es σ H1 fun vs H2 => R (v :: vs) H2 := by
  obtain ⟨p, ρ, G, Q0, hp, rel, q, k⟩ := h
  cases hv : notVar e with
  | false =>
    cases e with
    | var i =>
      have q : (match ρ[i]? with | some (some _) => wpAs T Xc p es ρ fun as ρ' => Q0 (.late i :: as) ρ' | _ => False) := q
      split at q
      · rename_i s es
        obtain ⟨v, ev⟩ := rel.sl i s es
        exact ⟨v, ev, p, ρ, G, _, hp, rel, q, fun args ρ' T' vs H' q' ar r => k _ ρ' T' (v :: vs) H' q' (.late ev ar) r⟩
      · exact q.elim
    | _ => cases hv
  | true =>
    rw [wpAs_cons hv] at q
    have go : tE a T Xc e σ H fun v H1 => tAs a T Xc es σ H1 fun vs H2 => R (v :: vs) H2 :=
      ⟨p, ρ, G, _, hp, rel, q, fun s ρ' v H' q' r => ⟨_, ρ', G ++ [(v, s)], _, pf_push hp, r, q', fun args ρ2 T' vs H2 q2 ar r2 => k _ ρ2 ((v, s) :: T') (v :: vs) H2 q2 (.tmp ar) (by rw [List.append_cons]; exact r2)⟩⟩
    cases e <;> first | exact go | cases hv
theorem tE_mono {e : E} {σ : St} {H : Hp} {Q Q' : VK} (k : ∀ v H', Q v H' → Q' v H') (h : tE a T Xc e σ H Q) : tE a T Xc e σ H Q' := by
  obtain ⟨p, ρ, G, Q0, hp, rel, q, f⟩ := h
  exact ⟨p, ρ, G, Q0, hp, rel, q, fun s ρ' v H' q' r => k v H' (f s ρ' v H' q' r)⟩
theorem tAr_mono {e : E} {σ : St} {H : Hp} {Q Q' : VK} (k : ∀ v H', Q v H' → Q' v H') (h : tAr a T Xc e σ H Q) : tAr a T Xc e σ H Q' := by
  cases e <;> first
    | exact tE_mono k h
    | (obtain ⟨v, e, q⟩ := h
       exact ⟨v, e, k _ _ q⟩)
theorem tAs_one {x : E} {σ : St} {H : Hp} {R : List V → Hp → Prop} (h : tAs a T Xc (.cons x .nil) σ H R) : tAr a T Xc x σ H fun v H1 => R [v] H1 :=
  tAr_mono (fun v H1 q => tAs_nil q) (tAs_cons h)
/-- .. of two, three operands -/
theorem tAs_two {x y : E} {σ : St} {H : Hp} {R : List V → Hp → Prop} (h : tAs a T Xc (.cons x (.cons y .nil)) σ H R) : tAr a T Xc x σ H fun v H1 => tAr a T Xc y σ H1 fun u H2 => R [v, u] H2 :=
  tAr_mono (fun v H1 q => tAs_one q) (tAs_cons h)
theorem tAs_three {x y z : E} {σ : St} {H : Hp} {R : List V → Hp → Prop} (h : tAs a T Xc (.cons x (.cons y (.cons z .nil))) σ H R) : tAr a T Xc x σ H fun v H1 => tAr a T Xc y σ H1 fun u H2 => tAr a T Xc z σ H2 fun w H3 => R [v, u, w] H3 :=
  tAr_mono (fun v H1 q => tAs_two q) (tAs_cons h)
/-- an operation's reading, by its operands' -/
theorem tE_op {o : Prim} {as : Es} {r : List V → Hp → VK → Prop} (ok : POk a o r) {σ : St} {H : Hp} {Q : VK} (h : tE a T Xc (.op o as) σ H Q) : tAs a T Xc as σ H fun vs H1 => r vs H1 Q := by
  obtain ⟨p, ρ, G, Q0, hp, rel, q, f⟩ := h
  exact ⟨p, ρ, G, fun args ρ' => prim o args p ρ' Q0, hp, rel, q, fun args ρ' T' vs H' q' ar r' => ok.run q' hp ar r' f⟩
theorem tT_op {o : Prim} {as : Es} {r : List V → Hp → VK → Prop} (ok : POk a o r) {σ : St} {H : Hp} {Q : Bool → Hp → Prop} (hb : ∀ {args : List Arg} {p : Bool} {ρ : REnv} {Q0 : SV → REnv → Prop}, prim o args p ρ Q0 → prim o args p ρ fun s ρ' => Q0 s ρ' ∧ ∃ b, s = sw (.bl b)) (h : tT a T Xc (.op o as) σ H Q) :
    tAs a T Xc as σ H fun vs H1 => r vs H1 fun v H2 => ∃ b, v = .bl b ∧ Q b H2 := by
  obtain ⟨p, ρ, G, Q0, hp, rel, q, f⟩ := h
  refine ⟨p, ρ, G, fun args ρ' => prim o args p ρ' Q0, hp, rel, q, fun args ρ' T' vs H' q' ar r' => ok.run (hb q') hp ar r' fun s ρ2 v H2 q2 r2 => ?_⟩
  obtain ⟨q3, b, rfl⟩ := q2
  obtain ⟨b', e1, e2⟩ := f _ ρ2 H2 q3 r2.pre
  cases e1
  obtain ⟨F, g⟩ := r2.good
  have z := g.rep (k := .inr G.length) (v := v) (s := sw (.bl b)) (by show (G ++ [(v, sw (.bl b))])[G.length]? = _; simp)
  exact ⟨b, z.1, e2⟩
end
end Wm
namespace Wm
open PySem PySem.Spec PyProof.Rows L2

theorem perm_lift {α β : Type} {f : α → β} {x y : List β} (h : x.Perm y) : ∀ l : List α, l.map f = x → ∃ l' : List α, l'.Perm l ∧ l'.map f = y := by
  induction h with
  | nil => intro l e; exact ⟨l, .refl _, e⟩
  | cons a _ ih =>
    intro l e
    cases l with
    | nil => cases e
    | cons b l =>
      injection e with e1 e2
      obtain ⟨l', p, e'⟩ := ih l e2
      exact ⟨b :: l', p.cons b, by rw [List.map_cons, e1, e']⟩
  | swap a b t =>
    intro l e
    match l, e with
    | [], e => cases e
    | [u], e => injection e with _ e; cases e
    | u :: v :: l, e =>
      injection e with e1 e2
      injection e2 with e2 e3
      exact ⟨v :: u :: l, List.Perm.swap u v l, by rw [List.map_cons, List.map_cons, e1, e2, e3]⟩
  | trans _ _ ih1 ih2 =>
    intro l e
    obtain ⟨l1, p1, e1⟩ := ih1 l e
    obtain ⟨l2, p2, e2⟩ := ih2 l1 e1
    exact ⟨l2, p2.trans p1, e2⟩
theorem lex_le_trans : ∀ {x y z : List Int}, HT.lexLt y x = false → HT.lexLt z y = false → HT.lexLt z x = false
  | [], _, [], _, _ => rfl
  | [], [], _ :: _, _, h => by exact h
  | [], _ :: _, _ :: _, _, _ => rfl
  | _ :: _, [], [], h, _ => by cases h
  | _ :: _, [], _ :: _, h, _ => by cases h
  | _ :: _, _ :: _, [], _, h => by cases h
  | x :: xs, y :: ys, z :: zs, h1, h2 => by
    rw [HT.lexLt_cons] at h1 h2 ⊢
    by_cases e1 : y = x
    · rw [if_pos e1] at h1
      by_cases e2 : z = y
      · rw [if_pos e2] at h2
        rw [if_pos (e2.trans e1)]
        exact lex_le_trans h1 h2
      · rw [if_neg e2] at h2
        have := of_decide_eq_false h2
        rw [if_neg (by omega)]
        exact decide_eq_false (by omega)
    · rw [if_neg e1] at h1
      have a := of_decide_eq_false h1
      by_cases e2 : z = y
      · rw [if_neg (by omega)]
        exact decide_eq_false (by omega)
      · rw [if_neg e2] at h2
        have b := of_decide_eq_false h2
        rw [if_neg (by omega)]
        exact decide_eq_false (by omega)
theorem lex_antisymm : ∀ {x y : List Int}, HT.lexLt y x = false → HT.lexLt x y = false → x = y
  | [], [], _, _ => rfl
  | [], _ :: _, _, h => by cases h
  | _ :: _, [], h, _ => by cases h
  | x :: xs, y :: ys, h1, h2 => by
    rw [HT.lexLt_cons] at h1 h2
    by_cases e : y = x
    · subst e
      rw [if_pos rfl] at h1 h2
      rw [lex_antisymm h1 h2]
    · rw [if_neg e] at h1
      rw [if_neg (Ne.symm e)] at h2
      have a := of_decide_eq_false h1
      have b := of_decide_eq_false h2
      omega
theorem lex_asymm : ∀ {x y : List Int}, HT.lexLt x y = true → HT.lexLt y x = false
  | [], [], h => by cases h
  | [], _ :: _, _ => rfl
  | _ :: _, [], h => by cases h
  | x :: xs, y :: ys, h => by
    rw [HT.lexLt_cons] at h ⊢
    by_cases e : x = y
    · subst e
      rw [if_pos rfl] at h ⊢
      exact lex_asymm h
    · rw [if_neg e] at h
      rw [if_neg (Ne.symm e)]
      have := of_decide_eq_true h
      exact decide_eq_false (by omega)
def SrtT (l : List (List Int)) : Prop := l.Pairwise fun a b => HT.lexLt b a = false
theorem insT_perm (x : List Int) : ∀ l, (insT x l).Perm (x :: l)
  | [] => .refl _
  | y :: l => by
    unfold insT
    split
    · exact ((insT_perm x l).cons y).trans (List.Perm.swap x y l)
    · exact .refl _
theorem sortT_perm : ∀ l, (sortT l).Perm l
  | [] => .refl _
  | x :: l => (insT_perm x _).trans ((sortT_perm l).cons x)
theorem insT_srt (x : List Int) : ∀ {l}, SrtT l → SrtT (insT x l)
  | [], _ => List.pairwise_singleton _ _
  | y :: l, h => by
    obtain ⟨h1, h2⟩ := List.pairwise_cons.mp h
    unfold insT
    split
    · rename_i hy
      refine List.pairwise_cons.mpr ⟨fun z hz => ?_, insT_srt x h2⟩
      rcases List.mem_cons.mp ((insT_perm x l).mem_iff.mp hz) with rfl | hz
      · exact lex_asymm hy
      · exact h1 z hz
    · rename_i hy
      have hy : HT.lexLt y x = false := by simpa using hy
      refine List.pairwise_cons.mpr ⟨fun z hz => ?_, h⟩
      rcases List.mem_cons.mp hz with rfl | hz
      · exact hy
      · exact lex_le_trans hy (h1 z hz)
theorem sortT_srt : ∀ l, SrtT (sortT l)
  | [] => List.Pairwise.nil
  | x :: l => insT_srt x (sortT_srt l)
theorem sortT_eq {l m : List (List Int)} (p : m.Perm l) (s : SrtT m) : m = sortT l :=
  List.Perm.eq_of_pairwise (fun a b _ _ h1 h2 => lex_antisymm h1 h2) s (sortT_srt l) (p.trans (sortT_perm l).symm)
def SrtI (l : List Int) : Prop := l.Pairwise (· ≤ ·)
theorem insI_perm (x : Int) : ∀ l, (insI x l).Perm (x :: l)
  | [] => .refl _
  | y :: l => by
    unfold insI
    split
    · exact ((insI_perm x l).cons y).trans (List.Perm.swap x y l)
    · exact .refl _
theorem sortI_perm : ∀ l, (sortI l).Perm l
  | [] => .refl _
  | x :: l => (insI_perm x _).trans ((sortI_perm l).cons x)
theorem insI_srt (x : Int) : ∀ {l}, SrtI l → SrtI (insI x l)
  | [], _ => List.pairwise_singleton _ _
  | y :: l, h => by
    obtain ⟨h1, h2⟩ := List.pairwise_cons.mp h
    unfold insI
    split
    · rename_i hy
      refine List.pairwise_cons.mpr ⟨fun z hz => ?_, insI_srt x h2⟩
      rcases List.mem_cons.mp ((insI_perm x l).mem_iff.mp hz) with rfl | hz
      · omega
      · exact h1 z hz
    · rename_i hy
      refine List.pairwise_cons.mpr ⟨fun z hz => ?_, h⟩
      rcases List.mem_cons.mp hz with rfl | hz
      · omega
      · have := h1 z hz
        omega
theorem sortI_srt : ∀ l, SrtI (sortI l)
  | [] => List.Pairwise.nil
  | x :: l => insI_srt x (sortI_srt l)
theorem sortI_eq {l m : List Int} (p : m.Perm l) (s : SrtI m) : m = sortI l :=
  List.Perm.eq_of_pairwise (fun a b _ _ h1 h2 => by omega) s (sortI_srt l) (p.trans (sortI_perm l).symm)
end Wm
namespace Wm
open PySem PySem.Spec PyProof.Rows L2

theorem lexLt_key : ∀ x y : List Int, PyProof.Rows.lexLt itemOrd (x.map Sum.inl) (y.map Sum.inl) = HT.lexLt x y
  | [], [] => rfl
  | [], _ :: _ => rfl
  | _ :: _, [] => rfl
  | x :: xs, y :: ys => by
    rw [List.map_cons, List.map_cons, PyProof.Rows.lex_cons, HT.lexLt_cons, lexLt_key xs ys]
    show (decide (x < y) || (!decide (y < x) && HT.lexLt xs ys)) = _
    by_cases e : x = y
    · subst e
      rw [if_pos rfl]
      simp
    · rw [if_neg e]
      by_cases h : x < y
      · simp [h]
      · have h2 : y < x := by omega
        simp [h, h2]
theorem items_ints : ∀ {t : List Int} {its : List Value} {i : Nat}, Vals (t.map V.int) its → tupItems (fun _ => false) i its = some (t.map Sum.inl)
  | [], _, _, h => by cases h; rfl
  | n :: t, _, i, .cons r h => by
    obtain ⟨k, rfl⟩ := r
    show (if (false : Bool) = true then none else (tupItems (fun _ => false) (i + 1) _).map (Sum.inl n :: ·)) = _
    rw [if_neg (by decide), items_ints h]
    rfl
abbrev Tr := List Int × V × Value
structure TrOk (K : PySem.W.Frag) (H : Hp) (h : Heap) (x : Tr) : Prop where
  rel : RelV x.2.1 x.2.2
  rw_ : RW K H (wT x.1) x.2.1
  key : G.tupKeyC h (fun _ => false) x.2.2 = some (x.1.map Sum.inl)
  of : 0 < x.1.length → ∃ f, TupOf h (fun _ => false) x.2.2 f
theorem tr_ok {X : Cx} {pins : List (Addr × Obj)} {σ : St} {H : Hp} {s : Shared} (I : Inv X pins σ H s) {t : List Int} {x : V} {v : Value} (r : RelV x v) (rw' : RW X.K H (wT t) x) : TrOk X.K H s.heap (t, x, v) := by
  have rw2 := rw'
  obtain ⟨a, vs, rfl, ha, h⟩ := rw'
  have hv : v = .ref a := r
  subst hv
  obtain ⟨_, its, rv, o, e, hc, n, hd⟩ := I.hok a _ ha
  have ev : vs = t.map V.int := h.ints
  subst ev
  refine ⟨r, rw2, ?_, fun hp => ?_⟩
  · unfold G.tupKeyC
    have e1 : G.isTupObj s.heap (.ref a) = true := by
      simp only [G.isTupObj, e, hc]
      rfl
    rw [if_pos e1]
    simp only [tupKey, e, hd]
    exact items_ints rv
  · cases t with
    | nil => cases hp
    | cons i t =>
      cases rv with
      | cons r1 r2 =>
        obtain ⟨k, rfl⟩ := r1
        exact ⟨.int i k, a, o, _, n, rfl, e, hc, hd, rfl, fun _ => ⟨i, k, rfl⟩, fun z => nomatch z⟩
theorem trs_of {X : Cx} {pins : List (Addr × Obj)} {σ : St} {H : Hp} {s : Shared} (I : Inv X pins σ H s) : ∀ {ts : List (List Int)} {vs : List V} {us : List Value}, RWs X.K H (ts.map wT) vs → Vals vs us → ∃ tr : List Tr, tr.map (·.1) = ts ∧ tr.map (·.2.1) = vs ∧ tr.map (·.2.2) = us ∧ ∀ x ∈ tr, TrOk X.K H s.heap x
  | [], _, _, h, r => by
    cases (show _ = [] from h)
    cases r
    exact ⟨[], rfl, rfl, rfl, fun _ h => nomatch h⟩
  | t :: ts, _, _, ⟨v, vs, e, h1, h2⟩, r => by
    subst e
    cases r with
    | cons r1 r2 =>
      obtain ⟨tr, e1, e2, e3, ok⟩ := trs_of I h2 r2
      refine ⟨(t, v, _) :: tr, by rw [List.map_cons, e1], by rw [List.map_cons, e2], by rw [List.map_cons, e3], fun x hx => ?_⟩
      rcases List.mem_cons.mp hx with rfl | hx
      · exact tr_ok I r1 h1
      · exact ok x hx
theorem tups_of {K : PySem.W.Frag} {H : Hp} {h : Heap} : ∀ {tr : List Tr}, (∀ x ∈ tr, TrOk K H h x ∧ 0 < x.1.length) → ∃ fs, TupsOf h (fun _ => false) (tr.map (·.2.2)) fs
  | [], _ => ⟨[], .nil⟩
  | x :: tr, ok => by
    obtain ⟨fs, hf⟩ := tups_of fun y hy => ok y (List.mem_cons_of_mem _ hy)
    obtain ⟨o1, o2⟩ := ok x List.mem_cons_self
    obtain ⟨f, hx⟩ := o1.of o2
    exact ⟨f :: fs, .cons hx hf⟩
theorem rws_tr {K : PySem.W.Frag} {H : Hp} {h : Heap} : ∀ {tr : List Tr}, (∀ x ∈ tr, TrOk K H h x) → RWs K H ((tr.map (·.1)).map wT) (tr.map (·.2.1)) ∧ Vals (tr.map (·.2.1)) (tr.map (·.2.2))
  | [], _ => ⟨rfl, .nil⟩
  | x :: tr, ok => by
    obtain ⟨h1, h2⟩ := rws_tr fun y hy => ok y (List.mem_cons_of_mem _ hy)
    have o1 := ok x List.mem_cons_self
    exact ⟨⟨_, _, rfl, o1.rw_, h1⟩, .cons o1.rel h2⟩
theorem rws_ints {K : PySem.W.Frag} {H : Hp} : ∀ is : List Int, RWs K H (is.map .int) (is.map V.int)
  | [] => rfl
  | _ :: is => ⟨_, _, rfl, rfl, rws_ints is⟩
/-- sorted, when what is collected is known -/
theorem sorted_gen {X : Cx} {pins : List (Addr × Obj)} {σ : St} {H : Hp} {s : Shared} {r : Value} {Q : VK} {ws ws' : List W} {vsV : List V} (I : Inv X pins σ H s) (hw : RWs X.K H ws vsV) (hz : vsV.length ≤ sizeLine) (srt : SortsTo ws ws')
    (col : ∀ R : List Value → Shared → Prop, (∀ s' acc, Inv X pins σ H s' → Vals vsV acc → R acc s') → wpAny (model X.prog X.w) X.A.in1 (collect r) R X.xe s)
    (k : ∀ p vs, H p = none → RWs X.K H ws' vs → Q (.ref p) (upd H p (.lst vs))) : wpAny (model X.prog X.w) X.A (call (.builtin "sorted") [r]) (EP X pins σ Q) X.xe s := by
  refine Calls.call_function_entry PyProof.Rows.kind_sorted PyProof.Rows.plain_sorted PyProof.Rows.entry_sorted (PyProof.Rows.args_sorted1 _) ?_
  unfold Builtin.«sorted»
  refine wpAny_bind (m := checkCount "sorted" 1 1 _) (wpAny_pure ?_)
  refine wpAny_bind (col _ fun s1 acc I1 rv => ?_)
  have hz1 : acc.length ≤ sizeLine := by rw [← rv.length]; exact hz
  refine wpAny_bind (wpAny_newList ?_ hz1)
  have hoL : (s1.heap.push (seqObj "list" acc.toArray 0)).get? s1.heap.objs.size = some (seqObj "list" acc.toArray 0) := Heap.get?_push_size _ rfl
  have hH : H s1.heap.objs.size = none := I1.hok.fresh (Nat.le_refl _)
  show wpAny _ _ _ _ _ { s1 with heap := s1.heap.push (seqObj "list" acc.toArray 0) }
  have keep : ∀ (out : Array Value) b u, s1.heap.get? b = some u → (sortedHeap (s1.heap.push (seqObj "list" acc.toArray 0)) s1.heap.objs.size acc out).get? b = some u := fun out b u e => by
    have hb : b < s1.heap.objs.size := Heap.lt_size e
    rw [PyProof.Rows.sortedHeap_old (Nat.ne_of_lt hb) (by rw [size_push']; exact Nat.lt_succ_of_lt hb)]
    exact Heap.get?_push_of_some _ e
  have fin : ∀ (out : Array Value) (vs : List V), Vals vs out.toList → vs.length ≤ sizeLine → RWs X.K H ws' vs → EP X pins σ Q (.ref s1.heap.objs.size) { s1 with heap := sortedHeap (s1.heap.push (seqObj "list" acc.toArray 0)) s1.heap.objs.size acc out } := fun out vs rv2 hl hr => by
    obtain ⟨e', he'⟩ := PyProof.Rows.sortedHeap_at (vs := acc) (out := out) hoL
    exact ⟨.ref s1.heap.objs.size, upd H s1.heap.objs.size (.lst vs), I1.laid (t' := s1.toks) (fun b u e => keep out b u e) (Nat.le_refl _) (show ObjOk X.prog X.w _ _ _ (.lst vs) from ⟨hl, out.toList, e', rv2, by rw [Array.toArray_toList]; exact he'⟩), rfl, k _ vs hH hr⟩
  rcases srt with ⟨is, rfl, h64, rfl⟩ | ⟨n, ts, hn, rfl, hts, h64, rfl⟩
  · have ev := hw.ints
    subst ev
    have hI := rv.ints
    refine wpAny_bind (wpAny_holding (wpAny_call_entry PyProof.Rows.slot_list_sort ⟨_, hoL, rfl⟩ PyProof.Rows.entry_list_sort
      (PyProof.Rows.list_sort_tree (s := { s1 with heap := s1.heap.push (seqObj "list" acc.toArray 0) }) hoL hI (by rw [← rv.length, List.length_map]; exact h64) fun out ys g1 g2 g3 => ⟨_, rfl, ?_⟩) (PyProof.Rows.args_list_sort _)))
    refine wpAny_pure ⟨_, rfl, fin out (ys.map V.int) (vals_of_ints g1) (by rw [List.length_map, g2.length_eq]; rw [List.length_map] at hz; exact hz) ?_⟩
    rw [sortI_eq g2 g3]
    exact rws_ints _
  · have I2 : Inv X pins σ H { s1 with heap := s1.heap.push (seqObj "list" acc.toArray 0) } := I1.kept (t' := s1.toks) fun b u e => Heap.get?_push_of_some _ e
    obtain ⟨tr, e1, e2, e3, ok⟩ := trs_of I2 hw rv
    have len0 : ∀ x ∈ tr, 0 < x.1.length := fun x hx => by
      rw [hts x.1 (by rw [← e1]; exact List.mem_map.mpr ⟨x, hx, rfl⟩)]
      exact hn
    obtain ⟨fs, hfs⟩ := tups_of fun x hx => ⟨ok x hx, len0 x hx⟩
    rw [e3] at hfs
    refine wpAny_bind (wpAny_holding (wpAny_call_entry PyProof.Rows.slot_list_sort ⟨_, hoL, rfl⟩ PyProof.Rows.entry_list_sort
      (G.list_sort_tups (s := { s1 with heap := s1.heap.push (seqObj "list" acc.toArray 0) }) hoL hfs (fun v hv => ?_) hz1 fun st' hp hs hst => ⟨_, rfl, ?_⟩) (PyProof.Rows.args_list_sort _)))
    · rw [← e3] at hv
      obtain ⟨x, hx, rfl⟩ := List.mem_map.mp hv
      exact ⟨_, (ok x hx).key⟩
    · have hpl : (pairsOf acc).toList.Perm (arrOf st').toList := hp.toList.symm
      rw [pairsOf_toList, ← e3] at hpl
      have ez : (tr.map (·.2.2)).zip (tr.map (·.2.2)) = tr.map fun x => (x.2.2, x.2.2) := by
        clear hpl e1 e2 e3 ok len0
        induction tr with
        | nil => rfl
        | cons x tr ih => simp only [List.map_cons, List.zip_cons_cons, ih]
      rw [ez] at hpl
      obtain ⟨tr', p', et⟩ := perm_lift hpl tr rfl
      have ok' : ∀ x ∈ tr', TrOk X.K H (s1.heap.push (seqObj "list" acc.toArray 0)) x := fun x hx => ok x (p'.mem_iff.mp hx)
      have eo : ((arrOf st').map (·.2)).toList = tr'.map (·.2.2) := by
        rw [Array.toList_map, ← et, List.map_map]
        rfl
      have sz : (pairsOf acc).size = tr'.length := by
        rw [← Array.length_toList, pairsOf_toList, ← e3, ez, List.length_map, p'.length_eq]
      have kk : ∀ (i : Nat) (hi : i < tr'.length), KK (G.tupKindC (s1.heap.push (seqObj "list" acc.toArray 0)) fun _ => false) (arrOf st') i = tr'[i].1.map Sum.inl := fun i hi => by
        have ea : (arrOf st')[i]? = some (tr'[i].2.2, tr'[i].2.2) := by
          rw [← Array.getElem?_toList, ← et, List.getElem?_map, List.getElem?_eq_getElem hi]
          rfl
        unfold KK
        rw [ea]
        show ((G.tupKeyC _ _ tr'[i].2.2).getD _) = _
        rw [(ok' _ (List.getElem_mem hi)).key]
        rfl
      have st : SrtT (tr'.map (·.1)) := by
        refine List.pairwise_map.mpr (List.pairwise_iff_getElem.mpr fun i j hi hj hij => ?_)
        have h1 := hs i j (Nat.le_of_lt hij) (by rw [sz]; exact hj)
        rw [kk i hi, kk j hj] at h1
        have h1 : PyProof.Rows.lexLt itemOrd (tr'[j].1.map Sum.inl) (tr'[i].1.map Sum.inl) = false := h1
        rw [lexLt_key] at h1
        exact h1
      have es : tr'.map (·.1) = sortT ts := sortT_eq (by rw [← e1]; exact p'.map _) st
      obtain ⟨q1, q2⟩ := rws_tr ok'
      rw [es] at q1
      refine wpAny_pure ⟨_, rfl, fin _ (tr'.map (·.2.1)) (by rw [eo]; exact q2) ?_ q1⟩
      rw [List.length_map, p'.length_eq, ← List.length_map (f := fun x : Tr => x.2.1), e2]
      exact hz
theorem keyW_rws {K : PySem.W.Frag} {H : Hp} : ∀ ks : List L2.Key, RWs K H (ks.map keyW) (ks.map kV)
  | [] => rfl
  | .inl i :: ks => ⟨_, _, rfl, rfl, keyW_rws ks⟩
  | .inr i :: ks => ⟨_, _, rfl, rfl, keyW_rws ks⟩
theorem keys_rws {K : PySem.W.Frag} {H : Hp} : ∀ {kvs : List (List L2.Key × V)} {bs : List Addr}, IsKeys H kvs bs → RWs K H (kvs.map fun kv => .tup (kv.1.map keyW)) (bs.map V.ref)
  | _, _, .nil => rfl
  | _, _, .cons h t => ⟨_, _, rfl, ⟨_, _, rfl, h, keyW_rws _⟩, keys_rws t⟩

theorem col_tuple {prog : Program} {w : World} {A : Around} {E : Value → Shared → Prop} {s : Shared} {l : Addr} {vs : List Value} {Q : List Value → Shared → Prop} (hl : IsTup s.heap l vs.toArray)
    (h : Q vs { s with heap := (s.heap.push (seqObj "list" #[] 0)).update s.heap.objs.size (Obj.mapSeq (· ++ vs.toArray)) }) (hsz : vs.length ≤ sizeLine) :
    wpAny (model prog w) A (collect (.ref l)) Q E s := by
  obtain ⟨o, ho, hc, n, hd⟩ := id hl
  unfold collect
  refine wpAny_bind (wpAny_runValue (codeAny_builtin entry_proto_collect' ?_))
  show wpAny _ _ (do again (.builtin "list.__iadd__" ⟨[← newList [], .ref l], []⟩)) _ _ s
  refine wpAny_bind (wpAny_newList (wpAny_pure ⟨Code.quiet_builtin _ (by decide +kernel), codeAny_builtin entry_list_iadd' ?_⟩))
  show wpAny _ _ (Builtin.List.listExtendWith (.ref s.heap.objs.size) (.ref l) (.ref s.heap.objs.size)) _ _ { s with heap := s.heap.push (seqObj "list" #[] 0) }
  unfold Builtin.List.listExtendWith
  have ho' : (s.heap.push (seqObj "list" #[] 0)).get? l = some o := Heap.get?_push_of_some _ ho
  refine wpAny_bind (wpAny_typeOf (T := "tuple") ⟨o, ho', hc⟩ ?_)
  have ht : (Value.type "tuple" == Value.type "tuple") = true := by rfl
  rw [if_pos (by rw [ht]; simp)]
  refine wpAny_bind (listItems_at ho' hd ?_)
  refine wpAny_bind (listItems_at (xs := #[]) (n := 0) (Heap.get?_push_size _ rfl) rfl ?_)
  rw [if_neg (by simp)]
  refine wpAny_bind (listUpdate_at (xs := #[]) (n := 0) (Heap.get?_push_size _ rfl) rfl ?_ (Nat.zero_le _) (by show (#[] ++ vs.toArray).size ≤ sizeLine + 1; simp only [Array.size_append, List.size_toArray, List.length_nil]; omega))
  refine wpAny_pure ?_
  show wpAny (model prog w) A (do
      let o ← load s.heap.objs.size
      match o.data with
      | .seq xs _ => pure xs.toList
      | _ => unsupported "internal:collect") Q E { s with heap := (s.heap.push (seqObj "list" #[] 0)).update s.heap.objs.size (Obj.mapSeq (· ++ vs.toArray)) }
  refine wpAny_bind (wpAny_load (get?_update_seq (Heap.get?_push_size _ rfl) _) ?_)
  show wpAny _ _ (pure ((#[] : Array Value) ++ vs.toArray).toList) Q E _
  rw [show ((#[] : Array Value) ++ vs.toArray).toList = vs by simp]
  exact wpAny_pure h
theorem vals_by {xs : List V} {us : List Value} (hl : us.length = xs.length) (h : ∀ (j : Nat) (v : Value), us[j]? = some v → ∃ x, xs[j]? = some x ∧ RelV x v) : Vals xs us := by
  induction xs generalizing us with
  | nil =>
    cases us with
    | nil => exact .nil
    | cons u us => cases hl
  | cons x xs ih =>
    cases us with
    | nil => cases hl
    | cons u us =>
      obtain ⟨y, e1, e2⟩ := h 0 u rfl
      cases e1
      exact .cons e2 (ih (by simpa using hl) fun j v e => h (j + 1) v e)
theorem cr_sortW {X : Cx} (hc : X.calm = true) (hu : X.A.units + 200 < cLine) : CallR X (.builtin "sorted") (l1 (rSortW X.K)) := by
  intro pins s σ H xs us Q I r h
  obtain ⟨x, rfl, ws, ws', src, srt, k⟩ := h
  obtain ⟨u, rfl, rx⟩ := vals1 r
  have keepC : ∀ (ps : List Value) b o, s.heap.get? b = some o → ((s.heap.push (seqObj "list" #[] 0)).update s.heap.objs.size (Obj.mapSeq (· ++ ps.toArray))).get? b = some o := fun ps b o e => by
    rw [Heap.get?_update_ne _ _ _ _ (Nat.ne_of_lt (Heap.lt_size e))]
    exact Heap.get?_push_of_some _ e
  rcases src with ⟨b, vs, rfl, sq | sq, hw⟩ | ⟨b, kvs, rfl, hb, rfl⟩ | ⟨b, kvs, rfl, hb, rfl⟩
  · cases rx
    obtain ⟨its, rv, pl, hz⟩ := I.list sq
    exact sorted_gen I hw hz srt (fun R hR => collect_list pl.isList (hR _ its (I.kept (t' := s.toks) fun b o e => keepC its b o e) rv) (by rw [← rv.length]; exact hz)) k
  · cases rx
    obtain ⟨its, rv, pl, hz⟩ := I.tuple sq
    exact sorted_gen I hw hz srt (fun R hR => col_tuple pl (hR _ its (I.kept (t' := s.toks) fun b o e => keepC its b o e) rv) (by rw [← rv.length]; exact hz)) k
  · cases rx
    obtain ⟨z, lo, vs, rel, dd⟩ := dk_rd I.hok (Rd.of hb)
    obtain ⟨ep, hat⟩ := dd.dictAt
    have hkeys : vs.map (·.1) = kvs.map (·.1) := rel.keys.symm
    have hl : vs.length = kvs.length := by
      have e := congrArg List.length hkeys
      rw [List.length_map, List.length_map] at e
      exact e
    have hw : RWs X.K H (kvs.map fun kv => keyW kv.1) (kvs.map fun kv => kV kv.1) := by
      rw [show (kvs.map fun kv => keyW kv.1) = (kvs.map (·.1)).map keyW by simp, show (kvs.map fun kv => kV kv.1) = (kvs.map (·.1)).map kV by simp]
      exact keyW_rws _
    refine sorted_gen I hw (by rw [List.length_map]; exact z) srt (fun R hR => ?_) k
    refine PySem.W.kdu_collect (A := X.A.in1) (PySem.W.kdl_dict (knd := mixKind X.prog X.w) (kvs := vs) (ep := ep) lo) (I.ok.hd hc) hat (by omega) fun h' tk acc hk hacc => ?_
    refine hR _ _ (I.kept hk) (vals_by (by rw [Array.length_toList, hacc.1, hl, List.length_map]) fun j v e => ?_)
    obtain ⟨kk, xx, q1, q2⟩ := hacc.2 j v (by rw [← Array.getElem?_toList]; exact e)
    have e3 : (vs.map (·.1))[j]? = some kk := by rw [List.getElem?_map, q1]; rfl
    rw [hkeys] at e3
    refine ⟨kV kk, by rw [show (kvs.map fun kv => kV kv.1) = (kvs.map (·.1)).map kV by simp, List.getElem?_map, e3]; rfl, ?_⟩
    rcases keyIs_shape (show keyIs kk v = true from q2) with ⟨i, t, rfl, rfl⟩ | ⟨i, t, rfl, rfl⟩
    · exact ⟨t, rfl⟩
    · exact ⟨t, rfl⟩
  · cases rx
    obtain ⟨z, hs, ks, pr, o, es, ep, ho, hx, hdt, he, hn⟩ := (show ObjOk X.prog X.w H s.heap b (.dT kvs) from I.hok _ _ hb)
    have l1 : es.size = ks.length := size_of_entries he
    have l2 : kvs.length = ks.length := Paired.length pr
    refine sorted_gen I (keys_rws (isKeys_of pr)) (by rw [List.length_map, List.length_map]; omega) srt (fun R hR => ?_) k
    refine PySem.W.kdu_collect (A := X.A.in1) (kdl_raw hs hx hdt) (I.ok.hd hc) ho (by omega) fun h' tk acc' kp it => ?_
    refine hR _ _ (I.kept kp) (vals_by (by rw [Array.length_toList, it.1, List.length_map, List.length_map]; exact l1) fun j v e => ?_)
    obtain ⟨en, hen, hv⟩ := it.2 j v (by rw [← Array.getElem?_toList]; exact e)
    have qe := entry_at he j
    rw [hen] at qe
    cases hb2 : ks[j]? with
    | none =>
      rw [hb2] at qe
      exact nomatch (show some en = none from qe)
    | some b2 =>
      rw [hb2] at qe
      have e2 : en = entryOfKey (tupleKind (mixKind X.prog X.w)) b2 := Option.some.inj qe
      refine ⟨.ref b2.2.1, by rw [List.getElem?_map, List.getElem?_map, hb2]; rfl, ?_⟩
      rw [hv, e2]
      rfl
theorem fm_congr {α β : Type} {f g : α → Option β} : ∀ {l : List α}, (∀ x ∈ l, f x = g x) → l.filterMap f = l.filterMap g
  | [], _ => rfl
  | x :: l, h => by
    rw [List.filterMap_cons, List.filterMap_cons, h x List.mem_cons_self, fm_congr fun y hy => h y (List.mem_cons_of_mem _ hy)]
theorem pick_rev (xs : Array Value) : ((List.range xs.size).filterMap fun (k : Nat) => xs[(((xs.size : Int) - 1) + (k : Int) * (-1)).toNat]?).toArray = xs.toList.reverse.toArray := by
  have e : (List.range xs.size).filterMap (fun (k : Nat) => xs[(((xs.size : Int) - 1) + (k : Int) * (-1)).toNat]?) = (List.range xs.size).filterMap (fun (k : Nat) => xs.toList.reverse[k]?) := by
    refine fm_congr fun k hk => ?_
    have hk : k < xs.size := List.mem_range.mp hk
    rw [List.getElem?_reverse (by rw [Array.length_toList]; exact hk), Array.length_toList, Array.getElem?_toList]
    congr 1
    omega
  rw [e]
  have all : ∀ (l : List Value), (List.range l.length).filterMap (fun k => l[k]?) = l := fun l => by
    induction l with
    | nil => rfl
    | cons x l ih =>
      rw [List.length_cons, List.range_succ_eq_map, List.filterMap_cons, List.filterMap_map]
      show x :: (List.range l.length).filterMap (fun k => l[k]?) = x :: l
      rw [ih]
  have := all xs.toList.reverse
  rw [List.length_reverse, Array.length_toList] at this
  rw [this]
theorem getItem_tuple_rev {prog : Program} {w : World} {A : Around} {E : Value → Shared → Prop} {s : Shared} {t sl : Addr} {items : Array Value} {vl vu vs : Value} {Q : Value → Shared → Prop} (ht : IsTup s.heap t items) (hs : s.heap.IsSliceOf sl vl vu vs) (pl : IsPart vl none) (pu : IsPart vu none) (ps : IsPart vs (some (-1)))
    (h : Q (.ref s.heap.objs.size) { s with heap := s.heap.push { cls := .type "tuple", data := .seq items.toList.reverse.toArray } })
    (hsz : items.size ≤ sizeLine) : wpAny (model prog w) A (getItem (.ref t) (.ref sl)) Q E s := by
  have htake : sizeOk (.seq items.toList.reverse.toArray) := by
    show items.toList.reverse.toArray.size ≤ sizeLine
    rw [List.size_toArray, List.length_reverse, Array.length_toList]
    exact hsz
  obtain ⟨os, hos, hcs, hds⟩ := id hs
  have hTs : s.TypeIs (.ref sl) "slice" := ⟨os, hos, hcs⟩
  unfold getItem
  try with_reducible refine wpAny_holding ?_
  first | refine wpAny_bind (wpAny_pure ?_) | skip
  refine wpAny_bind (wpAny_sequenceKey ht.typeIs (by decide) ?_)
  refine wpAny_bind (wpAny_callSpecial?_slot (name := Str.ofString "__getitem__") ht.typeIs PyProof.Rows.slot_tuple_getitem
    (wpAny_call_entry PyProof.Rows.slot_tuple_getitem ht.typeIs entry_tuple_getitem ?_ (args_tuple_getitem _ _)))
  show wpAny _ _ (Builtin.Tuple.tupleItemsOf (.ref t) >>= _) _ _ s
  refine wpAny_bind (tupleItemsOf_ ht ?_)
  refine wpAny_bind (wpAny_typeOf hTs ?_)
  rw [if_pos (by decide)]
  refine wpAny_bind (m := Builtin.Slice.sliceApplied (.ref sl) (pure (items.size : Int))) ?_
  unfold Builtin.Slice.sliceApplied Builtin.Slice.sliceFields
  refine wpAny_bind (wpAny_bind (wpAny_field hos hds (x := vl) rfl (wpAny_bind (wpAny_field hos hds (x := vu) rfl (wpAny_bind (wpAny_field hos hds (x := vs) rfl (wpAny_pure ?_)))))))
  refine wpAny_bind (HT.slicePart_ ps ?_)
  show wpAny _ _ (if ((-1 : Int) == 0) = true then _ else _) _ _ s
  rw [if_neg (by decide)]
  refine wpAny_bind (HT.slicePart_ pl (wpAny_bind (HT.slicePart_ pu (wpAny_bind (wpAny_pure ?_)))))
  show wpAny _ _ (match Builtin.Slice.sliceAdjust none none (-1) (items.size : Int) with | (lo, hi) => pure (lo, (-1 : Int), Builtin.Slice.slicePlaces lo hi (-1))) _ _ s
  have ea : Builtin.Slice.sliceAdjust none none (-1) (items.size : Int) = ((items.size : Int) - 1, -1) := by
    unfold Builtin.Slice.sliceAdjust
    simp
  rw [ea]
  have ep : Builtin.Slice.slicePlaces ((items.size : Int) - 1) (-1) (-1) = items.size := by
    unfold Builtin.Slice.slicePlaces
    simp
    split <;> omega
  show wpAny _ _ (pure (((items.size : Int) - 1), (-1 : Int), Builtin.Slice.slicePlaces ((items.size : Int) - 1) (-1) (-1))) _ _ s
  rw [ep]
  refine wpAny_pure ?_
  have hno : ¬ ((((items.size : Int) - 1) == 0 && (-1 : Int) == 1 && items.size == items.size) = true) := by
    simp
  show wpAny _ _ (if (((items.size : Int) - 1) == 0 && (-1 : Int) == 1 && items.size == items.size) = true then _ else _) _ _ s
  rw [if_neg hno, pick_rev]
  first
    | exact wpAny_bind (m := Builtin.Tuple.tupleExact _) (wpAny_newObj_type (wpAny_pure ⟨_, rfl, wpAny_pure h⟩) htake)
    | exact wpAny_bind (m := Builtin.Tuple.tupleExact _) (wpAny_newObj_type (wpAny_bind (wpAny_pure (wpAny_pure ⟨_, rfl, wpAny_pure h⟩))) htake)
    | exact wpAny_bind (wpAny_bind (m := Builtin.Tuple.tupleExact _) (wpAny_newObj_type (wpAny_pure (wpAny_pure ⟨_, rfl, wpAny_pure h⟩)) htake))
    | exact wpAny_bind (wpAny_bind (m := Builtin.Tuple.tupleExact _) (wpAny_newObj_type (wpAny_pure ⟨_, rfl, wpAny_pure h⟩) htake))
def tRevA (K : PySem.W.Frag) (te : TE) : TE := fun σ H Q => te σ H fun x H1 => rRevA K x H1 Q
theorem pe_revA {X : Cx} {e : Expr} {te : TE} {k : Nat} {p1 p2 p3 pos : Pos} (he : PE X e te) : PE X (.Subscript e (.Slice none none (some (.UnaryOp .USub (.Constant (.int 1) k p1) p2)) p3) pos) (tRevA X.K te) := by
  refine ⟨fun pins s σ H Q I h => ?_⟩
  refine Subscript_ (thn (he.run pins s σ H _ I h) fun v s1 ⟨x, H1, I1, r1, q1⟩ => ?_)
  obtain ⟨a, xs, ex, q⟩ := q1
  subst ex
  cases r1
  have hst : PO X (some (.UnaryOp .USub (.Constant (.int 1) k p1) p2)) (tPart (tUn (rU fun i => .int (-i)) (tC (.int 1)))) := po_some (pe_un un_neg pe_int)
  refine wpAny_Slice (thn (po_none.run pins s1 σ H1 (fun o H2 => o = none ∧ H2 = H1) I1 ⟨rfl, rfl⟩) fun vl s2 ⟨l, H2, I2, pl, el, e2⟩ => ?_)
  subst el e2
  refine thn (po_none.run pins s2 σ H2 (fun o H3 => o = none ∧ H3 = H2) I2 ⟨rfl, rfl⟩) fun vu s3 ⟨u, H3, I3, pu, eu, e3⟩ => ?_
  subst eu e3
  refine thn (hst.run pins s3 σ H3 (fun o H4 => o = some (-1) ∧ H4 = H3) I3 ⟨1, rfl, -1, rfl, rfl, rfl⟩) fun vs s4 ⟨o, H4, I4, ps, eo, e4⟩ => ?_
  subst eo e4
  have I5 : Inv X pins σ H4 { s4 with heap := s4.heap.push { cls := .type "slice", data := .fields #[vl, vu, vs] } } := I4.kept (t' := s4.toks) fun b ob q => Heap.get?_push_of_some _ q
  show wpAny (model X.prog X.w) X.A (subscriptTail e (.Slice none none (some (.UnaryOp .USub (.Constant (.int 1) k p1) p2)) p3) (.ref a) (.ref s4.heap.objs.size)) (EP X pins σ Q) X.xe { s4 with heap := s4.heap.push { cls := .type "slice", data := .fields #[vl, vu, vs] } }
  rcases q with ⟨hx, q⟩ | ⟨hx, q⟩
  · obtain ⟨its, r, ht, hz⟩ := I5.list hx
    have hlen := r.length
    refine tail_any (ops := [.ref a, .ref s4.heap.objs.size]) ht.isList.typeIs (PySem.slot_list_getitem.lookup) ?_ (by with_unfolding_all rfl)
    refine wpAny_getItem_list_slice ht.isList (Heap.IsSliceOf.new _ vl vu vs) pl pu ps (by decide) ?_ (by rw [List.size_toArray]; omega)
    rw [PySem.W.krv_pick]
    refine ⟨.ref _, _, I5.laid (t' := s4.toks) (o := .lst xs.reverse) (fun b ob q => Heap.get?_push_of_some _ q) (Nat.le_refl _) ?_, rfl, q _ (I5.hok.fresh (Nat.le_refl _))⟩
    exact ⟨by rw [List.length_reverse]; exact hz, _, 0, r.reverse, Heap.get?_push_size _ rfl⟩
  · obtain ⟨its, r, ht, hz⟩ := I5.tuple hx
    have hlen := r.length
    refine tail_any (ops := [.ref a, .ref s4.heap.objs.size]) ht.typeIs (PyProof.Rows.slot_tuple_getitem.lookup) ?_ (by with_unfolding_all rfl)
    refine getItem_tuple_rev ht (Heap.IsSliceOf.new _ vl vu vs) pl pu ps ?_ (by rw [List.size_toArray]; omega)
    refine ⟨.ref _, _, I5.laid (t' := s4.toks) (o := .tup xs.reverse) (fun b ob q => Heap.get?_push_of_some _ q) (Nat.le_refl _) ?_, rfl, q _ (I5.hok.fresh (Nat.le_refl _))⟩
    exact ⟨by rw [List.length_reverse]; exact hz, _, r.reverse, ⟨_, Heap.get?_push_size _ rfl, rfl, _, rfl⟩⟩
end Wm
namespace Wm
open PySem PySem.Spec PyProof.Rows L2

theorem oimp {X : Cx} {f : Value → Value → Sem Value} {r r' : R2} (h : OpR X f r) (k : ∀ x y H Q, r' x y H Q → r x y H Q) : OpR X f r' := fun pins s σ H x y v u Q I rx ry q => h pins s σ H x y v u Q I rx ry (k _ _ _ _ q)
theorem cimp {X : Cx} {f : Value} {r r' : List V → Hp → VK → Prop} (h : CallR X f r) (k : ∀ x H Q, r' x H Q → r x H Q) : CallR X f r' := fun pins s σ H xs us Q I rx q => h pins s σ H xs us Q I rx (k _ _ _ q)
section
variable {X : Cx}
theorem x_add : OpR X (binaryOp .Add) (rAdd X.K) := OpR.or op_add (OpR.or op_catA (OpR.or op_add_str op_cat))
theorem x_sub : OpR X (binaryOp .Sub) (rInt (fun _ _ => True) (· - ·)) := oimp op_sub fun _ _ _ _ ⟨i, j, e1, e2, _, q⟩ => ⟨i, j, e1, e2, q⟩
theorem x_mul : OpR X (binaryOp .Mult) rMul := OpR.or op_mul op_rep
theorem x_fdiv : OpR X (binaryOp .FloorDiv) (rInt CDivW (· / ·)) := op_fdivW
theorem x_mod : OpR X (binaryOp .Mod) (rInt (fun _ j => 0 < j) (· % ·)) := op_mod
theorem x_pow : OpR X (binaryOp .Pow) (rInt CPow fun i j => i ^ j.toNat) := op_pow
theorem x_bor : OpR X (binaryOp .BitOr) (rInt (fun _ _ => True) Builtin.bitOr) := oimp op_or fun _ _ _ _ ⟨i, j, e1, e2, _, q⟩ => ⟨i, j, e1, e2, q⟩
theorem x_eq (hu : X.A.units + 200 < cLine) : OpR X (compareOp .Eq) (rEqN X.K false) := op_eqD (by omega)
theorem x_ne (hu : X.A.units + 200 < cLine) : OpR X (compareOp .NotEq) (rEqN X.K true) := op_neD (by omega)
theorem x_lt (hu : X.A.units + 200 < cLine) : OpR X (compareOp .Lt) (rLt X.K) := OpR.or op_lt (op_ltT (by omega))
theorem x_le : OpR X (compareOp .LtE) (rOrd fun i j => decide (i ≤ j)) := op_le
theorem x_gt : OpR X (compareOp .Gt) (rOrd fun i j => decide (j < i)) := op_gt
theorem x_ge : OpR X (compareOp .GtE) (rOrd fun i j => decide (j ≤ i)) := op_ge
theorem x_inT (hu : X.A.units + 200 < cLine) : OpR X (compareOp .In) (fun x y H Q => ∃ d ds, Dp X.K H x d ∧ Dp X.K H y (.tuple ds) ∧ SeqAt.shaped d = true ∧ SeqAt.shaped (.tuple ds) = true ∧ Q (.bl (ds.any fun z => PyData.eqv z d)) H) := by
  intro pins s σ H x y v u Q I rx ry h
  obtain ⟨d, ds, hd, he, sd, se, q⟩ := h
  obtain ⟨as, r1⟩ := Dp.reads I d x v hd rx
  obtain ⟨bs, r2⟩ := Dp.reads I (.tuple ds) y u he ry
  exact SeqAt.in_tuple_reads r2 r1 (SeqAt.canLay_of_shaped se) (SeqAt.canLay_of_shaped sd) (room_in_shaped sd (by omega)) ⟨.bl _, H, I, rfl, q⟩
theorem x_notInT (hu : X.A.units + 200 < cLine) : OpR X (compareOp .NotIn) (fun x y H Q => ∃ d ds, Dp X.K H x d ∧ Dp X.K H y (.tuple ds) ∧ SeqAt.shaped d = true ∧ SeqAt.shaped (.tuple ds) = true ∧ Q (.bl (!ds.any fun z => PyData.eqv z d)) H) := by
  intro pins s σ H x y v u Q I rx ry h
  obtain ⟨d, ds, hd, he, sd, se, q⟩ := h
  obtain ⟨as, r1⟩ := Dp.reads I d x v hd rx
  obtain ⟨bs, r2⟩ := Dp.reads I (.tuple ds) y u he ry
  exact SeqAt.notIn_tuple_reads r2 r1 (SeqAt.canLay_of_shaped se) (SeqAt.canLay_of_shaped sd) (room_in_shaped sd (by omega)) ⟨.bl _, H, I, rfl, q⟩
theorem x_inK (hu : X.A.units + 200 < cLine) : OpR X (compareOp .In) (fun x y H Q => ∃ b o, y = .ref b ∧ DGet H b x o ∧ Q (.bl o.isSome) H) := by
  intro pins s σ H x y v u Q I rx ry h
  obtain ⟨b, o, rfl, g, q⟩ := h
  cases ry
  exact d_in (by omega) I g rx fun s' I' => ⟨.bl _, H, I', rfl, q⟩
theorem x_notInK (hu : X.A.units + 200 < cLine) : OpR X (compareOp .NotIn) (fun x y H Q => ∃ b o, y = .ref b ∧ DGet H b x o ∧ Q (.bl (!o.isSome)) H) := by
  intro pins s σ H x y v u Q I rx ry h
  obtain ⟨b, o, rfl, g, q⟩ := h
  cases ry
  exact d_notIn (by omega) I g rx fun s' I' => ⟨.bl _, H, I', rfl, q⟩
theorem x_in (hu : X.A.units + 200 < cLine) : OpR X (compareOp .In) (rInN X.K false) := OpR.or (x_inK hu) (OpR.or (op_inD (by omega)) (x_inT hu))
theorem x_notin (hu : X.A.units + 200 < cLine) : OpR X (compareOp .NotIn) (rInN X.K true) := OpR.or (x_notInK hu) (OpR.or (op_notInD (by omega)) (x_notInT hu))
theorem x_len : CallR X (.builtin "len") (l1 (rLen X.K)) := cimp (CallR.or call_len_seq (CallR.or call_lenD call_len_dT)) fun xs H Q ⟨x, e, h⟩ => by
  rcases h with ⟨b, vs, e2, h1, h2⟩ | ⟨b, kvs, e2, h1, h2⟩ | ⟨b, kvs, e2, h1, h2⟩
  · exact .inl ⟨b, vs, by rw [e, e2], h1, h2⟩
  · exact .inr (.inl ⟨b, kvs, by rw [e, e2], h1, h2⟩)
  · exact .inr (.inr ⟨b, kvs, by rw [e, e2], h1, h2⟩)
theorem x_tuple : CallR X (.type "tuple") (l1 (rTuple X.K)) := cimp call_tuple_of fun xs H Q ⟨x, e, p, ys, e2, h⟩ => ⟨p, ys, by rw [e, e2], h⟩
theorem x_list (hc : X.calm = true) : CallR X (.type "list") (l1 (rListW X.K)) := cimp (CallR.or call_list_of (CallR.or (call_listD hc) (call_list_dT hc))) fun xs H Q ⟨x, e, ws, src, k⟩ => by
  rcases src with ⟨b, vs, e2, h1, h2⟩ | ⟨b, kvs, e2, h1, h2⟩ | ⟨b, kvs, e2, h1, h2⟩
  · exact .inl ⟨b, vs, by rw [e, e2], h1, fun l n => k l vs n h2⟩
  · refine .inr (.inl ⟨b, kvs, by rw [e, e2], .inl h1, fun p n => k p _ n ?_⟩)
    rw [h2, show (kvs.map fun kv => keyW kv.1) = (kvs.map (·.1)).map keyW by simp, show (kvs.map fun kv => kV kv.1) = (kvs.map (·.1)).map kV by simp]
    exact keyW_rws _
  · refine .inr (.inr ⟨b, kvs, by rw [e, e2], .inl h1, fun p bs n hk => k p _ n ?_⟩)
    rw [h2]
    exact keys_rws hk
theorem x_all (hc : X.calm = true) : CallR X (.builtin "all") (l1 (rBools X.K fun bs => bs.all id)) := cimp (cr_all hc) fun xs H Q ⟨x, e, b, bs, e2, h⟩ => ⟨b, bs, by rw [e, e2], h⟩
theorem x_any (hc : X.calm = true) : CallR X (.builtin "any") (l1 (rBools X.K fun bs => bs.any id)) := cimp (cr_any hc) fun xs H Q ⟨x, e, b, bs, e2, h⟩ => ⟨b, bs, by rw [e, e2], h⟩
theorem x_sum (hc : X.calm = true) : CallR X (.builtin "sum") (l1 (rInts X.K fun is q => q is.sum)) := cimp (cr_sum hc) fun xs H Q ⟨x, e, b, bs, e2, h⟩ => ⟨b, bs, by rw [e, e2], h⟩
theorem x_min1 (hc : X.calm = true) : CallR X (.builtin "min") (l1 (rInts X.K fun is q => 0 < is.length ∧ ∀ m, m ∈ is → (∀ y, y ∈ is → m ≤ y) → q m)) := cimp (cr_min hc) fun xs H Q ⟨x, e, b, bs, e2, h1, h2, h3⟩ => ⟨b, bs, by rw [e, e2], h1, h2, h3⟩
theorem x_max1 (hc : X.calm = true) : CallR X (.builtin "max") (l1 (rInts X.K fun is q => 0 < is.length ∧ ∀ m, m ∈ is → (∀ y, y ∈ is → y ≤ m) → q m)) := cimp (cr_max hc) fun xs H Q ⟨x, e, b, bs, e2, h1, h2, h3⟩ => ⟨b, bs, by rw [e, e2], h1, h2, h3⟩
theorem x_min2 (hc : X.calm = true) : CallR X (.builtin "min") (l2 (rInt (fun _ _ => True) (fun i j => if j < i then j else i))) := cimp (call_min2 hc) fun xs H Q ⟨x, y, e, i, j, e1, e2, _, h⟩ => ⟨i, j, by rw [e, e1, e2], h⟩
theorem x_max2 (hc : X.calm = true) : CallR X (.builtin "max") (l2 (rInt (fun _ _ => True) (fun i j => if j > i then j else i))) := cimp (call_max2 hc) fun xs H Q ⟨x, y, e, i, j, e1, e2, _, h⟩ => ⟨i, j, by rw [e, e1, e2], h⟩
theorem x_abs : CallR X (.builtin "abs") (l1 fun x H Q => ∃ i, x = .int i ∧ Q (.int (if i < 0 then -i else i)) H) := cimp call_abs fun xs H Q ⟨x, e, i, e1, h⟩ => ⟨i, by rw [e, e1], h⟩
theorem x_int : CallR X (.type "int") (l1 fun x H Q => (∃ i, x = .int i ∧ Q (.int i) H) ∨ ∃ b, x = .bl b ∧ Q (.int (if b then 1 else 0)) H) := cimp call_int1 fun xs H Q ⟨x, e, h⟩ => by
  rcases h with ⟨i, e1, h⟩ | ⟨i, e1, h⟩
  · exact .inl ⟨i, by rw [e, e1], h⟩
  · exact .inr ⟨i, by rw [e, e1], h⟩
end
section
variable {X : Cx} {a : Act} {T : Tab} {Xc : Ex → REnv → Prop} {x y z : E} {l r m : Expr} {pos : Pos}
theorem pe_bin {b : Bin} {rr : R2'} (ok : POk a (.bin b) (l2 rr)) (ho : OpR X (binaryOp (opBin b)) rr) (hx : PE X l (tAr a T Xc x)) (hy : PE X r (tAr a T Xc y)) : PE X (.BinOp l (opBin b) r pos) (tE a T Xc (.op (.bin b) (.cons x (.cons y .nil)))) :=
  PE.mono (pe_op ho hx hy) fun σ H Q h => tAr_mono (fun v H1 q => tAr_mono (fun u H2 q2 => by
    obtain ⟨v', u', e, q2⟩ := q2
    cases e
    exact q2) q) (tAs_two (tE_op ok h))
theorem behind_plain {op : CmpOp} {b : Expr} (h : plainE b = true) : behindInMarks op b = false := by
  cases b <;> first | rfl | cases h
theorem pe_cmpP {c : Cmp} {rr : R2'} (ok : POk a (.cmp c) (l2 rr)) (ho : OpR X (compareOp (opCmp c)) rr) (hx : PE X l (tAr a T Xc x)) (hy : PE X r (tAr a T Xc y)) (hr : plainE r = true) : PE X (.Compare l [opCmp c] [r] pos) (tE a T Xc (.op (.cmp c) (.cons x (.cons y .nil)))) :=
  PE.mono (pe_cmpR ho hx hy (behind_plain hr)) fun σ H Q h => tAr_mono (fun v H1 q => tAr_mono (fun u H2 q2 => by
    obtain ⟨v', u', e, q2⟩ := q2
    cases e
    exact q2) q) (tAs_two (tE_op ok h))
theorem pt_cmpP {c : Cmp} {rr : R2'} (ok : POk a (.cmp c) (l2 rr)) (hb : ∀ {args : List Arg} {p : Bool} {ρ : REnv} {Q0 : SV → REnv → Prop}, prim (.cmp c) args p ρ Q0 → prim (.cmp c) args p ρ fun s ρ' => Q0 s ρ' ∧ ∃ b, s = sw (.bl b)) (ho : OpR X (compareOp (opCmp c)) rr) (hx : PE X l (tAr a T Xc x)) (hy : PE X r (tAr a T Xc y)) (hr : plainE r = true) :
    PT X (.Compare l [opCmp c] [r] pos) (tT a T Xc (.op (.cmp c) (.cons x (.cons y .nil)))) :=
  PT.mono (pt_cmpR ho hx hy (behind_plain hr)) fun σ H Q h => tAr_mono (fun v H1 q => tAr_mono (fun u H2 q2 => by
    obtain ⟨v', u', e, q2⟩ := q2
    cases e
    exact q2) q) (tAs_two (tT_op ok hb h))
/-- a built-in function, a built-in type -/
theorem pe_blt {o : Prim} {as : Es} {n : Str} {id : String} {rr : List V → Hp → VK → Prop} {e : Expr} {es : List Expr} {p0 : Pos} (ok : POk a o rr) (hc : CallR X (.builtin id) rr) (hg : Gl X n) (hm : X.mg n = none) (hv : bootBuiltins n = some (.builtin id)) (ha : PA X (e :: es) (tAs a T Xc as)) (hn : okName n = true) (hp : plainE e = true) (hps : (backTo pos (starEach es X.env)).any (·.1) = false) :
    PE X (.Call (.Name n p0) (e :: es) [] pos) (tE a T Xc (.op o as)) :=
  PE.mono (pe_callB hc hg hm hv ha (okName_of hn).2.2 (okName_of hn).1 (star_plain _ _ hp) hps) fun σ H Q h => tE_op ok h
theorem pe_bltT {o : Prim} {as : Es} {n : Str} {id : String} {rr : List V → Hp → VK → Prop} {e : Expr} {es : List Expr} {p0 : Pos} (ok : POk a o rr) (hc : CallR X (.type id) rr) (hg : Gl X n) (hm : X.mg n = none) (hv : bootBuiltins n = some (.type id)) (ha : PA X (e :: es) (tAs a T Xc as)) (hn : okName n = true) (hp : plainE e = true) (hps : (backTo pos (starEach es X.env)).any (·.1) = false) :
    PE X (.Call (.Name n p0) (e :: es) [] pos) (tE a T Xc (.op o as)) :=
  PE.mono (pe_callTy hc hg hm hv ha (okName_of hn).2.2 (okName_of hn).1 (star_plain _ _ hp) hps) fun σ H Q h => tE_op ok h
end
end Wm
namespace Wm
open PySem PySem.Spec PyProof.Rows L2

section
variable {X : Cx} {a : Act} {T : Tab} {Xc : Ex → REnv → Prop} {x y z : E} {l r m : Expr} {pos : Pos}
def tL (a : Act) (T : Tab) (Xc : Ex → REnv → Prop) : Es → TA
  | .nil => tNil
  | .cons e es => tCons (tAr a T Xc e) (tL a T Xc es)
theorem tL_of : ∀ {es : Es} {σ : St} {H : Hp} {R : List V → Hp → Prop}, tAs a T Xc es σ H R → tL a T Xc es σ H R
  | .nil, _, _, _, h => tAs_nil h
  | .cons e es, _, _, _, h => tAr_mono (fun v H1 q => tL_of q) (tAs_cons h)
theorem tL_mono : ∀ {es : Es} {σ : St} {H : Hp} {R R' : List V → Hp → Prop}, (∀ vs H', R vs H' → R' vs H') → tL a T Xc es σ H R → tL a T Xc es σ H R'
  | .nil, _, _, _, _, k, h => k _ _ h
  | .cons e es, _, _, _, _, k, h => tAr_mono (fun v H1 q => tL_mono (fun vs H' q2 => k _ _ q2) q) h
theorem tL_len : ∀ {es : Es} {σ : St} {H : Hp} {R : List V → Hp → Prop}, tL a T Xc es σ H R → tL a T Xc es σ H fun vs H' => vs.length = es.len ∧ R vs H'
  | .nil, _, _, _, h => ⟨rfl, h⟩
  | .cons e es, _, _, _, h => tAr_mono (fun v H1 q => tL_mono (fun vs H' q2 => ⟨by rw [List.length_cons, q2.1]; rfl, q2.2⟩) (tL_len q)) h
theorem pa_tAs {as : Es} {es : List Expr} (h : PA X es (tL a T Xc as)) : PA X es (tAs a T Xc as) := PA.mono h fun _ _ _ q => tL_of q
theorem s1000 : (1000 : Nat) ≤ sizeLine := by rw [sizeLine_eq]; decide
theorem pe_lstW {as : Es} {es : List Expr} (h : PA X es (tL a T Xc as)) (hl : as.len ≤ 1000) : PE X (.List es pos) (tE a T Xc (.op .lst as)) :=
  PE.mono (pe_lst h) fun σ H Q q => tL_mono (fun vs H' q2 => ⟨by have := s1000; omega, q2.2⟩) (tL_len (tL_of (tE_op ok_lst q)))
theorem pe_tupW {as : Es} {es : List Expr} {k : Nat} (h : PA X es (tL a T Xc as)) (hl : as.len ≤ 1000) : PE X (.Tuple es k pos) (tE a T Xc (.op .tup as)) :=
  PE.mono (pe_tup h) fun σ H Q q => tL_mono (fun vs H' q2 => ⟨by have := s1000; omega, q2.2⟩) (tL_len (tL_of (tE_op ok_tup q)))
theorem pe_dnewKW : PE X (.Dict [] [] pos) (tE a T Xc (.op .dnewK .nil)) := PE.mono pe_dnewK fun σ H Q q => tAs_nil (tE_op ok_dnewK q) rfl
theorem pe_dnewTW : PE X (.Dict [] [] pos) (tE a T Xc (.op .dnewT .nil)) := PE.mono pe_dnewT fun σ H Q q => tAs_nil (tE_op ok_dnewT q) rfl
theorem ix_dict (hu : X.A.units + 200 < cLine) : IxR X (fun x y H Q => ∃ b v, x = .ref b ∧ DGet H b y (some v) ∧ Q v H) := by
  intro value slice pins s σ H x y v u Q I rx ry h hs
  obtain ⟨b, z, rfl, g, q⟩ := h
  obtain rfl : v = Value.ref b := rx
  have hT := dict_typeIs I g
  unfold subscriptTail
  refine wpAny_bind ?_
  rw [getitemInPython_of_ne hT.not_modules]
  refine wpAny_bind (wpAny_specialOf hT PySem.F.slot_dict_getitem.lookup ?_)
  have fin : wpAny (model X.prog X.w) X.A (subscripted slice false (.ref b) u) (fun r s₃ => wpAny (model X.prog X.w) X.A (letTemporaryGo value (.ref b) r >>= fun _ => pure r) (EP X pins σ Q) X.xe s₃) X.xe s := by
    rw [hs]
    exact wpAny_operating (wpAny_mono (d_getItem (by omega) I g ry fun w' s3 I3 rw' => (⟨z, H, I3, rw', q⟩ : EP X pins σ Q w' s3)) (fun r s₃ h₃ => wpAny_bind (wpAny_letTemporaryGo (wpAny_pure h₃))) fun _ _ x => x)
  first
    | exact wpAny_pure (wpAny_bind fin)
    | exact wpAny_bind (wpAny_pure (wpAny_bind fin))
    | exact wpAny_bind fin
theorem pe_idxW (hK : X.K = a.K) (hu : X.A.units + 200 < cLine) (hx : PE X l (tAr a T Xc x)) (hy : PE X r (tAr a T Xc y)) (hr : plainE r = true) : PE X (.Subscript l r pos) (tE a T Xc (.op .idx (.cons x (.cons y .nil)))) :=
  PE.mono (pe_ix (IxR.or ix_list (IxR.or ix_tup (ix_dict hu))) hx hy (plainIx hr)) fun σ H Q h => tAr_mono (fun v H1 q => tAr_mono (fun u H2 q2 => by
    obtain ⟨v', u', e, q2⟩ := q2
    cases e
    rw [hK]
    exact q2) q) (tAs_two (tE_op ok_idx h))
theorem pe_negW (hx : PE X l (tAr a T Xc x)) : PE X (.UnaryOp .USub l pos) (tE a T Xc (.op .neg (.cons x .nil))) :=
  PE.mono (pe_un un_neg hx) fun σ H Q h => tAr_mono (fun v H1 q => by
    obtain ⟨v', e, q⟩ := q
    cases e
    exact q) (tAs_one (tE_op ok_neg h))
theorem sl_A : SlR X (rSl X.K) := SlR.or sl_list sl_tupA
theorem pe_sl00 {p2 : Pos} (hK : X.K = a.K) (hx : PE X l (tAr a T Xc x)) : PE X (.Subscript l (.Slice none none none p2) pos) (tE a T Xc (.op (.slice false false) (.cons x .nil))) :=
  PE.mono (pe_slice sl_A hx po_none po_none) fun σ H Q h => tAr_mono (fun v H1 q => by
    obtain ⟨v', e, q⟩ := q
    cases e
    rw [hK]
    exact q) (tAs_one (tE_op ok_sl00 h))
theorem pe_sl10 {p2 : Pos} (hK : X.K = a.K) (hx : PE X l (tAr a T Xc x)) (hy : PE X r (tAr a T Xc y)) : PE X (.Subscript l (.Slice (some r) none none p2) pos) (tE a T Xc (.op (.slice true false) (.cons x (.cons y .nil)))) :=
  PE.mono (pe_slice sl_A hx (po_some hy) po_none) fun σ H Q h => tAr_mono (fun v H1 q => tAr_mono (fun u H2 q => by
    obtain ⟨v', u', e, i, e2, q⟩ := q
    cases e
    rw [hK]
    exact ⟨i, e2, q⟩) q) (tAs_two (tE_op ok_sl10 h))
theorem pe_sl01 {p2 : Pos} (hK : X.K = a.K) (hx : PE X l (tAr a T Xc x)) (hy : PE X r (tAr a T Xc y)) : PE X (.Subscript l (.Slice none (some r) none p2) pos) (tE a T Xc (.op (.slice false true) (.cons x (.cons y .nil)))) :=
  PE.mono (pe_slice sl_A hx po_none (po_some hy)) fun σ H Q h => tAr_mono (fun v H1 q => tAr_mono (fun u H2 q => by
    obtain ⟨v', u', e, i, e2, q⟩ := q
    cases e
    rw [hK]
    exact ⟨i, e2, q⟩) q) (tAs_two (tE_op ok_sl01 h))
theorem pe_revW {k : Nat} {p1 p2 p3 : Pos} (hK : X.K = a.K) (hx : PE X l (tAr a T Xc x)) : PE X (.Subscript l (.Slice none none (some (.UnaryOp .USub (.Constant (.int 1) k p1) p2)) p3) pos) (tE a T Xc (.op .rev (.cons x .nil))) :=
  PE.mono (pe_revA hx) fun σ H Q h => tAr_mono (fun v H1 q => by
    obtain ⟨v', e, q⟩ := q
    cases e
    rw [hK]
    exact q) (tAs_one (tE_op ok_rev h))
/-- a constant, a number of the module's -/
theorem pe_cst {c : Const} {k : Nat} {w : W} (h : chkCst w c = true) : PE X (.Constant c k pos) (tE a T Xc (.cst w)) := by
  have go : ∀ v, (∀ H, RW a.K H w v) → PE X (.Constant c k pos) (tC v) → PE X (.Constant c k pos) (tE a T Xc (.cst w)) := fun v hv p => PE.mono p fun σ H Q q => by
    obtain ⟨p, ρ, G, Q0, hp, rel, q, f⟩ := q
    exact f _ ρ v H q (rel.pushW (hv H))
  cases w <;> cases c <;> first
    | exact go .non (fun _ => rfl) pe_non
    | exact (Bool.false_ne_true h).elim
    | (cases (show _ = _ from by simpa [chkCst] using h)
       exact go (.bl _) (fun _ => rfl) pe_bl)
    | (cases (show _ = _ from by simpa [chkCst] using h)
       exact go (.int _) (fun _ => rfl) pe_int)
    | (cases (show _ = _ from by simpa [chkCst] using h)
       exact go (.str _) (fun _ => rfl) pe_str)
theorem pe_globW {n : Str} {i : Int} {t : Tok} {p0 : Pos} (hg : Gl X n) (hm : X.mg n = some (.int i t)) (hd : okName n = true) : PE X (.Name n p0) (tE a T Xc (.glob n i)) :=
  PE.mono (pe_glob (v := .int i) hg hm ⟨t, rfl⟩ (okName_of hd).1) fun σ H Q q => by
    obtain ⟨p, ρ, G, Q0, hp, rel, q, f⟩ := q
    exact f _ ρ _ H q (rel.pushW rfl)
end
end Wm
namespace Wm
open PySem PySem.Spec PyProof.Rows L2

section
variable {a : Act} {ρ : REnv} {G : List (V × SV)} {σ : St} {H : Hp} {v : V} {s : SV}
theorem Rel.tmpRep (r : Rel a ρ (G ++ [(v, s)]) σ H) : ∃ F, RD a.K H s.d v F := by
  obtain ⟨F, g⟩ := r.good
  exact ⟨_, g.rep (k := .inr G.length) (v := v) (s := s) (by show (G ++ [(v, s)])[G.length]? = _; simp)⟩
theorem Rel.tmpB (r : Rel a ρ (G ++ [(v, s)]) σ H) {b : Bool} (h : boolOf s = some b) : v = .bl b := by
  obtain ⟨F, q⟩ := r.tmpRep
  obtain ⟨m, d⟩ := s
  unfold boolOf at h
  split at h
  · rename_i d' c e
    cases h
    have e : d = .w (.bl b) := e
    subst e
    exact q.1
  · cases h
theorem mkSV_own (d : D) : mkSV .own d = ⟨.own, d⟩ := by cases d <;> rfl
end
section
variable {X : Cx} {a : Act} {T : Tab} {Xc : Ex → REnv → Prop} {x y z : E} {l r m : Expr} {pos : Pos}
/-- a name's thing, taken or read -/
theorem tE_var {i : Nat} {σ : St} {H : Hp} {Q : VK} (h : tE a T Xc (.var i) σ H Q) : tVar i σ H Q := by
  obtain ⟨p, ρ, G, Q0, hp, rel, q, f⟩ := h
  simp only [wpE] at q
  split at q
  · rename_i m d es
    obtain ⟨v, ev⟩ := rel.sl i _ es
    refine ⟨v, ev, ?_⟩
    obtain ⟨F, g⟩ := rel.good
    have r0 := g.rep (itm_slot (G := G) es ev)
    split at q
    · rename_i x
      exact f _ ρ v H q (rel.pushW r0.1)
    · rename_i nw
      split at q
      · rename_i ρ' et
        have ek : tks p ρ [.late i] = some ([d], ρ') := by
          show tks1 (p || (brwArg (.late i) || false)) ρ [.late i] = _
          have : (p || (brwArg (.late i) || false)) = p := by cases p <;> rfl
          rw [this]
          have tke : tk p ρ (.late i) = some (d, ρ') := by
            simp only [tk, es]
            cases d with
            | w x => exact (nw x rfl).elim
            | _ => simp only [et]
          simp only [tks1, tke]
        obtain ⟨rel', F', F0, g', pl, rd⟩ := takes_rel (T := []) (vs := [v]) ek hp (.late ev .nil) (by rw [List.append_nil]; exact rel)
        obtain ⟨v', r', F1, F2, e1, rd1, ⟨e2, e3⟩, e4⟩ := rd
        cases e1
        subst e3
        rw [List.append_nil] at e4
        subst e4
        exact f _ ρ' v H q (rel'.push rel'.ext (g'.madeT pl rd1))
      · exact q.elim
    · rename_i nw no
      have hm : m ≠ .own := fun e => no e
      refine f _ ρ v H q (rel.push rel.ext (g.add (k0 := .inr G.length) (s := ⟨m, d⟩) r0 (fun e => (hm e).elim) (fun e => (hm e).elim) (fun e => (hm e).elim) (fun _ nb k x nk ek mk b hb => ?_) (fun e => (hm e).elim) fun eb k x b nk ek mk hb => ?_))
      · have nk' : k ≠ .inl i := fun e => by
          subst e
          rw [itm_slot (G := G) es ev] at ek
          cases ek
          exact hm mk
        exact g.dis nk' ek (itm_slot (G := G) es ev) mk nb b hb
      · have nk' : k ≠ .inl i := fun e => by
          subst e
          rw [itm_slot (G := G) es ev] at ek
          cases ek
          exact hm mk
        exact g.top nk' ek (itm_slot (G := G) es ev) mk eb hb
  · exact q.elim
theorem tE_boolK {Q0 : SV → REnv → Prop} {σ : St} {H : Hp} {ρ' : REnv} {G : List (V × SV)} {v : V} {s : SV} {A B : Prop} {R : Bool → Prop} (rel : Rel a ρ' (G ++ [(v, s)]) σ H) (q : match boolOf s with | some true => A | some false => B | none => False) : ∃ c, v = .bl c ∧ boolOf s = some c ∧ if c = true then A else B := by
  cases e : boolOf s with
  | none => rw [e] at q; exact q.elim
  | some c =>
    rw [e] at q
    refine ⟨c, rel.tmpB e, rfl, ?_⟩
    cases c
    · exact q
    · exact q
theorem pe_andW {b : Expr} {rest : List Expr} (ha : PE X l (tE a T Xc x)) (hb : PE X (.BoolOp .And (b :: rest) pos) (tE a T Xc y)) : PE X (.BoolOp .And (l :: b :: rest) pos) (tE a T Xc (.and x y)) :=
  PE.mono (pe_and ha hb) fun σ H Q h => by
    obtain ⟨p, ρ, G, Q0, hp, rel, q, f⟩ := h
    refine ⟨p, ρ, G, _, hp, rel, q, fun s ρ' v H' q1 r1 => ?_⟩
    obtain ⟨c, e, _, k⟩ := tE_boolK (Q0 := Q0) (R := fun _ => True) r1 q1
    refine ⟨c, e, ?_⟩
    cases c with
    | true => exact ⟨p, ρ', G, Q0, hp, r1.pre, k, f⟩
    | false => exact f _ ρ' _ H' k (r1.pre.pushW rfl)
theorem pe_orW {b : Expr} {rest : List Expr} (ha : PE X l (tE a T Xc x)) (hb : PE X (.BoolOp .Or (b :: rest) pos) (tE a T Xc y)) : PE X (.BoolOp .Or (l :: b :: rest) pos) (tE a T Xc (.or x y)) :=
  PE.mono (pe_or ha hb) fun σ H Q h => by
    obtain ⟨p, ρ, G, Q0, hp, rel, q, f⟩ := h
    refine ⟨p, ρ, G, _, hp, rel, q, fun s ρ' v H' q1 r1 => ?_⟩
    obtain ⟨c, e, _, k⟩ := tE_boolK (Q0 := Q0) (R := fun _ => True) r1 q1
    refine ⟨c, e, ?_⟩
    cases c with
    | false => exact ⟨p, ρ', G, Q0, hp, r1.pre, k, f⟩
    | true => exact f _ ρ' _ H' k (r1.pre.pushW rfl)
theorem pe_notW (ha : PE X l (tE a T Xc x)) : PE X (.UnaryOp .Not l pos) (tE a T Xc (.not x)) :=
  PE.mono (pe_not ha) fun σ H Q h => by
    obtain ⟨p, ρ, G, Q0, hp, rel, q, f⟩ := h
    refine ⟨p, ρ, G, _, hp, rel, q, fun s ρ' v H' q1 r1 => ?_⟩
    split at q1
    · rename_i b e
      exact ⟨b, r1.tmpB e, f _ ρ' _ H' q1 (r1.pre.pushW rfl)⟩
    · exact q1.elim
theorem tT_val {e : E} {σ : St} {H : Hp} {Q : Bool → Hp → Prop} (h : tT a T Xc e σ H Q) : tB (tE a T Xc e) σ H Q := by
  obtain ⟨p, ρ, G, Q0, hp, rel, q, f⟩ := h
  refine ⟨p, ρ, G, Q0, hp, rel, q, fun s ρ' v H' q1 r1 => ?_⟩
  obtain ⟨b, e1, e2⟩ := f s ρ' H' q1 r1.pre
  exact ⟨b, r1.tmpB e1, e2⟩
theorem pt_notW (ha : PT X l (tT a T Xc x)) : PT X (.UnaryOp .Not l pos) (tT a T Xc (.not x)) :=
  PT.mono (pt_not ha) fun σ H Q h => by
    obtain ⟨p, ρ, G, Q0, hp, rel, q, f⟩ := h
    refine ⟨p, ρ, G, _, hp, rel, q, fun s ρ' H' q1 r1 => ?_⟩
    split at q1
    · rename_i b e
      obtain ⟨b', e1, e2⟩ := f _ ρ' H' q1 r1
      cases e1
      exact ⟨b, e, e2⟩
    · exact q1.elim
theorem pw_andW {b : Expr} {rest : List Expr} (ha : PT X l (tT a T Xc x)) (hb : PW X (.BoolOp .And (b :: rest) pos) (tT a T Xc y)) : PW X (.BoolOp .And (l :: b :: rest) pos) (tT a T Xc (.and x y)) :=
  ⟨fun whole pins s σ H Q I h => (pw_and ha hb).run whole pins s σ H Q I (by
    obtain ⟨p, ρ, G, Q0, hp, rel, q, f⟩ := h
    refine ⟨p, ρ, G, _, hp, rel, q, fun s ρ' H' q1 r1 => ?_⟩
    split at q1
    · rename_i e
      exact ⟨true, e, p, ρ', G, Q0, hp, r1, q1, f⟩
    · rename_i e
      obtain ⟨b', e1, e2⟩ := f _ ρ' H' q1 r1
      cases e1
      exact ⟨false, e, e2⟩
    · exact q1.elim)⟩
theorem pw_orW {b : Expr} {rest : List Expr} (ha : PT X l (tT a T Xc x)) (hb : PW X (.BoolOp .Or (b :: rest) pos) (tT a T Xc y)) : PW X (.BoolOp .Or (l :: b :: rest) pos) (tT a T Xc (.or x y)) :=
  ⟨fun whole pins s σ H Q I h => (pw_or ha hb).run whole pins s σ H Q I (by
    obtain ⟨p, ρ, G, Q0, hp, rel, q, f⟩ := h
    refine ⟨p, ρ, G, _, hp, rel, q, fun s ρ' H' q1 r1 => ?_⟩
    split at q1
    · rename_i e
      obtain ⟨b', e1, e2⟩ := f _ ρ' H' q1 r1
      cases e1
      exact ⟨true, e, e2⟩
    · rename_i e
      exact ⟨false, e, p, ρ', G, Q0, hp, r1, q1, f⟩
    · exact q1.elim)⟩
theorem pe_iteW {c : E} (hc : PT X m (tT a T Xc c)) (ha : PE X l (tE a T Xc x)) (hb : PE X r (tE a T Xc y)) : PE X (.IfExp m l r pos) (tE a T Xc (.ite c x y)) :=
  PE.mono (pe_ifExp hc ha hb) fun σ H Q h => by
    obtain ⟨p, ρ, G, Q0, hp, rel, q, f⟩ := h
    refine ⟨p, ρ, G, _, hp, rel, q, fun s ρ' H' q1 r1 => ?_⟩
    split at q1
    · rename_i e
      exact ⟨true, e, p, ρ', G, Q0, hp, r1, q1, f⟩
    · rename_i e
      exact ⟨false, e, p, ρ', G, Q0, hp, r1, q1, f⟩
    · exact q1.elim
end
end Wm
namespace Wm
open PySem PySem.Spec PyProof.Rows L2

def binR (K : PySem.W.Frag) : Bin → R2'
  | .add => rAdd K
  | .sub => rInt (fun _ _ => True) (· - ·)
  | .mul => rMul
  | .fdiv => rInt CDivW (· / ·)
  | .mod => rInt (fun _ j => 0 < j) (· % ·)
  | .pow => rInt CPow fun i j => i ^ j.toNat
  | .bor => rInt (fun _ _ => True) Builtin.bitOr
def cmpR (K : PySem.W.Frag) : Cmp → R2'
  | .eq => rEqN K false
  | .ne => rEqN K true
  | .lt => rLt K
  | .le => rOrd fun i j => decide (i ≤ j)
  | .gt => rOrd fun i j => decide (j < i)
  | .ge => rOrd fun i j => decide (j ≤ i)
  | .isN => rIs false
  | .notN => rIs true
  | .inn => rInN K false
  | .notin => rInN K true
theorem ok_bin {a : Act} : ∀ b, POk a (.bin b) (l2 (binR a.K b))
  | .add => ok_add | .sub => ok_sub | .mul => ok_mul | .fdiv => ok_fdiv | .mod => ok_mod | .pow => ok_pow | .bor => ok_bor
theorem x_bin {X : Cx} : ∀ b, OpR X (binaryOp (opBin b)) (binR X.K b)
  | .add => x_add | .sub => x_sub | .mul => x_mul | .fdiv => x_fdiv | .mod => x_mod | .pow => x_pow | .bor => x_bor
theorem ok_cmp {a : Act} : ∀ c, POk a (.cmp c) (l2 (cmpR a.K c))
  | .eq => ok_eq | .ne => ok_ne | .lt => ok_lt | .le => ok_le | .gt => ok_gt | .ge => ok_ge | .isN => ok_isN | .notN => ok_notN | .inn => ok_in | .notin => ok_notin
theorem x_isB {X : Cx} : OpR X (compareOp .Is) (rIs false) := fun pins s σ H x y v u Q I rx ry h => by
  rcases h with h | ⟨b, c, rfl, rfl, q⟩
  · exact op_isN pins s σ H x y v u Q I rx ry h
  · cases rx
    cases ry
    exact is_bool (fin_bl I q rfl)
theorem x_notB {X : Cx} : OpR X (compareOp .IsNot) (rIs true) := fun pins s σ H x y v u Q I rx ry h => by
  rcases h with h | ⟨b, c, rfl, rfl, q⟩
  · exact op_notN pins s σ H x y v u Q I rx ry h
  · cases rx
    cases ry
    exact isnot_bool (fin_bl I q rfl)
theorem x_cmp {X : Cx} (hu : X.A.units + 200 < cLine) : ∀ c, OpR X (compareOp (opCmp c)) (cmpR X.K c)
  | .eq => x_eq hu | .ne => x_ne hu | .lt => x_lt hu | .le => x_le | .gt => x_gt | .ge => x_ge | .isN => x_isB | .notN => x_notB | .inn => x_in hu | .notin => x_notin hu
theorem cmp_mb (c : Cmp) (x y : D) (Q Q' : SV → Prop) (k : ∀ b, Q (sw (.bl b)) → Q' (sw (.bl b))) (h : pCmp c x y Q) : pCmp c x y Q' := by
  have pe : ∀ neg, pEq neg x y Q → pEq neg x y Q' := fun neg h => by
    unfold pEq at h ⊢
    split at h
    · exact k _ h
    · exact ⟨h.1, h.2.1, k _ h.2.2⟩
  have po : ∀ f, pOrd f x y Q → pOrd f x y Q' := fun f h => by
    unfold pOrd at h ⊢
    split at h
    · exact k _ h
    · exact h.elim
  have pi : ∀ neg, pIn neg x y Q → pIn neg x y Q' := fun neg h => by
    have pd : ∀ {o : Option L2.Key} {g : L2.Key → Bool}, (match o with | some k => Q (sw (.bl (g k))) | none => False) → (match o with | some k => Q' (sw (.bl (g k))) | none => False) := fun {o g} h => by
      cases o with
      | none => exact h
      | some z => exact k _ h
    have pt : ∀ {o : Option (List L2.Key)} {g : List L2.Key → Bool}, (match o with | some k => Q (sw (.bl (g k))) | none => False) → (match o with | some k => Q' (sw (.bl (g k))) | none => False) := fun {o g} h => by
      cases o with
      | none => exact h
      | some z => exact k _ h
    have ps : ∀ {o : Option (List D)} {A B : Prop} {g : List D → Bool}, (match o with | some ds => A ∧ B ∧ Q (sw (.bl (g ds))) | none => False) → (match o with | some ds => A ∧ B ∧ Q' (sw (.bl (g ds))) | none => False) := fun {o A B g} h => by
      cases o with
      | none => exact h
      | some z => exact ⟨h.1, h.2.1, k _ h.2.2⟩
    cases y with
    | dK kvs => cases x <;> first | exact pd h | exact h
    | dT kvs =>
      cases x with
      | w x => cases x <;> first | exact pt h | exact h
      | _ => exact h
    | w y => exact ps h
    | tup y => exact ⟨h.1, h.2.1, k _ h.2.2⟩
    | lst y => exact ⟨h.1, h.2.1, k _ h.2.2⟩
    | fz y => exact ⟨h.1, h.2.1, k _ h.2.2⟩
  have pl : ∀ {o1 o2 : Option (List Int)} {g : List Int → List Int → Bool}, (match o1, o2 with | some is, some js => Q (sw (.bl (g is js))) | _, _ => False) → (match o1, o2 with | some is, some js => Q' (sw (.bl (g is js))) | _, _ => False) := fun {o1 o2 g} h => by
    cases o1 with
    | none => exact h
    | some z => cases o2 with
      | none => exact h
      | some z => exact k _ h
  cases c with
  | eq => exact pe _ h
  | ne => exact pe _ h
  | lt =>
    have h : pLt x y Q := h
    show pLt x y Q'
    unfold pLt at h ⊢
    split at h
    · exact k _ h
    · exact pl h
    · exact h.elim
  | le => exact po _ h
  | gt => exact po _ h
  | ge => exact po _ h
  | isN =>
    simp only [pCmp] at h ⊢
    split at h
    · exact k _ h
    · exact h.elim
  | notN =>
    simp only [pCmp] at h ⊢
    split at h
    · exact k _ h
    · exact h.elim
  | inn => exact pi _ h
  | notin => exact pi _ h
theorem cmp_mono (c : Cmp) (x y : D) (Q Q' : SV → Prop) (k : ∀ s, Q s → Q' s) (h : pCmp c x y Q) : pCmp c x y Q' := cmp_mb c x y Q Q' (fun _ q => k _ q) h
theorem cmp_bool (c : Cmp) (x y : D) (Q : SV → Prop) (h : pCmp c x y Q) : pCmp c x y fun s => Q s ∧ ∃ b, s = sw (.bl b) := cmp_mb c x y _ _ (fun b q => ⟨q, b, rfl⟩) h
theorem prim_cmp_bool {c : Cmp} {args : List Arg} {p : Bool} {ρ : REnv} {Q0 : SV → REnv → Prop} (h : prim (.cmp c) args p ρ Q0) : prim (.cmp c) args p ρ fun s ρ' => Q0 s ρ' ∧ ∃ b, s = sw (.bl b) := by
  simp only [prim] at h ⊢
  split at h
  · rename_i ops e
    match ops, h with
    | [x, y], h => exact cmp_bool c x.d y.d _ h
  · exact h.elim
section
variable {X : Cx} {a : Act} {T : Tab} {CS : CkT} {N : List Str} {sc : Scope} {R : Nat} {Xc : Ex → REnv → Prop} {x y z : E} {l r m : Expr} {pos : Pos}
theorem Ctx.hu (c : Ctx X a T CS N sc R) : X.A.units + 200 < cLine := by have := c.room.un; omega
/-- two comparisons in a row -/
theorem tChainW {o1 o2 : Cmp} {σ : St} {H : Hp} {Q : VK} (h : tE a T Xc (.chain o1 o2 x y z) σ H Q) : tChain (cmpR a.K o1) (cmpR a.K o2) (tE a T Xc x) (tE a T Xc y) (tE a T Xc z) σ H Q := by
  obtain ⟨p, ρ, G, Q0, hp, rel, q, f⟩ := h
  have isw : ∀ {d : D}, isW d = true → ∃ w, d = .w w := fun {d} e => by
    cases d <;> first | exact ⟨_, rfl⟩ | cases e
  have hw : ∀ {G : List (V × SV)} {v : V} {s : SV}, pf p G → isW s.d = true → pf p (G ++ [(v, s)]) := fun {G v s} h e ep y hy m => by
    rcases List.mem_append.mp hy with hy | hy
    · exact h ep y hy m
    · cases List.mem_singleton.mp hy; exact e
  refine ⟨p, ρ, G, _, hp, rel, q, fun sx ρ1 vx H1 q1 r1 => ?_⟩
  obtain ⟨wx, q1⟩ := q1
  refine ⟨p, ρ1, G ++ [(vx, sx)], _, hw hp wx, r1, q1, fun sy ρ2 vy H2 q2 r2 => ?_⟩
  obtain ⟨wy, q2⟩ := q2
  obtain ⟨mx, dx⟩ := sx
  obtain ⟨my, dy⟩ := sy
  obtain ⟨x', rfl⟩ := isw wx
  obtain ⟨y', rfl⟩ := isw wy
  obtain ⟨_, rx, _⟩ := r2.pre.tmpRep
  obtain ⟨_, ry, _⟩ := r2.tmpRep
  have r3 : Rel a ρ2 ((G ++ [(vy, (⟨my, .w y'⟩ : SV))]) ++ [(vx, (⟨mx, .w x'⟩ : SV)), (vy, (⟨my, .w y'⟩ : SV))]) σ H2 := by
    have := ((r2.pre.pre.pushW (m := my) ry).pushW (m := mx) rx).pushW (m := my) ry
    simpa using this
  have q2' : prim (.cmp o1) [.tmp mx (.w x'), .tmp my (.w y')] p ρ2 (fun r ρ => ρ = ρ2 ∧ (match boolOf r with
    | some true => wpE T Xc p z ρ2 fun z ρ3 => pCmp o2 (.w y') z.d fun r => Q0 r ρ3
    | some false => Q0 (sw (.bl false)) ρ2
    | none => False)) := by
    show pCmp o1 _ _ _
    exact (cmp_mono o1 _ _ _ _ (fun s h => ⟨rfl, h⟩) q2)
  obtain ⟨v', u', ev, q3⟩ := (ok_cmp o1).run q2' (hw hp wy) (.tmp (.tmp .nil)) r3 (Q := fun z' H3 => ∃ k, z' = .bl k ∧ (if k = true then tE a T Xc z σ H3 fun w' H4 => cmpR a.K o2 vy w' H4 Q else Q (.bl false) H3)) fun s ρ' v H' q3 r4 => by
    obtain ⟨rfl, q3⟩ := q3
    obtain ⟨c, e, _, k⟩ := tE_boolK (Q0 := Q0) (R := fun _ => True) r4 q3
    refine ⟨c, e, ?_⟩
    cases c with
    | false => exact f _ ρ' _ H' k (r4.pre.pre.pushW rfl)
    | true =>
      refine ⟨p, ρ', G ++ [(vy, ⟨my, .w y'⟩)], _, hw hp wy, r4.pre, k, fun sz ρ3 vz H4 q4 r5 => ?_⟩
      have q4' : prim (.cmp o2) [.tmp my (.w y'), .tmp sz.m sz.d] p ρ3 (fun r ρ => Q0 r ρ) := q4
      obtain ⟨v', u', ev, q5⟩ := (ok_cmp o2).run q4' hp (.tmp (.tmp .nil)) (by simpa using r5) (Q := Q) fun s ρ' v H' q r => f s ρ' v H' q r
      cases ev
      exact q5
  cases ev
  exact q3
theorem pe_chainW {o1 o2 : Cmp} (c : Ctx X a T CS N sc R) (hx : PE X l (tE a T Xc x)) (hy : PE X r (tE a T Xc y)) (hz : PE X m (tE a T Xc z)) (hm : plainE m = true) : PE X (.Compare l [opCmp o1, opCmp o2] [r, m] pos) (tE a T Xc (.chain o1 o2 x y z)) :=
  PE.mono (pe_chain (x_cmp c.hu o1) (x_cmp c.hu o2) hx hy hz (behind_plain (op := opCmp o2) hm)) fun σ H Q h => by
    rw [c.hK]
    exact tChainW h
theorem pt_chainW {o1 o2 : Cmp} (c : Ctx X a T CS N sc R) (hx : PE X l (tE a T Xc x)) (hy : PE X r (tE a T Xc y)) (hz : PE X m (tE a T Xc z)) (hm : plainE m = true) : PT X (.Compare l [opCmp o1, opCmp o2] [r, m] pos) (tT a T Xc (.chain o1 o2 x y z)) :=
  PT.mono (pt_chain (x_cmp c.hu o1) (x_cmp c.hu o2) hx hy hz (behind_plain (op := opCmp o2) hm)) fun σ H Q h => by
    rw [c.hK]
    exact tChainW (tT_val h)
end
end Wm
namespace Wm
open PySem PySem.Spec PyProof.Rows L2

section
variable {X : Cx} {a : Act} {T : Tab} {CS : CkT} {N : List Str} {sc : Scope} {R : Nat} {Xc : Ex → REnv → Prop} {x y z : E} {l r m : Expr} {pos : Pos}
theorem back_cons {b : Bool} {t : Sem Value} {ts : List (Bool × Sem Value)} (h : b = false) (h2 : (backTo pos ts).any (·.1) = false) : (backTo pos ((b, t) :: ts)).any (·.1) = false := by
  subst h
  show (false || (backTo pos ts).any (·.1)) = false
  rw [h2]; rfl
theorem hpl_of : ∀ {es : List Expr} (env : Env), (∀ e ∈ es, plainE e = true) → (backTo pos (starEach es env)).any (·.1) = false
  | [], _, _ => rfl
  | e :: es, env, h => by
    rw [star_plain es env (h e List.mem_cons_self)]
    exact back_cons rfl (hpl_of env fun e he => h e (List.mem_cons_of_mem _ he))
theorem chkGl_inv {n : Str} {f : Expr} (h : chkGl sc n f = true) : ∃ p, f = .Name n p ∧ glB sc n = true ∧ okName n = true := by
  unfold chkGl at h
  split at h
  · rename_i y ey
    simp only [Bool.and_eq_true, decide_eq_true_eq] at h
    obtain ⟨p, rfl⟩ := vName_inv ey
    exact ⟨p, by rw [h.1.1], h.1.2, h.2⟩
  · cases h
/-- the built-ins that are called by their names -/
theorem pe_bltW (c : Ctx X a T CS N sc R) {o : Prim} {n : Str} {f e : Expr} {es : List Expr} {as : Es} (hn : primName o = some n) (hg : chkGl sc n f = true) (ha : PA X (e :: es) (tL a T Xc as)) (hp : plainE e = true) (hps : ∀ e ∈ es, plainE e = true) :
    PE X (.Call f (e :: es) [] pos) (tE a T Xc (.op o as)) := by
  obtain ⟨p0, rfl, hg, ho⟩ := chkGl_inv hg
  have ha := pa_tAs ha
  have hpl : (backTo pos (starEach es X.env)).any (·.1) = false := hpl_of X.env hps
  have hK := c.hK
  have hc := c.calm
  have G := c.gl hg
  have hu := c.hu
  cases o <;> first
    | (cases hn; done)
    | (cases hn
       first
         | exact pe_blt ok_len (by rw [← hK]; exact x_len) G (c.blt _ (by decide)) (by decide +kernel) ha ho hp hpl
         | exact pe_blt ok_sorted (by rw [← hK]; exact cr_sortW hc hu) G (c.blt _ (by decide)) (by decide +kernel) ha ho hp hpl
         | exact pe_bltT ok_list (by rw [← hK]; exact x_list hc) G (c.blt _ (by decide)) (by decide +kernel) ha ho hp hpl
         | exact pe_bltT ok_tuple (by rw [← hK]; exact x_tuple) G (c.blt _ (by decide)) (by decide +kernel) ha ho hp hpl
         | exact pe_blt ok_all (by rw [← hK]; exact x_all hc) G (c.blt _ (by decide)) (by decide +kernel) ha ho hp hpl
         | exact pe_blt ok_any (by rw [← hK]; exact x_any hc) G (c.blt _ (by decide)) (by decide +kernel) ha ho hp hpl
         | exact pe_blt ok_sum (by rw [← hK]; exact x_sum hc) G (c.blt _ (by decide)) (by decide +kernel) ha ho hp hpl
         | exact pe_blt ok_min1 (by rw [← hK]; exact x_min1 hc) G (c.blt _ (by decide)) (by decide +kernel) ha ho hp hpl
         | exact pe_blt ok_max1 (by rw [← hK]; exact x_max1 hc) G (c.blt _ (by decide)) (by decide +kernel) ha ho hp hpl
         | exact pe_blt ok_min2 (x_min2 hc) G (c.blt _ (by decide)) (by decide +kernel) ha ho hp hpl
         | exact pe_blt ok_max2 (x_max2 hc) G (c.blt _ (by decide)) (by decide +kernel) ha ho hp hpl
         | exact pe_blt ok_abs x_abs G (c.blt _ (by decide)) (by decide +kernel) ha ho hp hpl
         | exact pe_bltT ok_int x_int G (c.blt _ (by decide)) (by decide +kernel) ha ho hp hpl)
def tyNames : List String := ["int", "bool", "str", "list", "tuple", "dict"]
theorem okTy_mem {t : String} (h : okTy t = true) : t ∈ tyNames := by
  unfold okTy at h
  simp only [Bool.or_eq_true, beq_iff_eq] at h
  rcases h with ((((rfl | rfl) | rfl) | rfl) | rfl) | rfl <;> simp [tyNames]
theorem ty_boot : ∀ t ∈ tyNames, bootBuiltins (Str.ofString t) = some (.type t) ∧ Str.ofString t ∈ bltNames := by decide +kernel
theorem ty_kit : ∀ tn ∈ ["NoneType", "bool", "int", "str", "tuple", "list", "dict"], ∀ t ∈ tyNames, kitB tn t = some (isOne tn t) := by decide +kernel
theorem ty_kits {K : PySem.W.Frag} {tn : String} (h : tn ∈ ["NoneType", "bool", "int", "str", "tuple", "list", "dict"]) : ∀ (ts : List String), (∀ t ∈ ts, t ∈ tyNames) → PySem.W.kitAny K (.type tn) (ts.map Value.type) = some (ts.any (isOne tn))
  | [], _ => rfl
  | t :: ts, ht => by
    refine kitAny_cons (b := isOne tn t) (kit_ty (ty_kit tn h t (ht t List.mem_cons_self))) (fun e => ?_) fun e => ?_
    · rw [List.any_cons, e, Bool.false_or]
      exact ty_kits h ts fun t' h' => ht t' (List.mem_cons_of_mem _ h')
    · rw [List.any_cons, e, Bool.true_or]
def rIsTysL (K : PySem.W.Frag) (tys : List String) : V → Hp → VK → Prop := fun x H Q => ∃ t, t ∈ ["NoneType", "bool", "int", "str", "tuple", "list", "dict"] ∧ ∀ p cs, H p = none → TyX K (upd H p (.tup cs)) x (.type t) ∧ Q (.bl (tys.any (isOne t))) (upd H p (.tup cs))
theorem ok_isiL {tys : List String} : POk a (.isi tys) (l1 (rIsTysL a.K tys)) := POk.of1 rfl (one1 (fun _ h => h) (fun _ _ _ _ h => h)) fun {x ρ G T σ H v Q1 Q} q rel h1 k => by
  obtain ⟨F1, r1⟩ := h1.rd rel
  refine ⟨_, r1.ty.2, fun p cs n => ?_⟩
  have r2 := (rel.laid (o := .tup cs) n)
  obtain ⟨F2, r3⟩ := h1.rd r2
  exact ⟨r3.ty.1, k _ _ _ q (r2.flatAll rfl)⟩
theorem pe_ty (c : Ctx X a T CS N sc R) {t : String} {e : Expr} (h : chkGl sc (Str.ofString t) e = true) (ht : t ∈ tyNames) : PE X e (tC (.ty t)) := by
  obtain ⟨p0, rfl, hg, ho⟩ := chkGl_inv h
  exact pe_bltn (c.gl hg) (c.blt _ (ty_boot t ht).2) (ty_boot t ht).1 rfl (okName_of ho).2.2 (okName_of ho).1
theorem chkGl_plain {n : Str} {e : Expr} (h : chkGl sc n e = true) : plainE e = true := by
  obtain ⟨p, rfl, _⟩ := chkGl_inv h
  rfl
theorem pa_tys (c : Ctx X a T CS N sc R) : ∀ {es : List Expr} {ts : List String}, es.length = ts.length → (es.zip ts).all (fun p => chkGl sc (Str.ofString p.2) p.1) = true → (∀ t ∈ ts, t ∈ tyNames) → PA X es (fun _ H Q => Q (ts.map V.ty) H)
  | [], [], _, _, _ => PA.mono pa_nil fun _ _ _ h => h
  | e :: es, t :: ts, hl, h, ht => by
    rw [List.zip_cons_cons, List.all_cons, Bool.and_eq_true] at h
    exact PA.mono (pa_cons (pe_ty c h.1 (ht t List.mem_cons_self)) (pa_tys c (by simpa using hl) h.2 fun t' h' => ht t' (List.mem_cons_of_mem _ h')) (star_plain _ _ (chkGl_plain h.1))) fun _ _ _ q => q
  | [], _ :: _, hl, _, _ => by cases hl
  | _ :: _, [], hl, _, _ => by cases hl
theorem paired_cls : ∀ ts : List String, Paired ClsV (ts.map V.ty) (ts.map Value.type)
  | [] => .nil
  | t :: ts => .cons (.ty t) (paired_cls ts)
theorem pe_isiW (c : Ctx X a T CS N sc R) {tys : List String} {f t : Expr} (hf : chkGl sc "isinstance" f = true) (hx : PE X l (tAr a T Xc x)) (hl : plainE l = true) (ht : chkTys sc tys t = true) (hk : tys.all okTy = true) : PE X (.Call f [l, t] [] pos) (tE a T Xc (.op (.isi tys) (.cons x .nil))) := by
  obtain ⟨p0, rfl, hg, ho⟩ := chkGl_inv hf
  have hts : ∀ t ∈ tys, t ∈ tyNames := fun t h => okTy_mem (List.all_eq_true.mp hk t h)
  have hK := c.hK
  unfold chkTys at ht
  split at ht
  · rename_i es k tp
    simp only [Bool.and_eq_true, decide_eq_true_eq] at ht
    have hn : es.length = tys.length := ht.1.1
    have pt : PE X (.Tuple es k tp) (tTup (fun _ H Q => Q (tys.map V.ty) H)) := pe_tup (pa_tys c hn ht.1.2 hts)
    refine PE.mono (pe_callB call_isiT (c.gl hg) (c.blt _ (by decide)) (by decide +kernel) (pa_cons hx (pa_cons pt pa_nil (star_plain _ _ rfl)) (star_plain _ _ hl)) (okName_of ho).2.2 (okName_of ho).1 (star_plain _ _ hl) (hpl_of _ fun e he => by cases List.mem_singleton.mp he; rfl)) fun σ H Q h => tAr_mono (fun v H1 q => ?_) (tAs_one (tE_op ok_isiL h))
    obtain ⟨v', e, tn, tm, q⟩ := q
    cases e
    refine ⟨?_, fun p n => ?_⟩
    · rw [List.length_map]
      have := s1000
      have := ht.2
      omega
    · obtain ⟨q1, q2⟩ := q p (tys.map V.ty) n
      exact ⟨v, p, _, _, _, _, rfl, upd_same, paired_cls tys, by rw [hK]; exact q1, ty_kits tm tys hts, q2⟩
  · rename_i t' nt
    refine PE.mono (pe_callB call_isi (c.gl hg) (c.blt _ (by decide)) (by decide +kernel) (pa_cons hx (pa_cons (pe_ty c ht (hts t' (by simp))) pa_nil (star_plain _ _ (chkGl_plain ht))) (star_plain _ _ hl)) (okName_of ho).2.2 (okName_of ho).1 (star_plain _ _ hl) (hpl_of _ fun e he => by cases List.mem_singleton.mp he; exact chkGl_plain ht)) fun σ H Q h => tAr_mono (fun v H1 q => ?_) (tAs_one (tE_op ok_isi h))
    obtain ⟨v', e, tn, q1, tm, q⟩ := q
    cases e
    refine ⟨v, .ty t', .type tn, .type t', _, rfl, .ty _, by rw [hK]; exact q1, kit_ty (ty_kit tn tm t' (hts t' (by simp))), ?_⟩
    simpa using q
  · cases ht
/-- a call of one's own -/
theorem call_sp {fn : Fn} {σ : St} {ρ : REnv} {G T' : List (V × SV)} {H : Hp} {args : List Arg} {vs : List V} {p : Bool} {mg : Str → Option Value} {Q0 : SV → REnv → Prop} {Q : VK} (q : callWp fn args p ρ Xc Q0) (hp : pf p G) (ar : AR σ args T' vs) (rel : Rel a ρ (G ++ T') σ H) (f : ∀ s ρ' v H', Q0 s ρ' → Rel a ρ' (G ++ [(v, s)]) σ H' → Q v H') :
    spOf a.K mg fn vs H Q (WE (wX a mg Xc) σ) := by
  have zz : ∀ {ρ'' : REnv} {H' : Hp}, Rel a ρ'' (G ++ (none : Option (V × SV)).toList) σ H' → Rel a ρ'' [] σ H' := fun r => r.less rfl (fun _ _ e => e) fun j x e => by simp at e
  unfold callWp at q
  split at q
  · rename_i ds is ec
    obtain ⟨ap, q⟩ := q
    split at q
    · rename_i hs
      obtain ⟨Fs, si, back⟩ := call_rel (p := p) (ρ' := ρ) ec ap ar rel (.inl ⟨hs, rfl⟩)
      refine ⟨ds, Fs, si, _, _, q, fun r outs v H' q1 lo ex gd => ?_, fun x outs cls d H' q1 lo ex gd er => ?_⟩
      · refine f _ _ v H' q1 ?_
        rw [mkSV_own]
        exact back outs (some (v, ⟨.own, r⟩)) H' lo ex gd fun _ e => by cases e; rfl
      · exact ⟨_, x, zz (back outs none H' lo ex gd fun _ e => by cases e), er, q1⟩
    · obtain ⟨ep, nb, q⟩ := q
      obtain ⟨Fs, si, back⟩ := call_rel (p := p) (ρ' := killB ρ) ec ap ar rel (.inr ⟨hp, ep, nb, rfl⟩)
      refine ⟨ds, Fs, si, _, _, q, fun r outs v H' q1 lo ex gd => ?_, fun x outs cls d H' q1 lo ex gd er => ?_⟩
      · refine f _ _ v H' q1 ?_
        rw [mkSV_own]
        exact back outs (some (v, ⟨.own, r⟩)) H' lo ex gd fun _ e => by cases e; rfl
      · exact ⟨_, x, zz (back outs none H' lo ex gd fun _ e => by cases e), er, q1⟩
  · exact q.elim
theorem tE_call {f : Str} {fn : Fn} {as : Es} {mg : Str → Option Value} (hf : T.find f = some fn) {σ : St} {H : Hp} {Q : VK} (h : tE a T Xc (.call f as) σ H Q) : tAs a T Xc as σ H fun vs H1 => spOf a.K mg fn vs H1 Q (WE (wX a mg Xc) σ) := by
  obtain ⟨p, ρ, G, Q0, hp, rel, q, k⟩ := h
  refine ⟨p, ρ, G, _, hp, rel, q, fun args ρ' T' vs H' q' ar r => ?_⟩
  simp only [hf] at q'
  exact call_sp q' hp ar r k
theorem pe_callW (c : Ctx X a T CS N sc R) (tk : Takes X (wX a X.mg Xc)) {f : Str} {fe e : Expr} {es : List Expr} {as : Es} (hg : chkGl sc f fe = true) (ht : (T.find f).isSome = true) (ha : PA X (e :: es) (tL a T Xc as)) (hp : plainE e = true) (hps : ∀ e ∈ es, plainE e = true) :
    PE X (.Call fe (e :: es) [] pos) (tE a T Xc (.call f as)) := by
  obtain ⟨p0, rfl, hg, ho⟩ := chkGl_inv hg
  obtain ⟨fn, hf⟩ := Option.isSome_iff_exists.mp ht
  obtain ⟨hl, ad, fd, ps, hm, F, hk, hb⟩ := c.tab f fn hf
  refine PE.mono (pe_callS F (c.room.mono hl) (c.gl hg) hm hk hb (fun σ => passAt tk σ) (pa_tAs ha) (okName_of ho).1 (star_plain _ _ hp) (hpl_of _ hps)) fun σ H Q h => ?_
  have := tE_call (mg := X.mg) hf h
  rw [← c.hK] at this
  exact this
theorem pe_callW0 (c : Ctx X a T CS N sc R) (tk : Takes X (wX a X.mg Xc)) {f : Str} {fe : Expr} (hg : chkGl sc f fe = true) (ht : (T.find f).isSome = true) :
    PE X (.Call fe [] [] pos) (tE a T Xc (.call f .nil)) := by
  obtain ⟨p0, rfl, hg, ho⟩ := chkGl_inv hg
  obtain ⟨fn, hf⟩ := Option.isSome_iff_exists.mp ht
  obtain ⟨hl, ad, fd, ps, hm, F, hk, hb⟩ := c.tab f fn hf
  refine ⟨fun pins s σ H Q I h => ?_⟩
  have h2 := tAs_nil (tE_call (mg := X.mg) hf h)
  rw [← c.hK] at h2
  refine wpAny_Call_Name_kw (ld_glob I (c.gl hg) hm ?_ (okName_of ho).1)
  exact PySem.W.callWith_K0 I.kIn hk (run_fnS (us := []) (E := WE (wX a X.mg Xc)) F (c.room.mono hl) hb (passAt tk σ) I .nil h2)
end
end Wm
namespace Wm
open PySem PySem.Spec PyProof.Rows L2

section
variable {K : PySem.W.Frag} {H : Hp}
abbrev Tri := D × V × List Addr
def Tri.ok (K : PySem.W.Frag) (H : Hp) (t : Tri) : Prop := RD K H t.1 t.2.1 t.2.2
def fps (ts : List Tri) : List Addr := (ts.map (·.2.2)).flatten
theorem RDs.tri : ∀ {ds : List D} {vs : List V} {F : List Addr}, RDs K H ds vs F → ∃ ts : List Tri, ds = ts.map (·.1) ∧ vs = ts.map (·.2.1) ∧ F = fps ts ∧ ∀ t ∈ ts, Tri.ok K H t
  | [], _, _, ⟨e1, e2⟩ => ⟨[], rfl, e1, e2, fun _ h => nomatch h⟩
  | d :: ds, _, _, ⟨v, r, F1, F2, e1, h1, h2, e2⟩ => by
    obtain ⟨ts, a1, a2, a3, a4⟩ := RDs.tri h2
    refine ⟨(d, v, F1) :: ts, by rw [a1]; rfl, by rw [e1, a2]; rfl, by rw [e2, a3]; rfl, fun t h => ?_⟩
    rcases List.mem_cons.mp h with rfl | h
    · exact h1
    · exact a4 t h
theorem RDs.ofTri : ∀ (ts : List Tri), (∀ t ∈ ts, Tri.ok K H t) → RDs K H (ts.map (·.1)) (ts.map (·.2.1)) (fps ts)
  | [], _ => ⟨rfl, rfl⟩
  | t :: ts, h => ⟨_, _, _, _, rfl, h t List.mem_cons_self, RDs.ofTri ts fun t' h' => h t' (List.mem_cons_of_mem _ h'), rfl⟩
theorem mem_fps {ts : List Tri} {b : Addr} : b ∈ fps ts ↔ ∃ t ∈ ts, b ∈ t.2.2 := by
  unfold fps
  rw [List.mem_flatten]
  constructor
  · rintro ⟨l, hl, hb⟩
    obtain ⟨t, ht, rfl⟩ := List.mem_map.mp hl
    exact ⟨t, ht, hb⟩
  · rintro ⟨t, ht, hb⟩
    exact ⟨_, List.mem_map.mpr ⟨t, ht, rfl⟩, hb⟩
theorem fps_sub {ts ts' : List Tri} (h : ts'.Sublist ts) : (fps ts').Sublist (fps ts) := by
  induction h with
  | slnil => exact List.Sublist.refl _
  | cons t _ ih => exact List.Sublist.trans ih (List.sublist_append_right _ _)
  | cons_cons t _ ih => exact List.Sublist.append (List.Sublist.refl _) ih
theorem fps_perm {ts ts' : List Tri} (h : ts'.Perm ts) : (fps ts').Perm (fps ts) := List.Perm.flatten (h.map _)
theorem fps_cons {t : Tri} {ts : List Tri} : fps (t :: ts) = t.2.2 ++ fps ts := rfl
end
section
variable {a : Act} {ρ ρ1 : REnv} {G T' : List (V × SV)} {σ : St} {H : Hp}
/-- a list of one's own in a slot -/
theorem Rel.slotL {F : Ky → List Addr} (rel : Rel a ρ G σ H) (g : Good a.K a.H0 a.M H (itm ρ G σ) F) {i : Nat} {ds : List D} (e : ρ[i]? = some (some ⟨.own, .lst ds⟩)) :
    ∃ b ts, σ[i]? = some (some (.ref b)) ∧ itm ρ G σ (.inl i) = some (.ref b, ⟨.own, .lst ds⟩) ∧ H b = some (.lst (ts.map (·.2.1))) ∧ ds = ts.map (·.1) ∧ F (.inl i) = b :: fps ts ∧ (∀ t ∈ ts, Tri.ok a.K H t) ∧ (b :: fps ts).Nodup := by
  obtain ⟨v, ev⟩ := rel.sl i _ e
  have ei := itm_slot (G := G) e ev
  obtain ⟨b, vs, G0, rfl, hb, rd, ef⟩ := g.rep ei
  obtain ⟨ts, a1, a2, a3, a4⟩ := rd.tri
  refine ⟨b, ts, ev, ei, by rw [hb, a2], a1, by rw [ef, a3], a4, ?_⟩
  rw [← a3, ← ef]
  exact g.nd ei rfl
/-- .. is written -/
theorem Rel.writeL {F : Ky → List Addr} (rel : Rel a ρ G σ H) (g : Good a.K a.H0 a.M H (itm ρ G σ) F) {F0 : List Addr} (pm : ∀ b ∈ F0, a.H0 b = none ∨ a.M b) (pd : ∀ k x, itm ρ G σ k = some x → x.2.m ≠ .brw → ∀ b ∈ F0, b ∉ F k)
    {i : Nat} {b : Addr} {d d' : D} {o : HO} {G' : List Addr} (ei : itm ρ G σ (.inl i) = some (.ref b, ⟨.own, d⟩)) (ht : topOf (.ref b, ⟨.own, d⟩) = some b) (r : RD a.K (upd H b o) d' (.ref b) (b :: G')) (nd : (b :: G').Nodup) (hf : ∀ c ∈ G', c ∈ F (.inl i) ∨ c ∈ F0) :
    Rel a (ρ.set i (some ⟨.own, d'⟩)) G σ (upd H b o) ∧ Good a.K a.H0 a.M (upd H b o) (itm (ρ.set i (some ⟨.own, d'⟩)) G σ) (putF F (.inl i) (b :: G')) := by
  obtain ⟨e1, e2⟩ := itm_slot_inv ei
  have hi : i < ρ.length := (List.getElem?_eq_some_iff.mp e1).1
  obtain ⟨Gb, eb⟩ := top_mem (x := (.ref b, ⟨.own, d⟩)) ht (g.rep ei)
  have bm : b ∈ F (.inl i) := by rw [eb]; exact List.mem_cons_self
  have gw := g.write pm pd ei ht r nd (fun c hc => by
    rcases List.mem_cons.mp hc with rfl | hc
    · exact .inl bm
    · exact hf c hc) ⟨G', rfl⟩
  have gw' : Good a.K a.H0 a.M (upd H b o) (itm (ρ.set i (some ⟨.own, d'⟩)) G σ) (putF F (.inl i) (b :: G')) := by
    rw [itm_upd hi e2]
    exact gw
  refine ⟨⟨by rw [List.length_set]; exact rel.len, fun j s ej => ?_, rel.pr, fun c u ec mc => ?_, _, gw'⟩, gw'⟩
  · by_cases h : j = i
    · subst h; exact ⟨_, e2⟩
    · rw [List.getElem?_set_ne (Ne.symm h)] at ej
      exact rel.sl j s ej
  · have hcb : c ≠ b := fun h => by
      subst h
      rcases g.mine ei rfl c bm with z | z
      · rw [z] at ec; cases ec
      · exact mc z
    rw [upd_ne hcb]
    exact rel.ext c u ec mc
/-- where an operand's value is -/
def At (σ : St) (T' : List (V × SV)) (u : V) : Arg → Prop
  | .late j => σ[j]? = some (some u)
  | .tmp m d => (u, (⟨m, d⟩ : SV)) ∈ T'
theorem AR.at_ : ∀ {args : List Arg} {T' : List (V × SV)} {vs : List V}, AR σ args T' vs → Paired (fun x u => At σ T' u x) args vs
  | _, _, _, .nil => .nil
  | _, _, _, .late h h2 => .cons h (Paired.mapP h2.at_ fun _ _ q => q)
  | _, _, _, .tmp h2 => .cons List.mem_cons_self (Paired.mapP h2.at_ fun x u q => by
    cases x with
    | late j => exact q
    | tmp m d => exact List.mem_cons_of_mem _ q)
theorem At.rep {arg : Arg} {u : V} {o : Op} (rel : Rel a ρ (G ++ T') σ H) (h : At σ T' u arg) (e : rd ρ arg = some o) : ∃ F, RD a.K H o.d u F := by
  obtain ⟨F, g⟩ := rel.good
  cases arg with
  | late j =>
    simp only [rd] at e
    split at e
    · rename_i s es
      cases e
      exact ⟨_, g.rep (itm_slot (G := G ++ T') es h)⟩
    · cases e
  | tmp m d =>
    cases e
    obtain ⟨n, hn⟩ := List.mem_iff_getElem?.mp h
    exact ⟨_, g.rep (k := .inr (G.length + n)) (s := ⟨m, d⟩) (by
      show (G ++ T')[G.length + n]? = _
      rw [List.getElem?_append_right (by omega), Nat.add_sub_cancel_left]
      exact hn)⟩
/-- a thing goes into a list -/
theorem putIn_ok {arg : Arg} {u : V} {d : D} (h : putIn ρ arg = some (d, ρ1)) (rel : Rel a ρ (G ++ T') σ H) (ha : At σ T' u arg) :
    Rel a ρ1 G σ H ∧ ∃ F F0, Good a.K a.H0 a.M H (itm ρ1 G σ) F ∧ RD a.K H d u F0 ∧ F0.Nodup ∧ (∀ b ∈ F0, a.H0 b = none ∨ a.M b) ∧ ∀ k x, itm ρ1 G σ k = some x → x.2.m ≠ .brw → ∀ b ∈ F0, b ∉ F k := by
  obtain ⟨F, g⟩ := rel.good
  have sub : ∀ k x, itm ρ G σ k = some x → itm ρ (G ++ T') σ k = some x := fun k x e => by
    cases k with
    | inl j => exact e
    | inr j =>
      have e : G[j]? = some x := e
      show (G ++ T')[j]? = some x
      rw [List.getElem?_append_left (List.getElem?_eq_some_iff.mp e).1]
      exact e
  cases arg with
  | late j =>
    have ha : σ[j]? = some (some u) := ha
    simp only [putIn] at h
    split at h
    · rename_i m x es
      cases h
      exact ⟨rel.pre, F, [], g.sub sub, ⟨(g.rep (itm_slot (G := G ++ T') es ha)).1, rfl⟩, List.nodup_nil, (fun _ h => nomatch h), fun _ _ _ _ _ h => nomatch h⟩
    · rename_i d' nw es
      cases h
      have ei := itm_slot (G := G ++ T') es ha
      have hj : j < ρ.length := (List.getElem?_eq_some_iff.mp es).1
      have g1 : Good a.K a.H0 a.M H (itm (ρ.set j (some ⟨.brw, d⟩)) G σ) F := by
        have inv : ∀ {k x}, itm (ρ.set j (some ⟨.brw, d⟩)) G σ k = some x → (k = .inl j ∧ x = (u, ⟨.brw, d⟩)) ∨ (k ≠ .inl j ∧ itm ρ (G ++ T') σ k = some x) := fun {k x} e => by
          rw [itm_upd hj ha] at e
          by_cases hk : k = .inl j
          · subst hk; rw [put_same] at e; cases e; exact .inl ⟨rfl, rfl⟩
          · rw [put_ne hk] at e; exact .inr ⟨hk, sub k x e⟩
        refine ⟨fun {k v s} e => ?_, fun {k v s} e m => ?_, fun {k v s} e m => ?_, fun {k k' x x'} n e e' m m' b hb => ?_, fun {k k' x x' b} n e e' m m' hb => ?_⟩
        · rcases inv e with ⟨rfl, ex⟩ | ⟨_, e⟩
          · cases ex; exact (g.rep (s := ⟨.own, d⟩) ei : RD a.K H d u _)
          · exact g.rep e
        · rcases inv e with ⟨rfl, ex⟩ | ⟨_, e⟩
          · cases ex; cases m
          · exact g.nd e m
        · rcases inv e with ⟨rfl, ex⟩ | ⟨_, e⟩
          · cases ex; cases m
          · exact g.mine e m
        · rcases inv e with ⟨rfl, ex⟩ | ⟨_, e⟩
          · rw [ex] at m; cases m
          · rcases inv e' with ⟨rfl, ex⟩ | ⟨_, e'⟩
            · rw [ex] at m'; exact (m' rfl).elim
            · exact g.dis n e e' m m' b hb
        · rcases inv e with ⟨rfl, ex⟩ | ⟨nk, e⟩
          · rw [ex] at m; cases m
          · rcases inv e' with ⟨rfl, ex⟩ | ⟨_, e'⟩
            · exact g.dis nk e ei m (by intro z; cases z) b (edge_sub (g.rep (s := x.2) e) hb)
            · exact g.top n e e' m m' hb
      refine ⟨⟨by rw [List.length_set]; exact rel.len, fun i s e => ?_, rel.pr, rel.ext, F, g1⟩, F, F (.inl j), g1, g.rep ei, g.nd ei rfl, g.mine ei rfl, fun k x e m b hb => ?_⟩
      · by_cases hi : i = j
        · subst hi; exact ⟨u, ha⟩
        · rw [List.getElem?_set_ne (Ne.symm hi)] at e; exact rel.sl i s e
      · rw [itm_upd hj ha] at e
        by_cases hk : k = .inl j
        · subst hk; rw [put_same] at e; cases e; exact (m rfl).elim
        · rw [put_ne hk] at e
          exact g.dis (Ne.symm hk) ei (sub k x e) rfl m b hb
    · cases h
  | tmp m d' =>
    obtain ⟨n, hn⟩ := List.mem_iff_getElem?.mp ha
    have ei : itm ρ (G ++ T') σ (.inr (G.length + n)) = some (u, ⟨m, d'⟩) := by
      show (G ++ T')[G.length + n]? = _
      rw [List.getElem?_append_right (by omega), Nat.add_sub_cancel_left]
      exact hn
    have key : ∀ {k x}, itm ρ G σ k = some x → k ≠ .inr (G.length + n) := fun {k x} e hk => by
      subst hk
      have e : G[G.length + n]? = some x := e
      rw [List.getElem?_eq_none (by omega)] at e; cases e
    cases d' with
    | w x =>
      cases h
      exact ⟨rel.pre, F, [], g.sub sub, ⟨(g.rep ei).1, rfl⟩, List.nodup_nil, (fun _ h => nomatch h), fun _ _ _ _ _ h => nomatch h⟩
    | _ =>
      cases m with
      | own =>
        cases h
        exact ⟨rel.pre, F, _, g.sub sub, g.rep ei, g.nd ei rfl, g.mine ei rfl, fun k x e m b hb => g.dis (Ne.symm (key e)) ei (sub k x e) rfl m b hb⟩
      | _ => cases h
end
end Wm
namespace Wm
open PySem PySem.Spec PyProof.Rows L2

theorem map_erase {α β : Type} (f : α → β) : ∀ (l : List α) (n : Nat), (l.eraseIdx n).map f = (l.map f).eraseIdx n
  | [], _ => rfl
  | _ :: _, 0 => rfl
  | x :: l, n + 1 => by show f x :: (l.eraseIdx n).map f = f x :: (l.map f).eraseIdx n; rw [map_erase f l n]
def rInsert : V → List V → Hp → VK → Prop := fun x vs H Q => ∃ (l : Addr) (xs : List V) (i : Int) (y : V), x = .ref l ∧ vs = [.int i, y] ∧ H l = some (.lst xs) ∧ xs.length < sizeLine ∧ 0 ≤ i ∧ i < 2 ^ 63 ∧
    Q .non (upd H l (.lst (xs.take i.toNat ++ [y] ++ xs.drop i.toNat)))
def mR : Mth → V → List V → Hp → VK → Prop
  | .append => rAppend
  | .extend => rExtend
  | .insert => rInsert
  | .pop0 => rPop
  | .pop1 => rPopAt
  | .reverse => rReverse
  | .clear => rClear
section
variable {a : Act} {ρ ρ1 : REnv} {G T' : List (V × SV)} {σ : St} {H : Hp}
theorem updRD {K : PySem.W.Frag} {H : Hp} {b : Addr} {o o' : HO} (hb : H b = some o) (mu : Mut (some o)) {ts : List Tri} (h : ∀ t ∈ ts, Tri.ok K H t) (nb : b ∉ fps ts) : RDs K (upd H b o') (ts.map (·.1)) (ts.map (·.2.1)) (fps ts) := by
  refine (RDs.ofTri ts h).stab (Stab.mut (by rw [hb]; exact mu)) fun c hc => upd_ne fun e => nb (e ▸ hc)
/-- the list in a slot is written: its new items are old ones, and what went in -/
theorem Rel.newL {F : Ky → List Addr} (rel : Rel a ρ G σ H) (g : Good a.K a.H0 a.M H (itm ρ G σ) F) {F0 : List Addr} (pm : ∀ b ∈ F0, a.H0 b = none ∨ a.M b) (pd : ∀ k x, itm ρ G σ k = some x → x.2.m ≠ .brw → ∀ b ∈ F0, b ∉ F k)
    {i : Nat} {b : Addr} {ds : List D} {ts ts' : List Tri} (ei : itm ρ G σ (.inl i) = some (.ref b, ⟨.own, .lst ds⟩)) (hb : H b = some (.lst (ts.map (·.2.1)))) (ef : F (.inl i) = b :: fps ts)
    (ok : ∀ t ∈ ts', Tri.ok a.K H t) (nd : (fps ts').Nodup) (hf : ∀ c ∈ fps ts', c ∈ fps ts ∨ c ∈ F0) :
    Rel a (ρ.set i (some ⟨.own, .lst (ts'.map (·.1))⟩)) G σ (upd H b (.lst (ts'.map (·.2.1)))) ∧ Good a.K a.H0 a.M (upd H b (.lst (ts'.map (·.2.1)))) (itm (ρ.set i (some ⟨.own, .lst (ts'.map (·.1))⟩)) G σ) (putF F (.inl i) (b :: fps ts')) := by
  have n0 : (F (.inl i)).Nodup := g.nd ei rfl
  rw [ef] at n0
  have nb : b ∉ fps ts' := fun h => by
    rcases hf b h with h | h
    · exact (List.nodup_cons.mp n0).1 h
    · exact pd _ _ ei (by intro z; cases z) b h (by rw [ef]; exact List.mem_cons_self)
  refine rel.writeL g pm pd ei rfl ⟨b, _, fps ts', rfl, upd_same, updRD hb trivial ok nb, rfl⟩ (List.nodup_cons.mpr ⟨nb, nd⟩) fun c hc => ?_
  rcases hf c hc with h | h
  · rw [ef]; exact .inl (List.mem_cons_of_mem _ h)
  · exact .inr h
/-- .. and a part that went out is held behind -/
theorem Rel.outL {F : Ky → List Addr} (rel : Rel a ρ G σ H) (g : Good a.K a.H0 a.M H (itm ρ G σ) F)
    {i : Nat} {b : Addr} {ds : List D} {ts ts' : List Tri} {t : Tri} (ei : itm ρ G σ (.inl i) = some (.ref b, ⟨.own, .lst ds⟩)) (hb : H b = some (.lst (ts.map (·.2.1)))) (ef : F (.inl i) = b :: fps ts)
    (all : ∀ t ∈ ts, Tri.ok a.K H t) (sub : ts'.Sublist ts) (ht : t ∈ ts) :
    Rel a (ρ.set i (some ⟨.own, .lst (ts'.map (·.1))⟩)) (G ++ [(t.2.1, mkSV .brw t.1)]) σ (upd H b (.lst (ts'.map (·.2.1)))) := by
  have n0 : (F (.inl i)).Nodup := g.nd ei rfl
  rw [ef] at n0
  have sf := fps_sub sub
  obtain ⟨r1, g1⟩ := rel.newL (F0 := []) g (fun _ h => nomatch h) (fun _ _ _ _ _ h => nomatch h) ei hb ef (fun t h => all t (sub.subset h)) (List.Nodup.sublist sf (List.nodup_cons.mp n0).2) fun c hc => .inl (sf.subset hc)
  have tf : ∀ c ∈ t.2.2, c ∈ fps ts := fun c hc => mem_fps.mpr ⟨t, ht, hc⟩
  have nbt : b ∉ t.2.2 := fun h => (List.nodup_cons.mp n0).1 (tf b h)
  have rt : RD a.K (upd H b (.lst (ts'.map (·.2.1)))) t.1 t.2.1 t.2.2 := RD.stab (Stab.mut (by rw [hb]; trivial)) (all t ht) fun c hc => upd_ne fun e => nbt (e ▸ hc)
  have main : Rel a (ρ.set i (some ⟨.own, .lst (ts'.map (·.1))⟩)) (G ++ [(t.2.1, ⟨.brw, t.1⟩)]) σ (upd H b (.lst (ts'.map (·.2.1)))) := by
    refine r1.push r1.ext (g1.add (s := ⟨.brw, t.1⟩) rt (fun e => nomatch e) (fun e => nomatch e) (fun e => nomatch e) (fun _ e => (e rfl).elim) (fun e => nomatch e) fun _ k x c nk ek mk hc => ?_)
    obtain ⟨e1, e2⟩ := itm_slot_inv ei
    rw [itm_upd (List.getElem?_eq_some_iff.mp e1).1 e2] at ek
    by_cases hk : k = .inl i
    · subst hk
      rw [put_same] at ek
      cases ek
      have hc' := edge_inl hc
      cases hc'
      exact nbt
    · rw [put_ne hk] at ek
      rw [putF_ne hk] at hc
      have h1 := g.dis hk ek ei mk (by intro z; cases z) c (edge_sub (g.rep (s := x.2) ek) hc)
      rw [ef] at h1
      exact fun h => h1 (List.mem_cons_of_mem _ (tf c h))
  cases hd : t.1 with
  | w x =>
    rw [hd] at main
    obtain ⟨_, q⟩ := main.tmpRep
    exact main.pre.pushW q.1
  | _ => rw [hd] at main; exact main
/-- a thing goes in, at some place -/
theorem Rel.inL {arg : Arg} {u : V} {d : D} (h : putIn ρ arg = some (d, ρ1)) (rel : Rel a ρ (G ++ T') σ H) (ha : At σ T' u arg) {i : Nat} {ds : List D} (es : ρ1[i]? = some (some ⟨.own, .lst ds⟩)) :
    ∃ (b : Addr) (ts : List Tri) (t0 : Tri), σ[i]? = some (some (.ref b)) ∧ H b = some (.lst (ts.map (·.2.1))) ∧ ds = ts.map (·.1) ∧ t0.1 = d ∧ t0.2.1 = u ∧ Tri.ok a.K H t0 ∧
      ∀ ts' ts'' : List Tri, ts''.Sublist ts → ts'.Perm (t0 :: ts'') → Rel a (ρ1.set i (some ⟨.own, .lst (ts'.map (·.1))⟩)) G σ (upd H b (.lst (ts'.map (·.2.1)))) := by
  obtain ⟨r1, F, F0, g, rd, nd, mi, di⟩ := putIn_ok h rel ha
  obtain ⟨b, ts, ev, ei, hb, ed, ef, ok, n0⟩ := r1.slotL g es
  refine ⟨b, ts, (d, u, F0), ev, hb, ed, rfl, rfl, rd, fun ts' ts'' sb pm => ?_⟩
  have sf := fps_sub sb
  have pf := fps_perm pm
  have dj : ∀ c ∈ F0, c ∉ fps ts'' := fun c hc hc' => di _ _ ei (by intro z; cases z) c hc (by rw [ef]; exact List.mem_cons_of_mem _ (sf.subset hc'))
  refine (r1.newL g mi di ei hb ef (fun t ht => ?_) ?_ fun c hc => ?_).1
  · rcases List.mem_cons.mp (pm.mem_iff.mp ht) with rfl | ht
    · exact rd
    · exact ok t (sb.subset ht)
  · refine pf.nodup_iff.mpr ?_
    rw [fps_cons]
    exact List.nodup_append.mpr ⟨nd, List.Nodup.sublist sf (List.nodup_cons.mp n0).2, fun c hc c' hc' e => dj c hc (e ▸ hc')⟩
  · have := pf.mem_iff.mp hc
    rw [fps_cons] at this
    rcases List.mem_append.mp this with h | h
    · exact .inr h
    · exact .inl (sf.subset h)
theorem mth_sp {m : Mth} {i : Nat} {args : List Arg} {vs : List V} {p : Bool} {Q0 : SV → REnv → Prop} {Q : VK} {v : V} (q : mthWp m i args p ρ Q0) (hp : pf p G) (ar : AR σ args T' vs) (rel : Rel a ρ (G ++ T') σ H) (hv : σ[i]? = some (some v)) (f : ∀ s ρ' v H', Q0 s ρ' → Rel a ρ' (G ++ [(v, s)]) σ H' → Q v H') : mR m v vs H Q := by
  have at_ := ar.at_
  cases m with
  | append =>
    simp only [mthWp] at q
    split at q
    · rename_i x
      split at q
      · rename_i d ρ1 e
        split at q
        · rename_i ds es
          obtain ⟨hl, q⟩ := q
          obtain ⟨u, rfl, hu⟩ := paired1 at_
          obtain ⟨b, ts, t0, ev, hb, ed, e1, e2, ok, k⟩ := Rel.inL e rel hu es
          rw [hv] at ev
          cases ev
          subst ed
          refine ⟨b, _, u, rfl, rfl, hb, by simpa using hl, ?_⟩
          have r2 := k (ts ++ [t0]) ts (List.Sublist.refl _) (by simpa using List.perm_append_comm (l₁ := ts) (l₂ := [t0]))
          rw [List.map_append, List.map_append, List.map_singleton, List.map_singleton, e1, e2] at r2
          exact f _ _ _ _ q (r2.pushW rfl)
        · exact q.elim
      · exact q.elim
    · exact q.elim
  | insert =>
    simp only [mthWp] at q
    split at q
    · rename_i kx x
      split at q
      · rename_i s' m' kk d ρ1 ek e
        split at q
        · rename_i ds es
          obtain ⟨hl, h0, h1, q⟩ := q
          obtain ⟨uk, u, rfl, huk, hu⟩ := paired2 at_
          obtain ⟨b, ts, t0, ev, hb, ed, e1, e2, ok, k⟩ := Rel.inL e rel hu es
          obtain ⟨_, rk, _⟩ := huk.rep rel ek
          have rk : uk = .int kk := rk
          subst rk
          rw [hv] at ev
          cases ev
          subst ed
          refine ⟨b, _, kk, u, rfl, rfl, hb, by simpa using hl, h0, h1, ?_⟩
          have r2 := k (ts.take kk.toNat ++ t0 :: ts.drop kk.toNat) ts (List.Sublist.refl _) (by
            have := List.perm_middle (a := t0) (l₁ := ts.take kk.toNat) (l₂ := ts.drop kk.toNat)
            rwa [List.take_append_drop] at this)
          rw [List.map_append, List.map_append, List.map_cons, List.map_cons, e1, e2, List.map_take, List.map_drop, List.map_take, List.map_drop] at r2
          rw [List.append_assoc]
          exact f _ _ _ _ q (r2.pushW rfl)
        · exact q.elim
      · exact q.elim
    · exact q.elim
  | extend =>
    simp only [mthWp] at q
    split at q
    · rename_i es'
      split at q
      · rename_i ds es
        obtain ⟨hl, q⟩ := q
        obtain ⟨u, rfl, hu⟩ := paired1 at_
        obtain ⟨n, hn⟩ := List.mem_iff_getElem?.mp hu
        obtain ⟨F, g⟩ := rel.good
        have ei2 : itm ρ (G ++ T') σ (.inr (G.length + n)) = some (u, ⟨.own, .lst es'⟩) := by
          show (G ++ T')[G.length + n]? = _
          rw [List.getElem?_append_right (by omega), Nat.add_sub_cancel_left]
          exact hn
        obtain ⟨b2, vs2, G2, rfl, hb2, rd2, ef2⟩ := g.rep ei2
        obtain ⟨us, a1, a2, a3, a4⟩ := rd2.tri
        have sub : ∀ k x, itm ρ G σ k = some x → itm ρ (G ++ T') σ k = some x ∧ k ≠ .inr (G.length + n) := fun k x e => by
          cases k with
          | inl j => exact ⟨e, by simp⟩
          | inr j =>
            have e : G[j]? = some x := e
            have hj := (List.getElem?_eq_some_iff.mp e).1
            refine ⟨?_, fun z => by cases z; omega⟩
            show (G ++ T')[j]? = some x
            rw [List.getElem?_append_left hj]
            exact e
        have g1 := g.sub fun k x e => (sub k x e).1
        obtain ⟨b, ts, ev, ei, hb, ed, ef, ok, n0⟩ := rel.pre.slotL g1 es
        have n2 := g.nd ei2 rfl
        rw [ef2] at n2
        have fin : ∀ c ∈ fps us, c ∈ F (.inr (G.length + n)) := fun c hc => by rw [ef2, a3]; exact List.mem_cons_of_mem _ hc
        have di : ∀ k x, itm ρ G σ k = some x → x.2.m ≠ .brw → ∀ c ∈ fps us, c ∉ F k := fun k x e m c hc => g.dis (Ne.symm (sub k x e).2) ei2 (sub k x e).1 rfl m c (fin c hc)
        have fa : fps (ts ++ us) = fps ts ++ fps us := by unfold fps; simp
        obtain ⟨r2, _⟩ := rel.pre.newL (F0 := fps us) (ts' := ts ++ us) g1 (fun c hc => g.mine ei2 rfl c (fin c hc)) di ei hb ef (fun t ht => by
          rcases List.mem_append.mp ht with h | h
          · exact ok t h
          · exact a4 t h) (by
          rw [fa]
          refine List.nodup_append.mpr ⟨(List.nodup_cons.mp n0).2, by rw [← a3]; exact (List.nodup_cons.mp n2).2, fun c hc c' hc' e => ?_⟩
          subst e
          exact di _ _ ei (by intro z; cases z) c hc' (by rw [ef]; exact List.mem_cons_of_mem _ hc)) fun c hc => by
          rw [fa] at hc
          exact List.mem_append.mp hc
        rw [hv] at ev
        cases ev
        subst ed a1 a2
        refine ⟨b, b2, _, _, rfl, rfl, hb, hb2, by simpa using hl, ?_⟩
        rw [List.map_append, List.map_append] at r2
        exact f _ _ _ _ q (r2.pushW rfl)
      · exact q.elim
    · exact q.elim
  | pop0 =>
    simp only [mthWp] at q
    split at q
    · rename_i ds es
      split at q
      · rename_i d el
        cases ar
        obtain ⟨F, g⟩ := rel.pre.good
        obtain ⟨b, ts, ev, ei, hb, ed, ef, ok, n0⟩ := rel.pre.slotL g es
        rw [hv] at ev
        cases ev
        subst ed
        rw [List.getLast?_map] at el
        obtain ⟨t, et, rfl⟩ := Option.map_eq_some_iff.mp el
        have r2 := rel.pre.outL (t := t) (ts' := ts.dropLast) g ei hb ef ok (List.dropLast_sublist ts) (List.mem_of_getLast? et)
        rw [List.map_dropLast, List.map_dropLast] at r2
        refine ⟨b, _, t.2.1, rfl, rfl, hb, ?_, f _ _ _ _ q r2⟩
        rw [← List.getLast?_eq_getElem?, List.getLast?_map, et]
        rfl
      · exact q.elim
    · exact q.elim
  | pop1 =>
    simp only [mthWp] at q
    split at q
    · rename_i s' m' kk ds ea es
      obtain ⟨h0, h1, q⟩ := q
      split at q
      · rename_i j ej
        split at q
        · rename_i d el
          obtain ⟨u, rfl, hu⟩ := paired1 (ar.ops (G0 := G) (n := 0) rel ea rfl (Nat.zero_le _))
          obtain ⟨_, rk, _⟩ := hu.rd rel
          have rk : u = .int kk := rk
          subst rk
          obtain ⟨F, g⟩ := rel.pre.good
          obtain ⟨b, ts, ev, ei, hb, ed, ef, ok, n0⟩ := rel.pre.slotL g es
          rw [hv] at ev
          cases ev
          subst ed
          rw [List.getElem?_map] at el
          obtain ⟨t, et, rfl⟩ := Option.map_eq_some_iff.mp el
          have r2 := rel.pre.outL (t := t) (ts' := ts.eraseIdx j) g ei hb ef ok (List.eraseIdx_sublist ts j) (List.mem_of_getElem? et)
          rw [← map_erase] at q
          have h3 := (ixN_seq ej).1
          rw [List.length_map] at h3
          refine ⟨b, _, kk, j, t.2.1, rfl, rfl, hb, h0, h1, by rw [List.length_map]; exact h3, by rw [List.getElem?_map, et]; rfl, ?_⟩
          rw [← map_erase]
          exact f _ _ _ _ q r2
        · exact q.elim
      · exact q.elim
    · exact q.elim
  | reverse =>
    simp only [mthWp] at q
    split at q
    · rename_i ds es
      cases ar
      obtain ⟨F, g⟩ := rel.pre.good
      obtain ⟨b, ts, ev, ei, hb, ed, ef, ok, n0⟩ := rel.pre.slotL g es
      rw [hv] at ev
      cases ev
      subst ed
      have pf := fps_perm (List.reverse_perm ts)
      obtain ⟨r2, _⟩ := rel.pre.newL (F0 := []) (ts' := ts.reverse) g (fun _ h => nomatch h) (fun _ _ _ _ _ h => nomatch h) ei hb ef (fun t ht => ok t (List.mem_reverse.mp ht)) (pf.nodup_iff.mpr (List.nodup_cons.mp n0).2) fun c hc => .inl (pf.mem_iff.mp hc)
      rw [List.map_reverse, List.map_reverse] at r2
      exact ⟨b, _, rfl, rfl, hb, f _ _ _ _ q (r2.pushW rfl)⟩
    · exact q.elim
  | clear =>
    simp only [mthWp] at q
    split at q
    · rename_i ds es
      cases ar
      obtain ⟨F, g⟩ := rel.pre.good
      obtain ⟨b, ts, ev, ei, hb, ed, ef, ok, n0⟩ := rel.pre.slotL g es
      rw [hv] at ev
      cases ev
      subst ed
      obtain ⟨r2, _⟩ := rel.pre.newL (F0 := []) (ts' := []) g (fun _ h => nomatch h) (fun _ _ _ _ _ h => nomatch h) ei hb ef (fun t ht => nomatch ht) List.nodup_nil fun c hc => nomatch hc
      exact ⟨b, _, rfl, rfl, hb, f _ _ _ _ q (r2.pushW rfl)⟩
    · exact q.elim
end
section
variable {X : Cx} {a : Act} {T : Tab} {CS : CkT} {N : List Str} {sc : Scope} {R : Nat} {Xc : Ex → REnv → Prop}
theorem ownL_inv {ρ : REnv} {i : Nat} (h : ownL ρ i = true) : ∃ ds, ρ[i]? = some (some ⟨.own, .lst ds⟩) := by
  unfold ownL at h
  split at h
  · rename_i ds e; exact ⟨ds, e⟩
  · cases h
theorem tE_mth {m : Mth} {i : Nat} {as : Es} {σ : St} {H : Hp} {Q : VK} (h : tE a T Xc (.mth m i as) σ H Q) : tVar i σ H fun x H1 => tyV a.K "list" x H1 ∧ tL a T Xc as σ H1 fun vs H2 => mR m x vs H2 Q := by
  obtain ⟨p, ρ, G, Q0, hp, rel, q, f⟩ := h
  obtain ⟨ol, q⟩ := q
  obtain ⟨ds, es⟩ := ownL_inv ol
  obtain ⟨F, g⟩ := rel.good
  obtain ⟨b, ts, ev, ei, hb, _⟩ := rel.slotL g es
  exact ⟨.ref b, ev, .inl ⟨rfl, _, .inl (.inl hb)⟩, tL_of ⟨p, ρ, G, _, hp, rel, q, fun args ρ' T' vs H' q' ar r => mth_sp q' hp ar r ev f⟩⟩
theorem pos_bmp (env : Env) (cpos : Pos) {es : List Expr} (h : ∀ e ∈ es, plainE e = true) (hl : es.length < 30) : ((backTo cpos (starEach es env)).all (fun x => !x.1) && (backToKw cpos (keywordEach [] env)).all (fun x => x.1.isSome) && decide (es.length + ([] : List Keyword).length + (if ([] : List Keyword).isEmpty then 0 else 1) < 30)) = true := by
  have h1 : (backTo cpos (starEach es env)).all (fun x => !x.1) = true := by
    have := hpl_of (pos := cpos) env h
    rw [List.all_eq_true]
    intro x hx
    rw [List.any_eq_false] at this
    simpa using this x hx
  rw [h1]
  show (true && true && _) = true
  simpa using hl
theorem pe_mthW (c : Ctx X a T CS N sc R) {m : Mth} {i : Nat} {o : Expr} {es : List Expr} {as : Es} {apos cpos : Pos} (ho : chkVar N sc i o = true) (ha : PA X es (tL a T Xc as)) (hps : ∀ e ∈ es, plainE e = true) (hl : es.length < 30) (hline : linesEq apos cpos = true) (hn : es = [] → as = .nil) (he : es.isEmpty = noArgs m) :
    PE X (.Call (.Attribute o (mthName m) apos) es [] cpos) (tE a T Xc (.mth m i as)) := by
  have pv := c.peVar ho
  have hbase : ∀ n, attributeBase o n X.env (eval o X.env) = eval o X.env := by
    unfold chkVar at ho
    split at ho
    · rename_i x ex
      obtain ⟨p, rfl⟩ := vName_inv ex
      intro n
      rfl
    · cases ho
  have hK := c.hK
  cases es with
  | nil =>
    cases hn rfl
    have go : ∀ {id : String}, MtR X id (mR m) → Slot "list" (mthName m) id → typeOf (.builtin id) = pure (.type "method_descriptor") → PE X (.Call (.Attribute o (mthName m) apos) [] [] cpos) (tE a T Xc (.mth m i .nil)) := fun hm hs hy =>
      PE.mono (pe_bm0 PySem.F.plainAttrs_list hs hy hm pv (hbase _) hline) fun σ H Q h => by
        have := tE_mth h
        rw [← hK] at this
        exact this
    cases m <;> first
      | exact (Bool.false_ne_true he.symm).elim
      | exact go mt_pop PySem.F.slot_list_pop PySem.F.type_list_pop
      | exact go mt_reverse PySem.F.slot_list_reverse PySem.F.type_list_reverse
      | exact go mt_clear PySem.F.slot_list_clear PySem.F.type_list_clear
  | cons e es =>
    have go : ∀ {id : String}, MtR X id (mR m) → Slot "list" (mthName m) id → typeOf (.builtin id) = pure (.type "method_descriptor") → PE X (.Call (.Attribute o (mthName m) apos) (e :: es) [] cpos) (tE a T Xc (.mth m i as)) := fun hm hs hy =>
      PE.mono (pe_bm PySem.F.plainAttrs_list hs hy hm pv ha (hbase _) (pos_bmp _ _ hps hl) hline (star_plain _ _ (hps e List.mem_cons_self)) (hpl_of _ fun e' h' => hps e' (List.mem_cons_of_mem _ h'))) fun σ H Q h => by
        have := tE_mth h
        rw [← hK] at this
        exact this
    cases m <;> first
      | exact (Bool.false_ne_true he).elim
      | exact go mt_append PySem.F.slot_list_append PySem.F.type_list_append
      | exact go mt_extend PySem.F.slot_list_extend PySem.F.type_list_extend
      | exact go mt_insert PySem.F.slot_list_insert PySem.F.type_list_insert
      | exact go mt_popAt PySem.F.slot_list_pop PySem.F.type_list_pop
end
end Wm
namespace Wm
open PySem PySem.Spec PyProof.Rows L2

section
variable {K : PySem.W.Frag} {H0 H : Hp} {M : Addr → Prop} {it it' : Itm} {F : Ky → List Addr}
def kmap (f : Nat → Nat) : Ky → Ky
  | .inl i => .inl i
  | .inr j => .inr (f j)
/-- the temps under other numbers -/
theorem Good.rekey (g : Good K H0 M H it F) (f : Nat → Nat) (inj : ∀ i j, f i = f j → i = j) (hl : ∀ i x, it' (.inl i) = some x → it (.inl i) = some x) (hr : ∀ j x, it' (.inr j) = some x → it (.inr (f j)) = some x) :
    Good K H0 M H it' (fun k => F (kmap f k)) := by
  have hm : ∀ k x, it' k = some x → it (kmap f k) = some x := fun k x e => by
    cases k with
    | inl i => exact hl i x e
    | inr j => exact hr j x e
  have hj : ∀ k k', k ≠ k' → kmap f k ≠ kmap f k' := fun k k' n e => by
    cases k <;> cases k' <;> first
      | (cases e; exact n rfl)
      | (injection e with e; exact n (by rw [inj _ _ e]))
      | cases e
  have he : ∀ k x L, edge k x L = edge (kmap f k) x L := fun k x L => by cases k <;> rfl
  refine ⟨fun {k v s} e => g.rep (hm _ _ e), fun {k v s} e o => g.nd (hm _ _ e) o, fun {k v s} e o => g.mine (hm _ _ e) o, fun {k k' x x'} n e e' o o' => g.dis (hj _ _ n) (hm _ _ e) (hm _ _ e') o o', fun {k k' x x' b} n e e' o o' h => ?_⟩
  rw [he] at h
  exact g.top (hj _ _ n) (hm _ _ e) (hm _ _ e') o o' h
end
section
variable {a : Act} {ρ ρ' : REnv} {G T' : List (V × SV)} {σ : St} {H : Hp} {v : V} {s : SV}
/-- the temps in another order -/
theorem Rel.rekey {G' : List (V × SV)} (r : Rel a ρ G σ H) (f : Nat → Nat) (inj : ∀ i j, f i = f j → i = j) (h : ∀ j x, G'[j]? = some x → G[f j]? = some x) : Rel a ρ G' σ H := by
  obtain ⟨F, g⟩ := r.good
  exact ⟨r.len, r.sl, r.pr, r.ext, _, g.rekey f inj (fun _ _ e => e) h⟩
def swapAt (n m : Nat) (j : Nat) : Nat := if j < n then j else if j < n + m then j + 1 else if j = n + m then n else j
theorem swapAt_inj (n m : Nat) : ∀ i j, swapAt n m i = swapAt n m j → i = j := fun i j h => by
  have c : ∀ j, (j < n ∧ swapAt n m j = j) ∨ (n ≤ j ∧ j < n + m ∧ swapAt n m j = j + 1) ∨ (j = n + m ∧ swapAt n m j = n) ∨ (n + m < j ∧ swapAt n m j = j) := fun j => by
    unfold swapAt
    by_cases h1 : j < n
    · exact .inl ⟨h1, if_pos h1⟩
    · rw [if_neg h1]
      by_cases h2 : j < n + m
      · exact .inr (.inl ⟨by omega, h2, if_pos h2⟩)
      · rw [if_neg h2]
        by_cases h3 : j = n + m
        · exact .inr (.inr (.inl ⟨h3, if_pos h3⟩))
        · exact .inr (.inr (.inr ⟨by omega, if_neg h3⟩))
  rcases c i with q | q | q | q <;> rcases c j with q' | q' | q' | q' <;> omega
/-- the first of what is behind goes to the end -/
theorem Rel.rot {x : V × SV} (r : Rel a ρ (G ++ x :: T') σ H) : Rel a ρ ((G ++ T') ++ [x]) σ H := by
  refine r.rekey (swapAt G.length T'.length) (swapAt_inj _ _) fun j y e => ?_
  have hj := (List.getElem?_eq_some_iff.mp e).1
  rw [List.length_append, List.length_append, List.length_singleton] at hj
  unfold swapAt
  by_cases h1 : j < G.length
  · rw [if_pos h1, List.getElem?_append_left h1]
    rw [List.append_assoc, List.getElem?_append_left h1] at e
    exact e
  · rw [if_neg h1]
    by_cases h2 : j < G.length + T'.length
    · rw [if_pos h2, List.getElem?_append_right (by omega)]
      rw [List.append_assoc, List.getElem?_append_right (by omega), List.getElem?_append_left (by omega)] at e
      rw [show j + 1 - G.length = (j - G.length) + 1 by omega, List.getElem?_cons_succ]
      exact e
    · have h3 : j = G.length + T'.length := by omega
      rw [if_neg h2, if_pos h3, List.getElem?_append_right (by omega), Nat.sub_self]
      rw [List.getElem?_append_right (by rw [List.length_append]; omega), List.length_append, h3, Nat.sub_self] at e
      exact e
/-- the last temp goes into a slot -/
theorem Rel.store (r : Rel a ρ (G ++ [(v, s)]) σ H) {i : Nat} (hp : ∀ q ∈ a.pr, q.1 ≠ i) : Rel a (ρ.set i (some s)) G (σ.set i (some v)) H := by
  by_cases hi : i < ρ.length
  case neg =>
    rw [List.set_eq_of_length_le (by omega), List.set_eq_of_length_le (by rw [← r.len]; omega)]
    exact r.pre
  obtain ⟨F, g⟩ := r.good
  have hi' : i < σ.length := by rw [← r.len]; exact hi
  have g1 := (g.drop (.inl i))
  have e1 : put (itm ρ (G ++ [(v, s)]) σ) (.inl i) none (.inr G.length) = some (v, s) := by
    rw [put_ne (by simp), itm_push, put_same]
  have g2 := g1.move (k2 := .inl i) e1 fun _ b hb => .inl (edge_sub (g.rep (k := .inr G.length) (v := v) (s := s) (by rw [itm_push, put_same])) hb)
  refine ⟨by rw [List.length_set, List.length_set]; exact r.len, fun j t e => ?_, fun q hq => ?_, r.ext, _, Good.sub g2 fun k x e => ?_⟩
  · by_cases h : j = i
    · subst h; exact ⟨v, List.getElem?_set_self hi'⟩
    · rw [List.getElem?_set_ne (Ne.symm h)] at e ⊢
      exact r.sl j t e
  · rw [List.getElem?_set_ne (Ne.symm (hp q hq))]
    exact r.pr q hq
  · rw [itm_set hi hi'] at e
    by_cases h : k = .inl i
    · subst h
      rw [put_same] at e ⊢
      exact e
    · rw [put_ne h] at e
      rw [put_ne h]
      have h2 : k ≠ .inr G.length := fun z => by
        subst z
        have e : G[G.length]? = some x := e
        rw [List.getElem?_eq_none (Nat.le_refl _)] at e; cases e
      rw [put_ne h2, put_ne h, itm_push, put_ne h2]
      exact e
/-- all of them, from the left -/
def sets (σ : St) : List Nat → List V → St
  | i :: is, v :: vs => sets (σ.set i (some v)) is vs
  | _, _ => σ
theorem Rel.stores : ∀ {is : List Nat} {ss : List SV} {vs : List V} {ρ ρ' : REnv} {σ : St}, Rel a ρ (G ++ vs.zip ss) σ H → vs.length = ss.length → setAll is ss ρ = some ρ' → (∀ i ∈ is, ∀ q ∈ a.pr, q.1 ≠ i) → Rel a ρ' G (sets σ is vs) H
  | [], [], [], ρ, _, σ, r, _, e, _ => by
    cases e
    exact r.pre
  | i :: is, s :: ss, v :: vs, ρ, ρ', σ, r, hl, e, hi => by
    have r1 := Rel.rot (x := (v, s)) (T' := vs.zip ss) r
    have r2 := r1.store (hi i List.mem_cons_self)
    exact Rel.stores (is := is) (ss := ss) (vs := vs) (ρ := ρ.set i (some s)) (σ := σ.set i (some v)) r2 (by simpa using hl) e fun j hj => hi j (List.mem_cons_of_mem _ hj)
  | [], _ :: _, _, _, _, _, _, _, e, _ => by cases e
  | _ :: _, [], _, _, _, _, _, _, e, _ => by cases e
  | _ :: _, _ :: _, [], _, _, _, _, hl, _, _ => by cases hl
  | [], [], _ :: _, _, _, _, _, hl, _, _ => by cases hl
theorem Rel.wTemps : ∀ {ws : List W} {vs : List V} {G : List (V × SV)}, Rel a ρ G σ H → RWs a.K H ws vs → Rel a ρ (G ++ vs.zip (ws.map sw)) σ H
  | [], vs, G, r, h => by
    rw [show vs = [] from h]
    simpa using r
  | w :: ws, _, G, r, ⟨v, vs, e, h1, h2⟩ => by
    subst e
    have := Rel.wTemps (r.pushW (m := .own) h1) h2
    simpa using this
theorem fps_apart : ∀ {ts : List Tri} {i j : Nat} {t t' : Tri}, (fps ts).Nodup → i ≠ j → ts[i]? = some t → ts[j]? = some t' → ∀ c ∈ t.2.2, c ∉ t'.2.2
  | [], _, _, _, _, _, _, e, _, _, _ => by simp at e
  | x :: ts, i, j, t, t', n, ne, e, e', c, hc => by
    rw [fps_cons] at n
    obtain ⟨n1, n2, n3⟩ := List.nodup_append.mp n
    cases i with
    | zero =>
      cases j with
      | zero => exact (ne rfl).elim
      | succ j =>
        rw [List.getElem?_cons_zero] at e
        rw [List.getElem?_cons_succ] at e'
        cases e
        exact fun h => n3 c hc c (mem_fps.mpr ⟨t', List.mem_of_getElem? e', h⟩) rfl
    | succ i =>
      rw [List.getElem?_cons_succ] at e
      cases j with
      | zero =>
        rw [List.getElem?_cons_zero] at e'
        cases e'
        exact fun h => n3 c h c (mem_fps.mpr ⟨t, List.mem_of_getElem? e, hc⟩) rfl
      | succ j =>
        rw [List.getElem?_cons_succ] at e'
        exact fps_apart n2 (by omega) e e' c hc
theorem zip_tri (m : Mode) : ∀ ts : List Tri, (ts.map (·.2.1)).zip ((ts.map (·.1)).map (mkSV m)) = ts.map fun t => (t.2.1, mkSV m t.1)
  | [] => rfl
  | t :: ts => by
    have := zip_tri m ts
    simp only [List.map_cons, List.zip_cons_cons, this]
theorem mkSV_m {m : Mode} {d : D} : (mkSV m d).d = d ∧ ((mkSV m d).m = m ∨ isW d = true ∧ (mkSV m d).m = .own) := by
  cases d <;> first | exact ⟨rfl, .inl rfl⟩ | exact ⟨rfl, .inr ⟨rfl, rfl⟩⟩
theorem RD.wF {K : PySem.W.Frag} {H : Hp} {d : D} {v : V} {F : List Addr} (r : RD K H d v F) (h : isW d = true) : F = [] := by
  cases d <;> first | exact r.2 | cases h
/-- things in the stead of the last, that were within it -/
theorem Rel.instead {m : Mode} {v : V} {d : D} {P : List Tri → Prop} (r : Rel a ρ (G ++ [(v, ⟨m, d⟩)]) σ H) (h : ∀ F, RD a.K H d v F → ∃ ts, P ts ∧ (fps ts).Sublist F ∧ ∀ t ∈ ts, Tri.ok a.K H t) : ∃ ts, P ts ∧ Rel a ρ (G ++ ts.map fun t => (t.2.1, mkSV m t.1)) σ H := by
  obtain ⟨F, g⟩ := r.good
  have e0 : itm ρ (G ++ [(v, ⟨m, d⟩)]) σ (.inr G.length) = some (v, ⟨m, d⟩) := by rw [itm_push, put_same]
  obtain ⟨ts, pts, sb, ok⟩ := h _ (g.rep e0)
  refine ⟨ts, pts, ?_⟩
  let F' : Ky → List Addr := fun k => match k with
    | .inl i => F (.inl i)
    | .inr j => if j < G.length then F (.inr j) else match ts[j - G.length]? with
      | some t => t.2.2
      | none => []
  refine ⟨r.len, r.sl, r.pr, r.ext, F', ?_⟩
  -- an old thing, or one of the new
  have cs : ∀ {k x}, itm ρ (G ++ ts.map fun t => (t.2.1, mkSV m t.1)) σ k = some x → (itm ρ (G ++ [(v, ⟨m, d⟩)]) σ k = some x ∧ k ≠ .inr G.length ∧ F' k = F k) ∨ ∃ j t, k = .inr (G.length + j) ∧ ts[j]? = some t ∧ x = (t.2.1, mkSV m t.1) ∧ F' k = t.2.2 := fun {k x} e => by
    cases k with
    | inl i => exact .inl ⟨e, by simp, rfl⟩
    | inr j =>
      have e : (G ++ ts.map fun t => (t.2.1, mkSV m t.1))[j]? = some x := e
      by_cases hj : j < G.length
      · rw [List.getElem?_append_left hj] at e
        refine .inl ⟨?_, fun z => by cases z; omega, by show (if j < G.length then F (.inr j) else _) = _; rw [if_pos hj]⟩
        show (G ++ [(v, ⟨m, d⟩)])[j]? = some x
        rw [List.getElem?_append_left hj]; exact e
      · rw [List.getElem?_append_right (by omega), List.getElem?_map] at e
        obtain ⟨t, et, ex⟩ := Option.map_eq_some_iff.mp e
        refine .inr ⟨j - G.length, t, by congr 1; omega, et, ex.symm, ?_⟩
        show (if j < G.length then F (.inr j) else match ts[j - G.length]? with | some t => t.2.2 | none => []) = _
        rw [if_neg hj, et]
  have sub : ∀ {j : Nat} {t : Tri}, ts[j]? = some t → ∀ c ∈ t.2.2, c ∈ F (.inr G.length) := fun {j t} e c hc => sb.subset (mem_fps.mpr ⟨t, List.mem_of_getElem? e, hc⟩)
  have sbt : ∀ {j : Nat} {t : Tri}, ts[j]? = some t → t.2.2.Sublist (F (.inr G.length)) := fun {j t} e => by
    refine List.Sublist.trans ?_ sb
    have : ∀ (ts : List Tri), t ∈ ts → t.2.2.Sublist (fps ts) := fun ts => by
      induction ts with
      | nil => intro h; cases h
      | cons x ts ih =>
        intro h
        rw [fps_cons]
        rcases List.mem_cons.mp h with rfl | h
        · exact List.sublist_append_left _ _
        · exact (ih h).trans (List.sublist_append_right _ _)
    exact this ts (List.mem_of_getElem? e)
  have wf : ∀ {t : Tri}, t ∈ ts → isW t.1 = true → t.2.2 = [] := fun {t} h w => (ok t h).wF w
  refine ⟨fun {k v' s} e => ?_, fun {k v' s} e o => ?_, fun {k v' s} e o => ?_, fun {k k' x x'} n e e' o o' c hc => ?_, fun {k k' x x' b} n e e' o o' hb => ?_⟩
  · rcases cs e with ⟨e1, _, ef⟩ | ⟨j, t, _, et, ex, ef⟩
    · rw [ef]; exact g.rep e1
    · rw [ef]; cases ex; rw [mkSV_m.1]; exact ok t (List.mem_of_getElem? et)
  · rcases cs e with ⟨e1, _, ef⟩ | ⟨j, t, _, et, ex, ef⟩
    · rw [ef]; exact g.nd e1 o
    · rw [ef]
      cases ex
      rcases (mkSV_m (m := m) (d := t.1)).2 with q | ⟨q, _⟩
      · exact (g.nd e0 (q.symm.trans o)).sublist (sbt et)
      · rw [wf (List.mem_of_getElem? et) q]; exact List.nodup_nil
  · rcases cs e with ⟨e1, _, ef⟩ | ⟨j, t, _, et, ex, ef⟩
    · rw [ef]; exact g.mine e1 o
    · rw [ef]
      cases ex
      rcases (mkSV_m (m := m) (d := t.1)).2 with q | ⟨q, _⟩
      · exact fun c hc => g.mine e0 (q.symm.trans o) c (sub et c hc)
      · rw [wf (List.mem_of_getElem? et) q]; exact fun _ h => nomatch h
  · rcases cs e with ⟨e1, nk, ef⟩ | ⟨j, t, ek, et, ex, ef⟩
    · rw [ef] at hc
      rcases cs e' with ⟨e1', nk', ef'⟩ | ⟨j', t', ek', et', ex', ef'⟩
      · rw [ef']; exact g.dis n e1 e1' o o' c hc
      · rw [ef']
        subst ex'
        rcases (mkSV_m (m := m) (d := t'.1)).2 with q | ⟨q, _⟩
        · exact fun h => g.dis nk e1 e0 o (fun z => o' (q.trans z)) c hc (sub et' c h)
        · rw [wf (List.mem_of_getElem? et') q]; exact fun h => nomatch h
    · rw [ef] at hc
      subst ex
      rcases (mkSV_m (m := m) (d := t.1)).2 with q | ⟨q, _⟩
      · have om : m = .own := q.symm.trans o
        rcases cs e' with ⟨e1', nk', ef'⟩ | ⟨j', t', ek', et', ex', ef'⟩
        · rw [ef']; exact g.dis (Ne.symm nk') e0 e1' om o' c (sub et c hc)
        · rw [ef']
          refine fps_apart ((g.nd e0 om).sublist sb) (fun z => n ?_) et et' c hc
          rw [ek, ek', z]
      · rw [wf (List.mem_of_getElem? et) q] at hc; cases hc
  · rcases cs e with ⟨e1, nk, ef⟩ | ⟨j, t, ek, et, ex, ef⟩
    · rw [ef] at hb
      rcases cs e' with ⟨e1', nk', ef'⟩ | ⟨j', t', ek', et', ex', ef'⟩
      · rw [ef']; exact g.top n e1 e1' o o' hb
      · rw [ef']
        subst ex'
        rcases (mkSV_m (m := m) (d := t'.1)).2 with q | ⟨_, q⟩
        · exact fun h => g.top nk e1 e0 o (q.symm.trans o') hb (sub et' b h)
        · rw [show (mkSV m t'.1).m = .brw from o'] at q; cases q
    · subst ex
      have hb2 : b ∈ t.2.2 := by
        rw [ef] at hb
        exact edge_sub (K := a.K) (H := H) (by show RD a.K H (mkSV m t.1).d t.2.1 t.2.2; rw [mkSV_m.1]; exact ok t (List.mem_of_getElem? et)) hb
      rcases (mkSV_m (m := m) (d := t.1)).2 with q | ⟨q, _⟩
      · have om : m = .own := q.symm.trans o
        rcases cs e' with ⟨e1', nk', ef'⟩ | ⟨j', t', ek', et', ex', ef'⟩
        · rw [ef']
          exact g.top (Ne.symm nk') e0 e1' om o' (show b ∈ F (.inr G.length) from sub et b hb2)
        · subst ex'
          rcases (mkSV_m (m := m) (d := t'.1)).2 with q' | ⟨_, q'⟩
          · rw [om] at q' o'; rw [show (mkSV .own t'.1).m = .brw from o'] at q'; cases q'
          · rw [show (mkSV m t'.1).m = .brw from o'] at q'; cases q'
      · rw [wf (List.mem_of_getElem? et) q] at hb2; cases hb2
/-- a tuple's parts in its stead -/
theorem Rel.split {m : Mode} {ds : List D} {t : Addr} {vs : List V} (r : Rel a ρ (G ++ [(.ref t, ⟨m, .tup ds⟩)]) σ H) (ht : H t = some (.tup vs)) : vs.length = ds.length ∧ Rel a ρ (G ++ vs.zip (ds.map (mkSV m))) σ H := by
  obtain ⟨ts, ⟨a1, a2⟩, r2⟩ := r.instead (P := fun ts => ds = ts.map (·.1) ∧ vs = ts.map (·.2.1)) fun F rd => by
    obtain ⟨b, vs', eb, hb, rd⟩ := rd
    cases eb
    rw [ht] at hb
    cases hb
    obtain ⟨ts, a1, a2, a3, a4⟩ := rd.tri
    exact ⟨ts, ⟨a1, a2⟩, by rw [a3]; exact List.Sublist.refl _, a4⟩
  subst a1 a2
  rw [zip_tri]
  exact ⟨by simp, r2⟩
end
end Wm
namespace Wm
open PySem PySem.Spec PyProof.Rows L2

theorem wipe_in {σ : St} {j : Nat} : ∀ {vs : List Nat}, j ∈ vs → (wipe σ vs)[j]? = if j < σ.length then some none else none
  | v :: vs, h => by
    unfold wipe
    by_cases e : v = j
    · subst e
      by_cases hl : v < σ.length
      · rw [List.getElem?_set_self (by rw [wipe_length]; exact hl), if_pos hl]
      · rw [if_neg hl, List.getElem?_eq_none (by rw [List.length_set, wipe_length]; omega)]
    · rw [List.getElem?_set_ne e]
      rcases List.mem_cons.mp h with h | h
      · exact (e h.symm).elim
      · exact wipe_in h
theorem wipe_eq {σ σ' : St} {vs : List Nat} (hl : σ.length = σ'.length) (h : ∀ j, j ∉ vs → σ[j]? = σ'[j]?) : wipe σ vs = wipe σ' vs := by
  refine List.ext_getElem? fun j => ?_
  by_cases hj : j ∈ vs
  · rw [wipe_in hj, wipe_in hj, hl]
  · rw [wipe_out hj, wipe_out hj]; exact h j hj
theorem wipe_wipe {σ : St} {vs : List Nat} : wipe (wipe σ vs) vs = wipe σ vs := wipe_eq (wipe_length _ _) fun j hj => wipe_out hj
theorem sets_len : ∀ {is : List Nat} {vs : List V} {σ : St}, (sets σ is vs).length = σ.length
  | [], _, _ => rfl
  | _ :: _, [], _ => rfl
  | i :: is, v :: vs, σ => by
    show (sets (σ.set i (some v)) is vs).length = _
    rw [sets_len, List.length_set]
theorem sets_out : ∀ {is : List Nat} {vs : List V} {σ : St} {j : Nat}, j ∉ is → (sets σ is vs)[j]? = σ[j]?
  | [], _, _, _, _ => rfl
  | _ :: _, [], _, _, _ => rfl
  | i :: is, v :: vs, σ, j, h => by
    show (sets (σ.set i (some v)) is vs)[j]? = _
    rw [sets_out fun q => h (List.mem_cons_of_mem _ q), List.getElem?_set_ne fun e => h (by rw [e]; exact List.mem_cons_self)]
def gNames : List Nat → TGs
  | [] => gNil
  | i :: is => gCons (gName i) (gNames is)
theorem gNames_run : ∀ {is : List Nat} {vs : List V} {σ : St} {H : Hp} {Q : St → Hp → Prop}, vs.length = is.length → Q (sets σ is vs) H → gNames is vs σ H Q
  | [], [], _, _, _, _, q => ⟨rfl, q⟩
  | i :: is, v :: vs, σ, H, Q, hl, q => ⟨v, vs, rfl, gNames_run (σ := σ.set i (some v)) (by simpa using hl) q⟩
  | [], _ :: _, _, _, _, hl, _ => by cases hl
  | _ :: _, [], _, _, _, hl, _ => by cases hl
def gT (K : PySem.W.Frag) : Tg → TG
  | .one i => gName i
  | .tup is => fun v σ H Q => gTup K is.length (gNames is) v σ H Q ∨ gLst K is.length (gNames is) v σ H Q
section
variable {X : Cx} {a : Act} {T : Tab} {CS : CkT} {N : List Str} {sc : Scope} {R : Nat} {Xc : Ex → REnv → Prop}
theorem pg_st (c : Ctx X a T CS N sc R) {i : Nat} {e : Expr} (h : chkSt N sc i e = true) : PG X e (gName i) := by
  unfold chkSt at h
  split at h
  · rename_i x ex
    simp only [Bool.and_eq_true, decide_eq_true_eq] at h
    obtain ⟨p, rfl⟩ := vName_inv ex
    exact pg_name (by rw [c.hN]; exact c.nd) (by rw [c.hN]; exact h.1.1) (c.loc h.1.2) (c.fn _ h.1.2)
  · cases h
theorem st_name {i : Nat} {e : Expr} (h : chkSt N sc i e = true) : ∃ x p, e = .Name x p := by
  unfold chkSt at h
  split at h
  · rename_i x ex
    obtain ⟨p, rfl⟩ := vName_inv ex
    exact ⟨x, p, rfl⟩
  · cases h
theorem pgs_sts (c : Ctx X a T CS N sc R) : ∀ {is : List Nat} {es : List Expr}, chkSts N sc is es = true → PGs X es (gNames is) ∧ (assignEach es X.env).length = is.length ∧ (assignEach es X.env).findIdx? (·.1) = none
  | [], [], _ => ⟨pgs_nil, rfl, rfl⟩
  | i :: is, e :: es, h => by
    simp only [chkSts, Bool.and_eq_true] at h
    obtain ⟨g1, g2, g3⟩ := pgs_sts c h.2
    obtain ⟨x, p, rfl⟩ := st_name h.1
    refine ⟨pgs_cons (pg_st c h.1) g1, ?_, ?_⟩
    · show (assignEach es X.env).length + 1 = _
      rw [g2]; rfl
    · show List.findIdx? (·.1) ((false, assign (.Name x p) X.env) :: assignEach es X.env) = none
      rw [List.findIdx?_cons]
      simp [g3]
  | [], _ :: _, h => by cases h
  | _ :: _, [], h => by cases h
theorem PG.or {X : Cx} {e : Expr} {t t' : TG} (h : PG X e t) (h' : PG X e t') : PG X e (fun v σ H Q => t v σ H Q ∨ t' v σ H Q) := ⟨fun pins s σ H v u Q I r q => q.elim (h.run pins s σ H v u Q I r) (h'.run pins s σ H v u Q I r)⟩
theorem pg_tg (c : Ctx X a T CS N sc R) {tg : Tg} {e : Expr} (h : chkTg N sc tg e = true) : PG X e (gT X.K tg) := by
  cases tg with
  | one i => exact pg_st c h
  | tup is =>
    have h : (match vTuple e with | some es => chkSts N sc is es | none => false) = true := h
    split at h
    · rename_i es ee
      obtain ⟨k, p, rfl⟩ := vTuple_inv ee
      obtain ⟨g1, g2, g3⟩ := pgs_sts c h
      exact PG.or (pg_tup c.calm g1 g2 g3) (pg_lst c.calm g1 g2 g3)
    · cases h
end
def RowIn (a : Act) (ρ : REnv) (G : List (V × SV)) (σ : St) (H : Hp) (x : V) (r : List SV) : Prop :=
  (∃ s, r = [s] ∧ Rel a ρ (G ++ [(x, s)]) σ H) ∨ (∃ t vs, x = .ref t ∧ H t = some (.tup vs) ∧ vs.length = r.length ∧ r.length ≠ 1 ∧ Rel a ρ (G ++ vs.zip r) σ H)
section
variable {a : Act} {ρ ρ2 : REnv} {G : List (V × SV)} {σ : St} {H : Hp} {x : V} {r : List SV}
theorem setAll_len : ∀ {is : List Nat} {ss : List SV} {ρ ρ' : REnv}, setAll is ss ρ = some ρ' → is.length = ss.length
  | [], [], _, _, _ => rfl
  | i :: is, s :: ss, ρ, ρ', e => by rw [List.length_cons, List.length_cons, setAll_len (ρ := ρ.set i (some s)) e]
  | [], _ :: _, _, _, e => by cases e
  | _ :: _, [], _, _, e => by cases e
theorem SqT.tup {K : PySem.W.Frag} {H : Hp} {t : Addr} {vs : List V} (h : H t = some (.tup vs)) : SqT K H t vs := .inl (.inl h)
theorem set_row {tg : Tg} {Q : St → Hp → Prop} (h : RowIn a ρ G σ H x r) (e : tg.set r ρ = some ρ2) (hp : ∀ i ∈ tg.slots, ∀ q ∈ a.pr, q.1 ≠ i) (k : ∀ σ2, Rel a ρ2 G σ2 H → σ2.length = σ.length → (∀ j, j ∉ tg.slots → σ2[j]? = σ[j]?) → Q σ2 H) : gT a.K tg x σ H Q := by
  cases tg with
  | one i =>
    rcases h with ⟨s, rfl, rel⟩ | ⟨t, vs, rfl, ht, hl, hn, rel⟩
    · have e : some (ρ.set i (some s)) = some ρ2 := e
      cases e
      exact k _ (rel.store (hp i (by simp [Tg.slots]))) (by simp) fun j hj => List.getElem?_set_ne fun q => hj (by simp [Tg.slots, q])
    · cases r with
      | nil => cases e
      | cons s r => cases r with
        | nil => exact (hn rfl).elim
        | cons s' r => cases e
  | tup is =>
    have fin : ∀ {vs : List V} {ss : List SV}, vs.length = ss.length → setAll is ss ρ = some ρ2 → Rel a ρ (G ++ vs.zip ss) σ H → gNames is vs σ H Q ∧ vs.length = is.length := fun {vs ss} hl e rel => by
      have hl2 : vs.length = is.length := hl.trans (setAll_len e).symm
      exact ⟨gNames_run hl2 (k _ (rel.stores hl e fun i hi => hp i hi) sets_len fun j hj => sets_out hj), hl2⟩
    rcases h with ⟨s, rfl, rel⟩ | ⟨t, vs, rfl, ht, hl, hn, rel⟩
    · have e : (match parts s with | some ss => setAll is ss ρ | none => none) = some ρ2 := e
      split at e
      · rename_i ss es
        obtain ⟨m, d⟩ := s
        unfold parts at es
        split at es
        · rename_i ws ed
          cases es
          have ed : d = .w (.tup ws) := ed
          subst ed
          obtain ⟨_, ⟨t, vs, rfl, ht, rw'⟩, _⟩ := rel.tmpRep
          obtain ⟨q1, q2⟩ := fin (vs := vs) (by rw [List.length_map, rw'.length]) e (rel.pre.wTemps rw')
          exact .inl ⟨t, vs, rfl, SqT.tup ht, q2, q1⟩
        · rename_i ds ed
          cases es
          have ed : d = .tup ds := ed
          subst ed
          obtain ⟨_, t, vs, rfl, ht, _⟩ := rel.tmpRep
          obtain ⟨hl, r2⟩ := rel.split ht
          obtain ⟨q1, q2⟩ := fin (vs := vs) (by rw [List.length_map, hl]) e r2
          exact .inl ⟨t, vs, rfl, SqT.tup ht, q2, q1⟩
        · cases es
      · cases e
    · have e' : setAll is r ρ = some ρ2 := by
        match r, hn, e with
        | [], _, e => exact e
        | [s], hn, _ => exact (hn rfl).elim
        | s :: s' :: r, _, e => exact e
      obtain ⟨q1, q2⟩ := fin hl e' rel
      exact .inl ⟨t, vs, rfl, SqT.tup ht, q2, q1⟩
end
section
variable {a : Act} {ρ : REnv} {G : List (V × SV)} {σ : St} {H : Hp}
def demM : Mode → Mode
  | .own => .par
  | m => m
def dem (y : V × SV) : V × SV := (y.1, ⟨demM y.2.m, y.2.d⟩)
theorem Rel.demote {T' : List (V × SV)} (r : Rel a ρ (G ++ T') σ H) : Rel a ρ (G ++ T'.map dem) σ H := by
  obtain ⟨F, g⟩ := r.good
  refine ⟨r.len, r.sl, r.pr, r.ext, F, ?_⟩
  have w : ∀ {k x}, itm ρ (G ++ T'.map dem) σ k = some x → ∃ s, itm ρ (G ++ T') σ k = some (x.1, s) ∧ x.2.d = s.d ∧ (x.2 = s ∨ (s.m = .own ∧ x.2.m = .par)) := fun {k x} e => by
    cases k with
    | inl i => exact ⟨x.2, e, rfl, .inl rfl⟩
    | inr j =>
      have e : (G ++ T'.map dem)[j]? = some x := e
      by_cases hj : j < G.length
      · rw [List.getElem?_append_left hj] at e
        exact ⟨x.2, by show (G ++ T')[j]? = _; rw [List.getElem?_append_left hj]; exact e, rfl, .inl rfl⟩
      · rw [List.getElem?_append_right (by omega), List.getElem?_map] at e
        obtain ⟨y, ey, rfl⟩ := Option.map_eq_some_iff.mp e
        refine ⟨y.2, by show (G ++ T')[j]? = _; rw [List.getElem?_append_right (by omega)]; exact ey, rfl, ?_⟩
        obtain ⟨v, m, d⟩ := y
        cases m <;> first | exact .inl rfl | exact .inr ⟨rfl, rfl⟩
  have ow : ∀ {x : V × SV} {s : SV}, (x.2 = s ∨ (s.m = .own ∧ x.2.m = .par)) → x.2.m = .own → x.2 = s := fun {x s} h o => by
    rcases h with h | ⟨_, h⟩
    · exact h
    · rw [o] at h; cases h
  refine ⟨fun {k v s} e => ?_, fun {k v s} e o => ?_, fun {k v s} e o => ?_, fun {k k' x x'} n e e' o o' => ?_, fun {k k' x x' b} n e e' o o' hb => ?_⟩
  · obtain ⟨s', e1, e2, _⟩ := w e
    have e2 : s.d = s'.d := e2
    rw [e2]; exact g.rep e1
  · obtain ⟨s', e1, e2, e3⟩ := w e
    have := ow e3 o
    have this : s = s' := this
    subst this
    exact g.nd e1 o
  · obtain ⟨s', e1, e2, e3⟩ := w e
    have := ow e3 o
    have this : s = s' := this
    subst this
    exact g.mine e1 o
  · obtain ⟨s, e1, e2, e3⟩ := w e
    obtain ⟨s', e1', e2', e3'⟩ := w e'
    rw [← ow e3 o] at e1
    refine g.dis n e1 e1' o ?_
    rcases e3' with h | ⟨h, _⟩
    · rw [← h]; exact o'
    · intro z; rw [show s'.m = .brw from z] at h; cases h
  · obtain ⟨s, e1, e2, e3⟩ := w e
    obtain ⟨s', e1', e2', e3'⟩ := w e'
    rw [← ow e3 o] at e1
    refine g.top n e1 e1' o ?_ hb
    rcases e3' with h | ⟨_, h⟩
    · rw [← h]; exact o'
    · rw [o'] at h; cases h
theorem partMode_dem (m : Mode) : partMode (demM m) = demM m := by cases m <;> rfl
/-- a thing that is walked stays where it is -/
def SrcAt (a : Act) (T' : List (V × SV)) (wv : List (Nat × V)) (o : Op) (v : V) : Prop := ∀ ρ G1 G2 σ H, Rel a ρ (G1 ++ T' ++ G2) σ H → stays o.watch ρ → (∀ q ∈ wv, σ[q.1]? = some (some q.2)) →
  ∃ k m, itm ρ (G1 ++ T' ++ G2) σ k = some (v, ⟨m, o.d⟩) ∧ (m = .own → ∃ i, k = .inl i) ∧ partMode m = o.wm
end
end Wm
namespace Wm
open PySem PySem.Spec PyProof.Rows L2

section
variable {K : PySem.W.Frag} {H : Hp}
mutual
theorem RD.det : ∀ {d : D} {v : V} {F F' : List Addr}, RD K H d v F → RD K H d v F' → F = F'
  | .w _, _, _, _, h, h' => h.2.trans h'.2.symm
  | .tup ds, _, _, _, ⟨b, vs, e, h1, h2⟩, ⟨b', vs', e', h1', h2'⟩ => by
    subst e; cases e'; rw [h1] at h1'; cases h1'; exact RDs.det h2 h2'
  | .lst ds, _, _, _, ⟨b, vs, G, e, h1, h2, e2⟩, ⟨b', vs', G', e', h1', h2', e2'⟩ => by
    subst e e2 e2'; cases e'; rw [h1] at h1'; cases h1'; rw [RDs.det h2 h2']
  | .fz ws, _, _, _, ⟨b, vs, e, h1, h2, e2⟩, ⟨b', vs', e', h1', h2', e2'⟩ => e2.trans e2'.symm
  | .dK ds, _, _, _, ⟨b, vs, G, e, h1, h2, e2⟩, ⟨b', vs', G', e', h1', h2', e2'⟩ => by
    subst e e2 e2'; cases e'; rw [h1] at h1'; cases h1'; rw [RDk.det h2 h2']
  | .dT ds, _, _, _, ⟨b, vs, G, e, h1, h2, e2⟩, ⟨b', vs', G', e', h1', h2', e2'⟩ => by
    subst e e2 e2'; cases e'; rw [h1] at h1'; cases h1'; rw [RDt.det h2 h2']
theorem RDs.det : ∀ {ds : List D} {vs : List V} {F F' : List Addr}, RDs K H ds vs F → RDs K H ds vs F' → F = F'
  | [], _, _, _, h, h' => h.2.trans h'.2.symm
  | d :: ds, _, _, _, ⟨v, r, F1, F2, e, h1, h2, e2⟩, ⟨v', r', F1', F2', e', h1', h2', e2'⟩ => by
    subst e e2 e2'; cases e'; rw [RD.det h1 h1', RDs.det h2 h2']
theorem RDk.det : ∀ {ds : List (L2.Key × D)} {vs : List (L2.Key × V)} {F F' : List Addr}, RDk K H ds vs F → RDk K H ds vs F' → F = F'
  | [], _, _, _, h, h' => h.2.trans h'.2.symm
  | (k, d) :: ds, _, _, _, ⟨v, r, F1, F2, e, h1, h2, e2⟩, ⟨v', r', F1', F2', e', h1', h2', e2'⟩ => by
    subst e e2 e2'; cases e'; rw [RD.det h1 h1', RDk.det h2 h2']
theorem RDt.det : ∀ {ds : List (List L2.Key × D)} {vs : List (List L2.Key × V)} {F F' : List Addr}, RDt K H ds vs F → RDt K H ds vs F' → F = F'
  | [], _, _, _, h, h' => h.2.trans h'.2.symm
  | (k, d) :: ds, _, _, _, ⟨v, r, F1, F2, e, h1, h2, e2⟩, ⟨v', r', F1', F2', e', h1', h2', e2'⟩ => by
    subst e e2 e2'; cases e'; rw [RD.det h1 h1', RDt.det h2 h2']
end
end
section
variable {a : Act} {ρ : REnv} {G T : List (V × SV)} {σ : St} {H : Hp}
def wvs : List Arg → List V → List (Nat × V)
  | .late i :: as, v :: vs => (i, v) :: wvs as vs
  | .tmp _ _ :: as, _ :: vs => wvs as vs
  | _, _ => []
theorem AR.wvs_ok : ∀ {args : List Arg} {T : List (V × SV)} {vs : List V}, AR σ args T vs → ∀ q ∈ wvs args vs, σ[q.1]? = some (some q.2)
  | _, _, _, .nil, _, h => nomatch h
  | _, _, _, .late h h2, q, hq => by
    rcases List.mem_cons.mp hq with rfl | hq
    · exact h
    · exact h2.wvs_ok q hq
  | _, _, _, .tmp h2, q, hq => h2.wvs_ok q hq
theorem AR.srcs : ∀ {args : List Arg} {T : List (V × SV)} {vs : List V} {ops : List Op}, AR σ args T vs → rds ρ args = some ops → ∀ (WV : List (Nat × V)) (Tp : List (V × SV)), (∀ q ∈ wvs args vs, q ∈ WV) → Paired (fun o v => SrcAt a ((Tp ++ T).map dem) WV o v) ops vs
  | _, _, _, _, .nil, e, _, _, _ => by
    have e : some ([] : List Op) = some _ := e
    cases e
    exact .nil
  | .late i :: as, T, v :: vs, ops, .late h h2, e, WV, Tp, hw => by
    simp only [rds, rd] at e
    split at e
    · rename_i o eo
      split at eo
      · rename_i s es
        cases eo
        split at e
        · rename_i os eos
          cases e
          refine .cons ?_ (AR.srcs h2 eos WV Tp fun q hq => hw q (List.mem_cons_of_mem _ hq))
          intro ρ' G1 G2 σ' H' r st wv
          refine ⟨.inl i, s.m, itm_slot (st (i, ⟨s.m, s.d⟩) List.mem_cons_self) (wv (i, v) (hw _ List.mem_cons_self)), fun _ => ⟨i, rfl⟩, ?_⟩
          obtain ⟨m, d⟩ := s
          cases m <;> rfl
        · cases e
      · cases eo
    · cases e
  | .tmp m d :: as, _, v :: vs, ops, .tmp (T := T) h2, e, WV, Tp, hw => by
    simp only [rds, rd] at e
    split at e
    · rename_i os eos
      cases e
      refine .cons ?_ ?_
      · intro ρ' G1 G2 σ' H' r st wv
        refine ⟨.inr (G1.length + Tp.length), demM m, ?_, fun z => ?_, ?_⟩
        · show (G1 ++ (Tp ++ (v, ⟨m, d⟩) :: T).map dem ++ G2)[G1.length + Tp.length]? = _
          rw [List.append_assoc, List.getElem?_append_right (by omega), Nat.add_sub_cancel_left, List.map_append, List.append_assoc, List.getElem?_append_right (by simp)]
          simp [dem]
        · cases m <;> cases z
        · cases m <;> rfl
      · have := AR.srcs h2 eos WV (Tp ++ [(v, ⟨m, d⟩)]) hw
        rw [List.append_assoc] at this
        exact this
    · cases e
/-- what is walked: its kind, its items -/
theorem RD.kind {K : PySem.W.Frag} {d : D} {ds : List D} {v : V} {F : List Addr} (r : RD K H d v F) (hs : seqOf d = some ds) : ∃ b vs, v = .ref b ∧ (if isLst d = true then SqL K H b vs else SqT K H b vs) ∧ vs.length = ds.length ∧
    ∀ (j : Nat) (dj : D), ds[j]? = some dj → ∃ vj F', vs[j]? = some vj ∧ RD K H dj vj F' ∧ F'.Sublist F ∧ ∀ m c, topOf (v, ⟨m, d⟩) = some c → F.Nodup → c ∉ F' := by
  have ww : ∀ {ws : List W} {vs : List V} {P : List Addr → Prop}, RWs K H ws vs → P [] → ∀ j dj, (ws.map D.w)[j]? = some dj → ∃ vj F', vs[j]? = some vj ∧ RD K H dj vj F' ∧ P F' := fun {ws vs P} h p j dj e => by
    rw [List.getElem?_map] at e
    obtain ⟨x, ex, rfl⟩ := Option.map_eq_some_iff.mp e
    obtain ⟨vj, e1, e2⟩ := h.get ex
    exact ⟨vj, [], e1, ⟨e2, rfl⟩, p⟩
  cases d with
  | w x =>
    cases x with
    | tup ws =>
      cases hs
      obtain ⟨⟨b, vs, rfl, hb, h⟩, rfl⟩ := r
      exact ⟨b, vs, rfl, .inl (.inl hb), by rw [List.length_map, h.length], ww (P := fun F' => F'.Sublist [] ∧ ∀ m c, topOf (.ref b, ⟨m, .w (.tup ws)⟩) = some c → ([] : List Addr).Nodup → c ∉ F') h ⟨List.Sublist.refl _, fun _ _ _ _ h => nomatch h⟩⟩
    | _ => cases hs
  | tup xs =>
    cases hs
    obtain ⟨b, vs, rfl, hb, h⟩ := r
    refine ⟨b, vs, rfl, .inl (.inl hb), h.length.symm, fun j dj e => ?_⟩
    obtain ⟨vj, F', e1, e2, e3⟩ := h.get e
    exact ⟨vj, F', e1, e2, e3, fun m c h => nomatch h⟩
  | lst xs =>
    cases hs
    obtain ⟨b, vs, F0, rfl, hb, h, rfl⟩ := r
    refine ⟨b, vs, rfl, .inl (.inl hb), h.length.symm, fun j dj e => ?_⟩
    obtain ⟨vj, F', e1, e2, e3⟩ := h.get e
    refine ⟨vj, F', e1, e2, e3.trans (List.sublist_cons_self _ _), fun m c hc nd hm => ?_⟩
    cases hc
    exact (List.nodup_cons.mp nd).1 (e3.subset hm)
  | fz ws =>
    cases hs
    obtain ⟨b, vs, rfl, hb, h, rfl⟩ := r
    exact ⟨b, vs, rfl, hb.sq, by rw [List.length_map, h.length], ww (P := fun F' => F'.Sublist [] ∧ ∀ m c, topOf (.ref b, ⟨m, .fz ws⟩) = some c → ([] : List Addr).Nodup → c ∉ F') h ⟨List.Sublist.refl _, fun _ _ _ _ h => nomatch h⟩⟩
  | dK _ => cases hs
  | dT _ => cases hs
theorem Rel.pushPart (r : Rel a ρ G σ H) {k : Ky} {m : Mode} {d dj : D} {v vj : V} (e : itm ρ G σ k = some (v, ⟨m, d⟩)) (hm : m = .own → ∃ i, k = .inl i)
    (hp : ∀ F, RD a.K H d v F → ∃ F', RD a.K H dj vj F' ∧ F'.Sublist F ∧ ∀ m c, topOf (v, ⟨m, d⟩) = some c → F.Nodup → c ∉ F') : Rel a ρ (G ++ [(vj, mkSV (partMode m) dj)]) σ H := by
  obtain ⟨F, g⟩ := r.good
  obtain ⟨F', r1, r2, r3⟩ := hp _ (g.rep e)
  have main : Rel a ρ (G ++ [(vj, ⟨partMode m, dj⟩)]) σ H := by
    refine r.push r.ext (g.part e r1 (fun b hb => r2.subset hb) fun o b hb => ?_)
    obtain ⟨i, rfl⟩ := hm o
    exact r3 m b (edge_inl hb) (g.nd e o)
  cases dj with
  | w x =>
    obtain ⟨_, q⟩ := main.tmpRep
    exact r.pushW q.1
  | _ => exact main
/-- an iterator yields these rows -/
def Serves (a : Act) (J : L2.It) (R : Rows) (T' : List (V × SV)) (wv : List (Nat × V)) : Prop := ∀ i ρ G1 G2 σ H, Rel a ρ (G1 ++ T' ++ G2) σ H → stays R.watch ρ → (∀ q ∈ wv, σ[q.1]? = some (some q.2)) →
  (∀ r, R.rows[i]? = some r → J.go i H ∧ ∀ x H', J.yld i H x H' → RowIn a ρ (G1 ++ T' ++ G2) σ H' x r) ∧ (R.rows.length ≤ i → J.stop i H)
/-- the walked thing, at a turn -/
theorem SrcAt.at_ {T' : List (V × SV)} {wv : List (Nat × V)} {o : Op} {v : V} {ds : List D} (s : SrcAt a T' wv o v) (hs : seqOf o.d = some ds) {G1 G2 : List (V × SV)} (r : Rel a ρ (G1 ++ T' ++ G2) σ H) (st : stays o.watch ρ) (hw : ∀ q ∈ wv, σ[q.1]? = some (some q.2)) :
    ∃ b vs, v = .ref b ∧ (if isLst o.d = true then SqL a.K H b vs else SqT a.K H b vs) ∧ vs.length = ds.length ∧ ∀ (j : Nat) (dj : D), ds[j]? = some dj → ∃ vj, vs[j]? = some vj ∧ ∀ {G3 : List (V × SV)} {H' : Hp}, Rel a ρ (G1 ++ T' ++ G2 ++ G3) σ H' → Stab H H' → (∀ b, Mut (H b) → H' b = H b) → Rel a ρ (G1 ++ T' ++ G2 ++ G3 ++ [(vj, mkSV o.wm dj)]) σ H' := by
  obtain ⟨k, m, ek, hm, em⟩ := s ρ G1 G2 σ H r st hw
  obtain ⟨F, g⟩ := r.good
  obtain ⟨b, vs, rfl, q1, q2, q3⟩ := (g.rep ek).kind hs
  refine ⟨b, vs, rfl, q1, q2, fun j dj e => ?_⟩
  obtain ⟨vj, F', e1, e2, e3, e4⟩ := q3 j dj e
  refine ⟨vj, e1, fun {G3 H'} r' sb mu => ?_⟩
  rw [← em]
  have ek' : itm ρ (G1 ++ T' ++ G2 ++ G3) σ k = some (.ref b, ⟨m, o.d⟩) := itm_pre ek
  refine r'.pushPart ek' hm fun F2 rd2 => ?_
  have st1 : RD a.K H' o.d (.ref b) (F k) := (g.rep ek).stab sb fun c hc => mu c ((g.rep ek).dom c hc)
  have ef := st1.det rd2
  subst ef
  exact ⟨F', e2.stab sb fun c hc => mu c (e2.dom c hc), e3, e4⟩
theorem srv_seq {T' : List (V × SV)} {wv : List (Nat × V)} {o : Op} {b : Addr} {R : Rows} (s : SrcAt a T' wv o (.ref b)) (e : rowsSeq o = some R) : Serves a (if isLst o.d = true then Itl a.K b else Itt a.K b) R T' wv := by
  unfold rowsSeq at e
  split at e
  · rename_i ds eds
    cases e
    have row : ∀ {i : Nat} {r : List SV}, (ds.map fun d => [mkSV o.wm d])[i]? = some r → ∃ d, ds[i]? = some d ∧ r = [mkSV o.wm d] := fun {i r} er => by
      rw [List.getElem?_map] at er
      obtain ⟨d, ed, rfl⟩ := Option.map_eq_some_iff.mp er
      exact ⟨d, ed, rfl⟩
    by_cases hc : isLst o.d = true
    · rw [if_pos hc]
      intro i ρ G1 G2 σ H r st hw
      obtain ⟨b', vs, eb, sq, hl, it⟩ := s.at_ eds r st hw
      cases eb
      rw [if_pos hc] at sq
      constructor
      · intro rw' er
        obtain ⟨d, ed, rfl⟩ := row er
        obtain ⟨vj, e1, rr⟩ := it i d ed
        have rr' := rr (G3 := []) (by simpa using r) (Stab.refl _) fun _ _ => rfl
        rw [List.append_nil] at rr'
        exact ⟨⟨vs, vj, sq, e1⟩, fun x H' y => by
          obtain ⟨rfl, h⟩ := y
          have := h vs sq
          rw [e1] at this
          cases this
          exact .inl ⟨_, rfl, rr'⟩⟩
      · intro hi
        have hi : (ds.map _).length ≤ i := hi
        rw [List.length_map] at hi
        exact ⟨vs, sq, by omega⟩
    · rw [if_neg hc]
      intro i ρ G1 G2 σ H r st hw
      obtain ⟨b', vs, eb, sq, hl, it⟩ := s.at_ eds r st hw
      cases eb
      rw [if_neg hc] at sq
      constructor
      · intro rw' er
        obtain ⟨d, ed, rfl⟩ := row er
        obtain ⟨vj, e1, rr⟩ := it i d ed
        have rr' := rr (G3 := []) (by simpa using r) (Stab.refl _) fun _ _ => rfl
        rw [List.append_nil] at rr'
        exact ⟨⟨vs, vj, sq, e1⟩, fun x H' y => by
          obtain ⟨rfl, h⟩ := y
          have := h vs sq
          rw [e1] at this
          cases this
          exact .inl ⟨_, rfl, rr'⟩⟩
      · intro hi
        have hi : (ds.map _).length ≤ i := hi
        rw [List.length_map] at hi
        exact ⟨vs, sq, by omega⟩
  · cases e
theorem enum_get {α : Type} : ∀ {l : List α} {n i : Nat} {x : Nat × α}, (enumFrom n l)[i]? = some x → x.1 = n + i ∧ l[i]? = some x.2
  | [], _, _, _, h => by simp [enumFrom] at h
  | y :: l, n, 0, x, h => by
    simp only [enumFrom, List.getElem?_cons_zero, Option.some.injEq] at h
    subst h
    exact ⟨rfl, rfl⟩
  | y :: l, n, i + 1, x, h => by
    simp only [enumFrom, List.getElem?_cons_succ] at h
    obtain ⟨h1, h2⟩ := enum_get h
    exact ⟨by omega, by simpa using h2⟩
theorem enum_len {α : Type} : ∀ {l : List α} {n : Nat}, (enumFrom n l).length = l.length
  | [], _ => rfl
  | y :: l, n => by simp [enumFrom, enum_len]
theorem srv_enum {T' : List (V × SV)} {wv : List (Nat × V)} {o : Op} {b : Addr} {R : Rows} (s : SrcAt a T' wv o (.ref b)) (hk : isLst o.d = true) (e : rowsEnum o = some R) : Serves a (Ite a.K b) R T' wv := by
  intro i ρ G1 G2 σ H r st hw
  unfold rowsEnum at e
  split at e
  · rename_i ds eds
    cases e
    obtain ⟨b', vs, eb, sq, hl, it⟩ := s.at_ eds r st hw
    cases eb
    rw [if_pos hk] at sq
    constructor
    · intro row er
      rw [List.getElem?_map] at er
      obtain ⟨nd, ed, rfl⟩ := Option.map_eq_some_iff.mp er
      obtain ⟨n1, n2⟩ := enum_get ed
      rw [Nat.zero_add] at n1
      obtain ⟨vj, e1, rr⟩ := it i nd.2 n2
      refine ⟨⟨vs, vj, sq, e1⟩, fun x H' y => ?_⟩
      obtain ⟨t, x', rfl, hn, rfl, h⟩ := y
      have := h vs sq
      rw [e1] at this
      cases this
      have r1 := (r.laid (o := .tup [.int i, vj]) hn).pushW (v := .int i) (x := .int i) (m := .own) rfl
      have r2 := rr (G3 := [(.int i, sw (.int i))]) r1 (Stab.new hn) fun c hc => upd_ne (mut_ne_none hc hn)
      refine .inr ⟨t, [.int i, vj], rfl, upd_same, rfl, by simp, ?_⟩
      rw [n1]
      simpa using r2
    · intro hi
      have hi : ((enumFrom 0 ds).map _).length ≤ i := hi
      rw [List.length_map, enum_len] at hi
      exact ⟨vs, sq, by omega⟩
  · cases e
theorem srv_zip {T' : List (V × SV)} {wv : List (Nat × V)} {o o' : Op} {b b' : Addr} {R : Rows} (s : SrcAt a T' wv o (.ref b)) (s' : SrcAt a T' wv o' (.ref b')) (hk : sameKind o.d o'.d = true) (e : rowsZip o o' = some R) : Serves a (if isLst o.d = true then Itz a.K b b' else RZ.ItzT a.K b b') R T' wv := by
  have hk : isLst o.d = isLst o'.d := by simpa [sameKind] using hk
  unfold rowsZip at e
  split at e
  · rename_i ds es eds ees
    cases e
    have row : ∀ {i : Nat} {r : List SV}, ((ds.zip es).map fun de => [mkSV o.wm de.1, mkSV o'.wm de.2])[i]? = some r → ∃ de : D × D, ds[i]? = some de.1 ∧ es[i]? = some de.2 ∧ r = [mkSV o.wm de.1, mkSV o'.wm de.2] := fun {i r} er => by
      rw [List.getElem?_map] at er
      obtain ⟨de, ed, rfl⟩ := Option.map_eq_some_iff.mp er
      obtain ⟨n1, n2⟩ := List.getElem?_zip_eq_some.mp ed
      exact ⟨de, n1, n2, rfl⟩
    by_cases hc : isLst o.d = true
    · rw [if_pos hc]
      intro i ρ G1 G2 σ H r st hw
      obtain ⟨b1, vs, eb, sq, hl, it⟩ := s.at_ eds r (fun q hq => st q (List.mem_append_left _ hq)) hw
      cases eb
      obtain ⟨b2, us, eb, sq', hl', it'⟩ := s'.at_ ees r (fun q hq => st q (List.mem_append_right _ hq)) hw
      cases eb
      rw [if_pos hc] at sq
      rw [if_pos (by rw [← hk]; exact hc)] at sq'
      constructor
      · intro rw' er
        obtain ⟨de, n1, n2, rfl⟩ := row er
        obtain ⟨vj, e1, rr⟩ := it i de.1 n1
        obtain ⟨uj, e2, rr'⟩ := it' i de.2 n2
        exact ⟨⟨vs, us, vj, uj, sq, sq', e1, e2⟩, fun x H' y => by
          obtain ⟨t, x1, x2, rfl, hn, rfl, h1, h2⟩ := y
          have h1 := h1 vs sq
          have h2 := h2 us sq'
          rw [e1] at h1; cases h1
          rw [e2] at h2; cases h2
          have r1 := rr (G3 := []) (by simpa using r.laid (o := .tup [vj, uj]) hn) (Stab.new hn) fun c hc => upd_ne (mut_ne_none hc hn)
          rw [List.append_nil] at r1
          have r2 := rr' (G3 := [(vj, mkSV o.wm de.1)]) r1 (Stab.new hn) fun c hc => upd_ne (mut_ne_none hc hn)
          exact .inr ⟨t, [vj, uj], rfl, upd_same, rfl, by simp, by simpa using r2⟩⟩
      · intro hi
        have hi : ((ds.zip es).map _).length ≤ i := hi
        rw [List.length_map, List.length_zip] at hi
        exact ⟨vs, us, sq, sq', by omega⟩
    · rw [if_neg hc]
      intro i ρ G1 G2 σ H r st hw
      obtain ⟨b1, vs, eb, sq, hl, it⟩ := s.at_ eds r (fun q hq => st q (List.mem_append_left _ hq)) hw
      cases eb
      obtain ⟨b2, us, eb, sq', hl', it'⟩ := s'.at_ ees r (fun q hq => st q (List.mem_append_right _ hq)) hw
      cases eb
      rw [if_neg hc] at sq
      rw [if_neg (by rw [← hk]; exact hc)] at sq'
      constructor
      · intro rw' er
        obtain ⟨de, n1, n2, rfl⟩ := row er
        obtain ⟨vj, e1, rr⟩ := it i de.1 n1
        obtain ⟨uj, e2, rr'⟩ := it' i de.2 n2
        exact ⟨⟨vs, us, vj, uj, sq, sq', e1, e2⟩, fun x H' y => by
          obtain ⟨t, x1, x2, rfl, hn, rfl, h1, h2⟩ := y
          have h1 := h1 vs sq
          have h2 := h2 us sq'
          rw [e1] at h1; cases h1
          rw [e2] at h2; cases h2
          have r1 := rr (G3 := []) (by simpa using r.laid (o := .tup [vj, uj]) hn) (Stab.new hn) fun c hc => upd_ne (mut_ne_none hc hn)
          rw [List.append_nil] at r1
          have r2 := rr' (G3 := [(vj, mkSV o.wm de.1)]) r1 (Stab.new hn) fun c hc => upd_ne (mut_ne_none hc hn)
          exact .inr ⟨t, [vj, uj], rfl, upd_same, rfl, by simp, by simpa using r2⟩⟩
      · intro hi
        have hi : ((ds.zip es).map _).length ≤ i := hi
        rw [List.length_map, List.length_zip] at hi
        exact ⟨vs, us, sq, sq', by omega⟩
  · cases e
theorem srv_rng {lo : Int} {n : Nat} {T' : List (V × SV)} {wv : List (Nat × V)} : Serves a (L2.Itr lo n) (rangeRows lo n 1) T' wv := by
  intro i ρ G1 G2 σ H r st hw
  constructor
  · intro row er
    have er : ((List.range n).map fun (k : Nat) => [sw (.int (lo + (k : Int) * 1))])[i]? = some row := er
    rw [List.getElem?_map] at er
    obtain ⟨k, ek, rfl⟩ := Option.map_eq_some_iff.mp er
    obtain ⟨hi, rfl⟩ := List.getElem?_eq_some_iff.mp ek
    rw [List.length_range] at hi
    refine ⟨hi, fun x H' y => ?_⟩
    obtain ⟨rfl, rfl⟩ := y
    refine .inl ⟨_, rfl, r.pushW ?_⟩
    simp [RW]
  · intro hi
    have hi : ((List.range n).map _).length ≤ i := hi
    rw [List.length_map, List.length_range] at hi
    exact hi
theorem srv_rngC {lo c : Int} {n : Nat} {T' : List (V × SV)} {wv : List (Nat × V)} : Serves a (L2.Itc lo c n) (rangeRows lo n c) T' wv := by
  intro i ρ G1 G2 σ H r st hw
  constructor
  · intro row er
    have er : ((List.range n).map fun (k : Nat) => [sw (.int (lo + (k : Int) * c))])[i]? = some row := er
    rw [List.getElem?_map] at er
    obtain ⟨k, ek, rfl⟩ := Option.map_eq_some_iff.mp er
    obtain ⟨hi, rfl⟩ := List.getElem?_eq_some_iff.mp ek
    rw [List.length_range] at hi
    refine ⟨hi, fun x H' y => ?_⟩
    obtain ⟨rfl, rfl⟩ := y
    refine .inl ⟨_, rfl, r.pushW ?_⟩
    simp [RW]
  · intro hi
    have hi : ((List.range n).map _).length ≤ i := hi
    rw [List.length_map, List.length_range] at hi
    exact hi
end
end Wm
namespace Wm
open PySem PySem.Spec PyProof.Rows L2

theorem PI.mono {X : Cx} {tg e : Expr} {t t' : TI} (h : PI X tg e t) (k : ∀ σ H Q, t' σ H Q → t σ H Q) : PI X tg e t' := ⟨fun pins s σ H Q I q => h.run pins s σ H Q I (k σ H Q q)⟩
def tI (a : Act) (T : Tab) (Xc : Ex → REnv → Prop) (it : Itr) : TI := fun σ H K => ∃ p ρ G Q0, pf p G ∧ Rel a ρ G σ H ∧ wpI T Xc p it ρ Q0 ∧
  ∀ R ρ' T' wv H' J, Q0 R ρ' → Rel a ρ' (G ++ T') σ H' → pf (p || R.held) (G ++ T') → (∀ q ∈ wv, q.1 ∈ it.ws ∧ σ[q.1]? = some (some q.2)) → Serves a J R T' wv → K J H'
section
variable {X : Cx} {a : Act} {T : Tab} {CS : CkT} {N : List Str} {sc : Scope} {R : Nat} {Xc : Ex → REnv → Prop} {tg : Expr} {pos : Pos}
theorem pi_seq {l : Expr} {tl : TE} (hl : PE X l tl) : PI X tg l (fun σ H R => tl σ H fun x H1 => ∃ b, x = .ref b ∧ (((∃ xs, SqL X.K H1 b xs) ∧ R (Itl X.K b) H1) ∨ ((∃ xs, SqT X.K H1 b xs) ∧ R (Itt X.K b) H1))) := by
  refine ⟨fun pins s σ H R I h => ?_⟩
  refine thn (hl.run pins s σ H _ I h) fun v s1 ⟨x, H1, I1, r1, q1⟩ => ?_
  obtain ⟨a, e, ⟨⟨xs, hq⟩, q⟩ | ⟨⟨xs, hq⟩, q⟩⟩ := q1
  · subst e
    cases r1
    obtain ⟨its, rv, p, hz⟩ := I1.list hq
    refine wpAny_pyIter_list p.isList ?_
    refine ⟨s1.heap.objs.size, [s1.heap.objs.size], _, _, H1, rfl, I1.kept (t' := s1.toks) fun b o e => Heap.get?_push_of_some _ e, turn_list a _, ⟨_, Heap.get?_push_size _ rfl, rfl, rfl⟩, fun b hb => ?_, q⟩
    have e : b = s1.heap.objs.size := by simpa using hb
    subst e
    exact I1.fpOk (Nat.le_refl _) (I1.hok.fresh (Nat.le_refl _))
  · subst e
    cases r1
    obtain ⟨its, rv, p, hz⟩ := I1.tuple hq
    refine wpAny_pyIter_tuple (show s1.heap.IsTuple a its.toArray from p) ?_
    refine ⟨s1.heap.objs.size, [s1.heap.objs.size], _, _, H1, rfl, I1.kept (t' := s1.toks) fun b o e => Heap.get?_push_of_some _ e, turn_tuple a _, ⟨_, Heap.get?_push_size _ rfl, rfl, rfl⟩, fun b hb => ?_, q⟩
    have e : b = s1.heap.objs.size := by simpa using hb
    subst e
    exact I1.fpOk (Nat.le_refl _) (I1.hok.fresh (Nat.le_refl _))
theorem lateIn_wvs : ∀ {args : List Arg} {vs : List V} {is : List Nat}, lateIn args is = true → ∀ q ∈ wvs args vs, q.1 ∈ is
  | [], _, _, _, _, h => nomatch h
  | .late i :: as, v :: vs, is, h, q, hq => by
    simp only [lateIn, Bool.and_eq_true, List.contains_iff_mem] at h
    rcases List.mem_cons.mp hq with rfl | hq
    · exact h.1
    · exact lateIn_wvs h.2 q hq
  | .tmp _ _ :: as, v :: vs, is, h, q, hq => lateIn_wvs (args := as) h q hq
  | .late _ :: _, [], _, _, _, h => nomatch h
  | .tmp _ _ :: _, [], _, _, _, h => nomatch h
theorem held_T {ρ : REnv} {σ : St} : ∀ {args : List Arg} {T' : List (V × SV)} {vs : List V} {ops : List Op}, AR σ args T' vs → rds ρ args = some ops → (∀ o ∈ ops, heldB o = false) → ∀ y ∈ T', y.2.m = .brw → isW y.2.d = true
  | _, _, _, _, .nil, _, _, _, h => nomatch h
  | .late i :: as, _, _, ops, .late h h2, e, ho, y, hy => by
    simp only [rds] at e
    split at e
    · split at e
      · rename_i os eos
        cases e
        exact held_T h2 eos (fun o q => ho o (List.mem_cons_of_mem _ q)) y hy
      · cases e
    · cases e
  | .tmp m d :: as, _, _, ops, .tmp h2, e, ho, y, hy => by
    simp only [rds, rd] at e
    split at e
    · rename_i os eos
      cases e
      rcases List.mem_cons.mp hy with rfl | hy
      · intro em
        have em : m = .brw := em
        subst em
        have := ho _ List.mem_cons_self
        cases d <;> first | rfl | cases this
      · exact held_T h2 eos (fun o q => ho o (List.mem_cons_of_mem _ q)) y hy
    · cases e
theorem pf_dem {ρ : REnv} {σ : St} {G : List (V × SV)} {p h : Bool} {args : List Arg} {T' : List (V × SV)} {vs : List V} {ops : List Op} (hp : pf p G) (ar : AR σ args T' vs) (e : rds ρ args = some ops) (hh : h = false → ∀ o ∈ ops, heldB o = false) : pf (p || h) (G ++ T'.map dem) := by
  intro ep y hy m
  rw [Bool.or_eq_false_iff] at ep
  rcases List.mem_append.mp hy with hy | hy
  · exact hp ep.1 y hy m
  · obtain ⟨z, hz, rfl⟩ := List.mem_map.mp hy
    refine held_T ar e (hh ep.2) z hz ?_
    obtain ⟨v, m', d⟩ := z
    have m : demM m' = .brw := m
    cases m' <;> first | rfl | cases m
theorem pi_seqW (hK : X.K = a.K) {e : E} {l : Expr} (hx : PE X l (tAr a T Xc e)) : PI X tg l (tI a T Xc (.seq (.cons e .nil))) :=
  PI.mono (pi_seq hx) fun σ H K h => by
    obtain ⟨p, ρ, G, Q0, hp, rel, q, f⟩ := h
    refine tAr_mono (fun v H1 z => ?_) (tAs_one (R := fun vs H1 => ∃ b, vs = [.ref b] ∧ (((∃ xs, SqL X.K H1 b xs) ∧ K (Itl X.K b) H1) ∨ ((∃ xs, SqT X.K H1 b xs) ∧ K (Itt X.K b) H1))) ⟨p, ρ, G, _, hp, rel, q, fun args ρ' T' vs H' q' ar r => ?_⟩)
    · obtain ⟨b, eb, z⟩ := z
      cases eb
      exact ⟨b, rfl, z⟩
    · obtain ⟨hl, q'⟩ := q'
      split at q'
      · rename_i o eo
        split at q'
        · rename_i R0 eR
          obtain ⟨v, rfl, sv⟩ := paired1 (AR.srcs (a := a) ar eo (wvs args vs) [] fun q h => h)
          obtain ⟨v', ev, ho⟩ := paired1 (ar.ops (G0 := G) (n := 0) r eo rfl (Nat.zero_le _))
          cases ev
          obtain ⟨F, rd⟩ := ho.rd r
          have eR' := eR
          unfold rowsSeq at eR'
          split at eR'
          · rename_i ds eds
            cases eR'
            obtain ⟨b, us, rfl, sq, _⟩ := rd.kind eds
            have sv' : SrcAt a (T'.map dem) (wvs args [V.ref b]) o (.ref b) := by simpa using sv
            have sr := srv_seq sv' eR
            have fin := f _ ρ' (T'.map dem) (wvs args [V.ref b]) H' _ q' r.demote (pf_dem hp ar eo fun h o' ho' => by cases List.mem_singleton.mp ho'; exact h) (fun q hq => ⟨lateIn_wvs hl q hq, ar.wvs_ok q hq⟩) sr
            refine ⟨b, rfl, ?_⟩
            rw [hK]
            by_cases hc : isLst o.d = true
            · rw [if_pos hc] at fin sq
              exact .inl ⟨⟨us, sq⟩, fin⟩
            · rw [if_neg hc] at fin sq
              exact .inr ⟨⟨us, sq⟩, fin⟩
          · cases eR'
        · exact q'.elim
      · exact q'.elim
theorem pi_enumW (c : Ctx X a T CS N sc R) {f t e' : Expr} {e : E} (ht : (vTuple t).isSome = true) (hf : chkGl sc "enumerate" f = true) (hx : PE X e' (tAr a T Xc e)) (hp : plainE e' = true) : PI X t (.Call f [e'] [] pos) (tI a T Xc (.enum (.cons e .nil))) := by
  obtain ⟨es, ht⟩ := Option.isSome_iff_exists.mp ht
  obtain ⟨k, p, rfl⟩ := vTuple_inv ht
  obtain ⟨p0, rfl, hg, ho⟩ := chkGl_inv hf
  have hK := c.hK
  refine PI.mono (pi_enum (c.gl hg) (c.blt _ (by decide)) (pa_cons hx pa_nil (star_plain _ _ hp)) (star_plain _ _ hp)) fun σ H K h => ?_
  obtain ⟨p, ρ, G, Q0, hp, rel, q, f⟩ := h
  refine tAr_mono (fun v H1 z => z) (tAs_one (R := fun vs H1 => ∃ b xs, vs = [.ref b] ∧ SqL X.K H1 b xs ∧ K (Ite X.K b) H1) ⟨p, ρ, G, _, hp, rel, q, fun args ρ' T' vs H' q' ar r => ?_⟩)
  obtain ⟨hl, q'⟩ := q'
  split at q'
  · rename_i o eo
    obtain ⟨hk, q'⟩ := q'
    split at q'
    · rename_i R0 eR
      obtain ⟨v, rfl, sv⟩ := paired1 (AR.srcs (a := a) ar eo (wvs args vs) [] fun q h => h)
      obtain ⟨v', ev, ho⟩ := paired1 (ar.ops (G0 := G) (n := 0) r eo rfl (Nat.zero_le _))
      cases ev
      obtain ⟨F, rd⟩ := ho.rd r
      have eR' := eR
      unfold rowsEnum at eR'
      split at eR'
      · rename_i ds eds
        cases eR'
        obtain ⟨b, us, rfl, sq, _⟩ := rd.kind eds
        have sv' : SrcAt a (T'.map dem) (wvs args [V.ref b]) o (.ref b) := by simpa using sv
        have sr := srv_enum sv' hk eR
        have fin := f _ ρ' (T'.map dem) (wvs args [V.ref b]) H' _ q' r.demote (pf_dem hp ar eo fun h o' ho' => by cases List.mem_singleton.mp ho'; exact h) (fun q hq => ⟨lateIn_wvs hl q hq, ar.wvs_ok q hq⟩) sr
        rw [if_pos hk] at sq
        rw [hK]
        exact ⟨b, us, rfl, sq, fin⟩
      · cases eR'
    · exact q'.elim
  · exact q'.elim
theorem pi_zipW (c : Ctx X a T CS N sc R) {f t e1 e2 : Expr} {x y : E} (ht : (vTuple t).isSome = true) (hf : chkGl sc "zip" f = true) (hx : PE X e1 (tAr a T Xc x)) (hy : PE X e2 (tAr a T Xc y)) (hp : plainE e1 = true) (hp2 : plainE e2 = true) : PI X t (.Call f [e1, e2] [] pos) (tI a T Xc (.zip (.cons x (.cons y .nil)))) := by
  obtain ⟨es, ht⟩ := Option.isSome_iff_exists.mp ht
  obtain ⟨k, p, rfl⟩ := vTuple_inv ht
  obtain ⟨p0, rfl, hg, ho⟩ := chkGl_inv hf
  have hK := c.hK
  refine PI.mono (RZ.pi_zipA (c.gl hg) (c.blt _ (by decide)) (pa_cons hx (pa_cons hy pa_nil (star_plain _ _ hp2)) (star_plain _ _ hp)) (star_plain _ _ hp) (hpl_of _ fun e he => by cases List.mem_singleton.mp he; exact hp2)) fun σ H K h => ?_
  obtain ⟨p, ρ, G, Q0, hp, rel, q, f⟩ := h
  refine tAr_mono (fun v H1 z => tAr_mono (fun u H2 z => z) z) (tAs_two (R := fun vs H1 => ∃ a b xs ys, vs = [.ref a, .ref b] ∧ ((SqL X.K H1 a xs ∧ SqL X.K H1 b ys ∧ K (Itz X.K a b) H1) ∨ (SqT X.K H1 a xs ∧ SqT X.K H1 b ys ∧ K (RZ.ItzT X.K a b) H1))) ⟨p, ρ, G, _, hp, rel, q, fun args ρ' T' vs H' q' ar r => ?_⟩)
  obtain ⟨hl, q'⟩ := q'
  split at q'
  · rename_i o o' eo
    obtain ⟨hk, q'⟩ := q'
    split at q'
    · rename_i R0 eR
      obtain ⟨v, u, rfl, sv, su⟩ := paired2 (AR.srcs (a := a) ar eo (wvs args vs) [] fun q h => h)
      obtain ⟨v', u', ev, ho, ho'⟩ := paired2 (ar.ops (G0 := G) (n := 0) r eo rfl (Nat.zero_le _))
      cases ev
      obtain ⟨F, rd⟩ := ho.rd r
      obtain ⟨F2, rd2⟩ := ho'.rd r
      have eR' := eR
      unfold rowsZip at eR'
      split at eR'
      · rename_i ds es' eds ees
        cases eR'
        obtain ⟨b, us, rfl, sq, _⟩ := rd.kind eds
        obtain ⟨b2, us2, rfl, sq2, _⟩ := rd2.kind ees
        have sv' : SrcAt a (T'.map dem) (wvs args [V.ref b, V.ref b2]) o (.ref b) := by simpa using sv
        have su' : SrcAt a (T'.map dem) (wvs args [V.ref b, V.ref b2]) o' (.ref b2) := by simpa using su
        have sr := srv_zip sv' su' hk eR
        have fin := f _ ρ' (T'.map dem) (wvs args [V.ref b, V.ref b2]) H' _ q' r.demote (pf_dem hp ar eo fun h o3 ho3 => by
          have h : (heldB o || heldB o') = false := h
          rw [Bool.or_eq_false_iff] at h
          rcases List.mem_cons.mp ho3 with rfl | ho3
          · exact h.1
          · cases List.mem_singleton.mp ho3; exact h.2) (fun q hq => ⟨lateIn_wvs hl q hq, ar.wvs_ok q hq⟩) sr
        have hk' : isLst o.d = isLst o'.d := by simpa [sameKind] using hk
        rw [hK]
        refine ⟨b, b2, us, us2, rfl, ?_⟩
        by_cases hc : isLst o.d = true
        · rw [if_pos hc] at fin sq
          rw [if_pos (by rw [← hk']; exact hc)] at sq2
          exact .inl ⟨sq, sq2, fin⟩
        · rw [if_neg hc] at fin sq
          rw [if_neg (by rw [← hk']; exact hc)] at sq2
          exact .inr ⟨sq, sq2, fin⟩
      · cases eR'
    · exact q'.elim
  · exact q'.elim
theorem rngOp {ρ : REnv} {σ : St} {G T' : List (V × SV)} {H : Hp} {o : Op} {v : V} {j : Int} (r : Rel a ρ (G ++ T') σ H) (h : OpAt (itm ρ (G ++ T') σ) 0 o v) (e : o.d = .w (.int j)) : v = .int j := by
  obtain ⟨F, rd⟩ := h.rd r
  rw [e] at rd
  exact rd.1
theorem pi_rngW (c : Ctx X a T CS N sc R) {f : Expr} {es : List Expr} {as : Es} (hf : chkGl sc "range" f = true) (ha : PA X es (tL a T Xc as)) (hp : ∀ e ∈ es, plainE e = true) (hl : es.length = as.len) (h3 : as.len = 1 ∨ as.len = 2 ∨ as.len = 3) : PI X tg (.Call f es [] pos) (tI a T Xc (.rng as)) := by
  obtain ⟨p0, rfl, hg, ho⟩ := chkGl_inv hf
  have hK := c.hK
  have G0 := c.gl hg
  have M0 : X.mg "range" = none := c.blt _ (by decide)
  have key : ∀ {σ : St} {H : Hp} {K : L2.It → Hp → Prop}, tI a T Xc (.rng as) σ H K → tAs a T Xc as σ H fun vs H1 =>
      (∃ j : Int, vs = [.int j] ∧ -(2 ^ 62) ≤ j ∧ j < 2 ^ 62 ∧ K (L2.Itr 0 j.toNat) H1) ∨ (∃ i j : Int, vs = [.int i, .int j] ∧ (-(2 ^ 62) ≤ i ∧ i < 2 ^ 62 ∧ -(2 ^ 62) ≤ j ∧ j < 2 ^ 62) ∧ K (L2.Itr i (j - i).toNat) H1) ∨
      (∃ (i j c : Int) (n : Nat), vs = [.int i, .int j, .int c] ∧ RgC i j c n ∧ K (Itc i c n) H1) := fun {σ H K} h => by
    obtain ⟨p, ρ, G, Q0, hp, rel, q, f⟩ := h
    refine ⟨p, ρ, G, _, hp, rel, q, fun args ρ' T' vs H' q' ar r => ?_⟩
    have go : ∀ {J : L2.It} {R0 : Rows}, Q0 R0 ρ' → R0.held = false → Serves a J R0 [] [] → K J H' := fun {J R0} q0 hh sr => f R0 ρ' [] [] H' J q0 (by rw [List.append_nil]; exact r.pre) (by rw [hh, Bool.or_false, List.append_nil]; exact hp) (fun _ h => nomatch h) sr
    split at q'
    · rename_i ops eo
      have pr := ar.ops (G0 := G) (n := 0) r eo rfl (Nat.zero_le _)
      unfold rngWp at q'
      split at q'
      · split at q'
        · rename_i e1
          obtain ⟨v, rfl, h1⟩ := paired1 pr
          cases rngOp r h1 e1
          exact .inl ⟨_, rfl, q'.1.1, q'.1.2, go q'.2 rfl srv_rng⟩
        · exact q'.elim
      · split at q'
        · rename_i e1 e2
          obtain ⟨v, u, rfl, h1, h2⟩ := paired2 pr
          cases rngOp r h1 e1
          cases rngOp r h2 e2
          exact .inr (.inl ⟨_, _, rfl, ⟨q'.1.1, q'.1.2, q'.2.1.1, q'.2.1.2⟩, go q'.2.2 rfl srv_rng⟩)
        · exact q'.elim
      · split at q'
        · rename_i e1 e2 e3
          obtain ⟨v, u, w, rfl, h1, h2, h3⟩ := paired3 pr
          cases rngOp r h1 e1
          cases rngOp r h2 e2
          cases rngOp r h3 e3
          obtain ⟨n, hn, q'⟩ := q'
          exact .inr (.inr ⟨_, _, _, n, rfl, hn, go q' rfl srv_rngC⟩)
        · exact q'.elim
      · exact q'.elim
    · exact q'.elim
  have lenK : ∀ {σ : St} {H : Hp} {Rr : List V → Hp → Prop}, tAs a T Xc as σ H Rr → tL a T Xc as σ H fun vs H' => vs.length = as.len ∧ Rr vs H' := fun h => tL_len (tL_of h)
  match es, hl, ha, hp with
  | [], hl, _, _ =>
    have hl : 0 = as.len := hl
    omega
  | [e1], hl, ha, hp =>
    have hl : 1 = as.len := hl
    refine PI.mono (pi_range1 G0 M0 ha (star_plain _ _ (hp e1 (by simp)))) fun σ H K h => tL_mono (fun vs H' q => ?_) (lenK (key h))
    obtain ⟨ql, q | q | q⟩ := q
    · exact q
    · obtain ⟨_, _, rfl, _⟩ := q; simp at ql; omega
    · obtain ⟨_, _, _, _, rfl, _⟩ := q; simp at ql; omega
  | [e1, e2], hl, ha, hp =>
    have hl : 2 = as.len := hl
    refine PI.mono (pi_range2 G0 M0 ha (by rw [star_plain _ _ (hp e1 (by simp)), star_plain _ _ (hp e2 (by simp))]; rfl) (by rw [star_plain _ _ (hp e2 (by simp))]; rfl)) fun σ H K h => tL_mono (fun vs H' q => ?_) (lenK (key h))
    obtain ⟨ql, q | q | q⟩ := q
    · obtain ⟨_, rfl, _⟩ := q; simp at ql; omega
    · exact q
    · obtain ⟨_, _, _, _, rfl, _⟩ := q; simp at ql; omega
  | [e1, e2, e3], hl, ha, hp =>
    have hl : 3 = as.len := hl
    refine PI.mono (pi_range3 G0 M0 ha (star_plain _ _ (hp e1 (by simp))) (hpl_of _ fun e he => hp e (List.mem_cons_of_mem _ he))) fun σ H K h => tL_mono (fun vs H' q => ?_) (lenK (key h))
    obtain ⟨ql, q | q | q⟩ := q
    · obtain ⟨_, rfl, _⟩ := q; simp at ql; omega
    · obtain ⟨_, _, rfl, _⟩ := q; simp at ql; omega
    · exact q
  | e1 :: e2 :: e3 :: e4 :: es, hl, _, _ =>
    have hl : es.length + 4 = as.len := by simpa using hl
    omega
end
end Wm
namespace Wm
open PySem PySem.Spec PyProof.Rows L2

section
variable {a : Act} {ρ : REnv} {G : List (V × SV)} {σ : St} {H : Hp}
theorem wipeR_some {ρ : REnv} {i : Nat} {x : SV} : ∀ {vs : List Nat}, (wipeR ρ vs)[i]? = some (some x) → ρ[i]? = some (some x)
  | [], h => h
  | v :: vs, h => by
    unfold wipeR at h
    by_cases hi : v = i
    · subst hi
      by_cases hv : v < (wipeR ρ vs).length
      · rw [List.getElem?_set_self hv] at h; cases h
      · rw [List.getElem?_eq_none (by rw [List.length_set]; omega)] at h; cases h
    · rw [List.getElem?_set_ne hi] at h
      exact wipeR_some h
theorem wipeR_not {ρ : REnv} {i : Nat} {x : SV} : ∀ {vs : List Nat}, (wipeR ρ vs)[i]? = some (some x) → i ∉ vs
  | [], _ => by simp
  | v :: vs, h => by
    unfold wipeR at h
    by_cases hi : v = i
    · subst hi
      by_cases hv : v < (wipeR ρ vs).length
      · rw [List.getElem?_set_self hv] at h; cases h
      · rw [List.getElem?_eq_none (by rw [List.length_set]; omega)] at h; cases h
    · rw [List.getElem?_set_ne hi] at h
      intro q
      rcases List.mem_cons.mp q with q | q
      · exact hi q.symm
      · exact wipeR_not h q
theorem wipeR_len {ρ : REnv} : ∀ {vs : List Nat}, (wipeR ρ vs).length = ρ.length
  | [] => rfl
  | v :: vs => by unfold wipeR; rw [List.length_set, wipeR_len]
theorem Rel.wipe (r : Rel a ρ G σ H) {vs : List Nat} (hp : ∀ q ∈ a.pr, q.1 ∉ vs) : Rel a (wipeR ρ vs) G (L2.wipe σ vs) H := by
  obtain ⟨F, g⟩ := r.good
  refine ⟨by rw [wipeR_len, wipe_length]; exact r.len, fun i s e => ?_, fun q hq => ?_, r.ext, F, g.sub fun k x e => ?_⟩
  · obtain ⟨v, ev⟩ := r.sl i s (wipeR_some e)
    exact ⟨v, by rw [wipe_out (wipeR_not e)]; exact ev⟩
  · rw [wipe_out (hp q hq)]; exact r.pr q hq
  · cases k with
    | inr j => exact e
    | inl i =>
      obtain ⟨e1, e2⟩ := itm_slot_inv e
      exact itm_slot (wipeR_some e1) (wipe_some e2).1
theorem Rel.unwipe {vs : List Nat} (r : Rel a ρ G (L2.wipe σ vs) H) (hp : ∀ q ∈ a.pr, σ[q.1]? = some (some q.2)) : Rel a ρ G σ H := by
  obtain ⟨F, g⟩ := r.good
  refine ⟨by rw [r.len, wipe_length], fun i s e => ?_, hp, r.ext, F, g.sub fun k x e => ?_⟩
  · obtain ⟨v, ev⟩ := r.sl i s e
    exact ⟨v, (wipe_some ev).1⟩
  · cases k with
    | inr j => exact e
    | inl i =>
      obtain ⟨e1, e2⟩ := itm_slot_inv e
      obtain ⟨v, ev⟩ := r.sl i _ e1
      have := (wipe_some ev).1
      rw [e2] at this
      cases this
      exact itm_slot e1 ev
/-- an item more in the list that is made -/
theorem Rel.accPut {D0 : Addr} {acc : List D} {y : V} {s : SV} {d : D} (r : Rel a ρ (G ++ [(.ref D0, ⟨.own, .lst acc⟩)] ++ [(y, s)]) σ H) (hd : ownD s = some d) :
    ∃ us, H D0 = some (.lst us) ∧ us.length = acc.length ∧ Rel a ρ (G ++ [(.ref D0, ⟨.own, .lst (acc ++ [d])⟩)]) σ (upd H D0 (.lst (us ++ [y]))) := by
  obtain ⟨F, g⟩ := r.good
  have eD : itm ρ (G ++ [(.ref D0, ⟨.own, .lst acc⟩)] ++ [(y, s)]) σ (.inr G.length) = some (.ref D0, ⟨.own, .lst acc⟩) := by
    show (G ++ [(.ref D0, ⟨.own, .lst acc⟩)] ++ [(y, s)])[G.length]? = _
    simp
  have eY : itm ρ (G ++ [(.ref D0, ⟨.own, .lst acc⟩)] ++ [(y, s)]) σ (.inr (G.length + 1)) = some (y, s) := by
    show (G ++ [(.ref D0, ⟨.own, .lst acc⟩)] ++ [(y, s)])[G.length + 1]? = _
    simp
  obtain ⟨b, us, G0, eb, hb, rd, ef⟩ := g.rep eD
  cases eb
  have ry := g.rep eY
  have hs : s.d = d ∧ (isW s.d = true ∨ s.m = .own) := by
    obtain ⟨m, d'⟩ := s
    cases d' with
    | w x => cases hd; exact ⟨rfl, .inl rfl⟩
    | _ =>
      cases m with
      | own => cases hd; exact ⟨rfl, .inr rfl⟩
      | _ => cases hd
  have nY : (F (.inr (G.length + 1))).Nodup := by
    rcases hs.2 with h | h
    · rw [ry.wF h]; exact List.nodup_nil
    · exact g.nd eY h
  have mY : ∀ c ∈ F (.inr (G.length + 1)), a.H0 c = none ∨ a.M c := by
    rcases hs.2 with h | h
    · rw [ry.wF h]; exact fun _ h => nomatch h
    · exact g.mine eY h
  have dY : ∀ k x, k ≠ .inr (G.length + 1) → itm ρ (G ++ [(.ref D0, ⟨.own, .lst acc⟩)] ++ [(y, s)]) σ k = some x → ∀ c ∈ F (.inr (G.length + 1)), c ∉ F k := by
    rcases hs.2 with h | h
    · rw [ry.wF h]; exact fun _ _ _ _ _ h => nomatch h
    · intro k x nk ek c hc
      by_cases hm : x.2.m = .brw
      · exact g.top (Ne.symm nk) eY ek h hm hc
      · exact g.dis (Ne.symm nk) eY ek h hm c hc
  have dD : ∀ k x, k ≠ .inr G.length → itm ρ (G ++ [(.ref D0, ⟨.own, .lst acc⟩)] ++ [(y, s)]) σ k = some x → ∀ c ∈ F (.inr G.length), c ∉ F k := by
    intro k x nk ek c hc
    by_cases hm : x.2.m = .brw
    · exact g.top (Ne.symm nk) eD ek rfl hm hc
    · exact g.dis (Ne.symm nk) eD ek rfl hm c hc
  have old : ∀ k x, itm ρ G σ k = some x → itm ρ (G ++ [(.ref D0, ⟨.own, .lst acc⟩)] ++ [(y, s)]) σ k = some x ∧ k ≠ .inr G.length ∧ k ≠ .inr (G.length + 1) := fun k x e => by
    refine ⟨itm_pre (itm_pre e), fun z => ?_, fun z => ?_⟩
    · subst z; have := itm_lt e; omega
    · subst z; have := itm_lt e; omega
  have nD := g.nd eD rfl
  have D0m : D0 ∈ F (.inr G.length) := by rw [ef]; exact List.mem_cons_self
  have mu : Mut (H D0) := by rw [hb]; trivial
  have g1 : Good a.K a.H0 a.M (upd H D0 (.lst (us ++ [y]))) (itm ρ G σ) F := (g.sub fun k x e => (old k x e).1).heap (Stab.mut mu) fun k x e c hc => upd_ne fun z => by
    obtain ⟨e1, e2, e3⟩ := old k x e
    exact dD k x e2 e1 D0 D0m (z ▸ hc)
  have nb : D0 ∉ G0 := by rw [ef] at nD; exact (List.nodup_cons.mp nD).1
  have nbY : D0 ∉ F (.inr (G.length + 1)) := fun h => dD _ _ (by simp) eY D0 D0m h
  have rd2 : RD a.K (upd H D0 (.lst (us ++ [y]))) (.lst (acc ++ [d])) (.ref D0) (D0 :: (G0 ++ F (.inr (G.length + 1)))) := by
    refine ⟨D0, us ++ [y], _, rfl, upd_same, RDs.append (rd.stab (Stab.mut mu) fun c hc => upd_ne fun z => nb (z ▸ hc)) ⟨y, [], _, [], rfl, ?_, ⟨rfl, rfl⟩, (List.append_nil _).symm⟩, rfl⟩
    rw [← hs.1]
    exact ry.stab (Stab.mut mu) fun c hc => upd_ne fun z => nbY (z ▸ hc)
  have part : ∀ c ∈ D0 :: (G0 ++ F (.inr (G.length + 1))), c ∈ F (.inr G.length) ∨ c ∈ F (.inr (G.length + 1)) := fun c hc => by
    rcases List.mem_cons.mp hc with rfl | hc
    · exact .inl D0m
    · rcases List.mem_append.mp hc with h | h
      · rw [ef]; exact .inl (List.mem_cons_of_mem _ h)
      · exact .inr h
  have off : ∀ k x, itm ρ G σ k = some x → ∀ c ∈ D0 :: (G0 ++ F (.inr (G.length + 1))), c ∉ F k := fun k x e c hc => by
    obtain ⟨e1, e2, e3⟩ := old k x e
    rcases part c hc with h | h
    · exact dD k x e2 e1 c h
    · exact dY k x e3 e1 c h
  refine ⟨us, hb, rd.length.symm, ?_⟩
  refine Rel.push (H := H) (F := F) (F0 := D0 :: (G0 ++ F (.inr (G.length + 1)))) r.pre.pre (fun c u ec mc => ?_) (g1.add (s := ⟨.own, .lst (acc ++ [d])⟩) rd2 (fun _ => ?_) (fun _ c hc => ?_) (fun _ k x _ e _ c hc => off k x e c hc) (fun e => (e rfl).elim) (fun _ k x c _ e _ hc => off k x e c hc) fun e => nomatch e)
  · have hcb : c ≠ D0 := fun h => by
      subst h
      rcases g.mine eD rfl c D0m with z | z
      · rw [z] at ec; cases ec
      · exact mc z
    rw [upd_ne hcb]
    exact r.ext c u ec mc
  · refine List.nodup_cons.mpr ⟨fun h => ?_, List.nodup_append.mpr ⟨?_, nY, fun c hc c' hc' e => ?_⟩⟩
    · rcases List.mem_append.mp h with h | h
      · exact nb h
      · exact nbY h
    · rw [ef] at nD; exact (List.nodup_cons.mp nD).2
    · subst e
      exact dD _ _ (by simp) eY c (by rw [ef]; exact List.mem_cons_of_mem _ hc) hc'
  · rcases part c hc with h | h
    · exact g.mine eD rfl c h
    · exact mY c h
end
section
variable {a : Act} {T : Tab} {Xc : Ex → REnv → Prop}
/-- the turns -/
theorem lc_go {J : L2.It} {R : Rows} {T' G : List (V × SV)} {wv : List (Nat × V)} {vs : List Nat} {σ : St} {H1 : Hp} {D0 : Addr} {ρ0 : REnv} {turn : List SV → REnv → (Option D → REnv → Prop) → Prop} {Qf : List D → REnv → Prop} {Q : VK} {BODY : V → Hp → (Hp → Prop) → Prop}
    (sr : Serves a J R T' wv) (hw : ∀ q ∈ wv, q.1 ∉ vs ∧ σ[q.1]? = some (some q.2)) (h0 : lcW R.watch turn R.rows [] ρ0 Qf) (r0 : Rel a ρ0 (G ++ T' ++ [(.ref D0, ⟨.own, .lst []⟩)]) (L2.wipe σ vs) (upd H1 D0 (.lst [])))
    (fin : ∀ acc ρ H, Qf acc ρ → Rel a ρ (G ++ T' ++ [(.ref D0, ⟨.own, .lst acc⟩)]) (L2.wipe σ vs) H → Q (.ref D0) H)
    (step : ∀ r ρ acc x H' (L : List D → REnv → Prop) (Nx : Hp → Prop), turn r ρ (fun o ρ' => match o with | some d => acc.length < sizeLine ∧ L (acc ++ [d]) ρ' | none => L acc ρ') → RowIn a ρ (G ++ T' ++ [(.ref D0, ⟨.own, .lst acc⟩)]) (L2.wipe σ vs) H' x r →
      (∀ acc' ρ' H'', L acc' ρ' → Rel a ρ' (G ++ T' ++ [(.ref D0, ⟨.own, .lst acc'⟩)]) (L2.wipe σ vs) H'' → Nx H'') → BODY x H' Nx) :
    ∃ W : Nat → Nat → Hp → Prop, (∃ m, W 0 m (upd H1 D0 (.lst []))) ∧ ∀ i m H, W i m H → (J.stop i H ∧ Q (.ref D0) H) ∨ (J.go i H ∧ ∃ Nx : Hp → Prop, (∀ H', Nx H' → ∃ m', m' < m ∧ W (i + 1) m' H') ∧ ∀ x H', J.yld i H x H' → BODY x H' Nx) := by
  refine ⟨fun i m H => m = R.rows.length - i ∧ i ≤ R.rows.length ∧ ∃ acc ρi, lcW R.watch turn (R.rows.drop i) acc ρi Qf ∧ Rel a ρi (G ++ T' ++ [(.ref D0, ⟨.own, .lst acc⟩)]) (L2.wipe σ vs) H, ⟨_, rfl, Nat.zero_le _, [], ρ0, h0, r0⟩, fun i m H w => ?_⟩
  obtain ⟨em, hi, acc, ρi, hl, rel⟩ := w
  have hw' : ∀ q ∈ wv, (L2.wipe σ vs)[q.1]? = some (some q.2) := fun q hq => by rw [wipe_out (hw q hq).1]; exact (hw q hq).2
  cases hr : R.rows.drop i with
  | nil =>
    rw [hr] at hl
    have : R.rows.length ≤ i := List.drop_eq_nil_iff.mp hr
    exact .inl ⟨(sr i ρi G _ _ H rel hl.1 hw').2 this, fin acc ρi H hl.2 rel⟩
  | cons r rs =>
    rw [hr] at hl
    obtain ⟨st, ht⟩ := hl
    have hlt : i < R.rows.length := by
      have := congrArg List.length hr
      rw [List.length_drop, List.length_cons] at this
      omega
    have hri : R.rows[i]? = some r := by
      have := List.getElem?_drop (xs := R.rows) (i := i) (j := 0)
      rw [hr] at this
      simpa using this.symm
    have hrs : R.rows.drop (i + 1) = rs := by
      rw [← List.tail_drop, hr]
      rfl
    obtain ⟨go, yl⟩ := (sr i ρi G _ _ H rel st hw').1 r hri
    refine .inr ⟨go, fun H' => ∃ acc' ρ', lcW R.watch turn rs acc' ρ' Qf ∧ Rel a ρ' (G ++ T' ++ [(.ref D0, ⟨.own, .lst acc'⟩)]) (L2.wipe σ vs) H', fun H' ⟨acc', ρ', q1, q2⟩ => ⟨R.rows.length - (i + 1), by omega, rfl, hlt, acc', ρ', by rw [hrs]; exact q1, q2⟩, fun x H' hy => ?_⟩
    exact step r ρi acc x H' (fun acc' ρ' => lcW R.watch turn rs acc' ρ' Qf) _ ht (yl x H' hy) fun acc' ρ' H'' q1 q2 => ⟨acc', ρ', q1, q2⟩
end
end Wm
namespace Wm
open PySem PySem.Spec PyProof.Rows L2

theorem iteT {b : Bool} {A B : Prop} (h : A) (e : b = true := by rfl) : if b = true then A else B := by rw [if_pos e]; exact h
theorem iteF {b : Bool} {A B : Prop} (h : B) (e : b = false := by rfl) : if b = true then A else B := by rw [e, if_neg (by decide)]; exact h
theorem lookup_rel {c : Str → NameKind → Bool} : ∀ {names : List (Str × NameKind)} {x : Str} {k : NameKind}, names.lookup x = some k → (names.map fun p => if c p.1 p.2 = true then (p.1, NameKind.cell) else (p.1, p.2)).lookup x = some (if c x k = true then .cell else k)
  | [], _, _, h => by simp at h
  | (n, k') :: r, x, k, h => by
    rw [List.lookup_cons] at h
    show List.lookup x ((if c n k' = true then (n, NameKind.cell) else (n, k')) :: _) = _
    cases hx : x == n with
    | true =>
      rw [hx] at h
      cases h
      have e : x = n := by simpa using hx
      subst e
      by_cases hc : c x k' = true
      · rw [if_pos hc, if_pos hc, List.lookup_cons, hx]
      · rw [if_neg hc, if_neg hc, List.lookup_cons, hx]
    | false =>
      rw [hx] at h
      by_cases hc : c n k' = true
      · rw [if_pos hc, List.lookup_cons, hx]; exact lookup_rel h
      · rw [if_neg hc, List.lookup_cons, hx]; exact lookup_rel h
section
variable {X : Cx} {a : Act} {T : Tab} {CS : CkT} {N : List Str} {sc : Scope} {R : Nat} {Xc : Ex → REnv → Prop}
theorem Ctx.blkOk (c : Ctx X a T CS N sc R) {s2 : Scope} {own : List (Str × Nat)} (h : blkC N sc s2 own = true) : BlkOk X.N X.env.scope s2 own := by
  have b := blkOk_by h
  refine ⟨b.kind, b.uniq, by rw [c.hN]; exact b.ix, fun y hy e => ?_, by rw [c.hN]; exact b.own⟩
  rcases b.free y hy e with q | q
  · exact .inl ((c.scp _ _ q).2 (by decide))
  · exact (c.scp _ _ q).1 rfl
theorem Ctx.blk (c : Ctx X a T CS N sc R) {s2 : Scope} {own : List (Str × Nat)} (h : blkC N sc s2 own = true) (s : Shared) (H : Hp) (C : Addr) (cl : List (Str × Addr)) (fp : List Addr) : Ctx (X.blk s H s2 (compEnvC s2 cl C X.env) fp) a T CS N s2 R := by
  have b := blkOk_by h
  have lk : ∀ x k, s2.names.lookup x = some k → (relabel s2 X.env).names.lookup x = some (if (k == NameKind.free && X.env.scope.kind == .function && X.env.kindOf x == some .cell) = true then .cell else k) := fun x k e =>
    lookup_rel (c := fun n k => k == NameKind.free && X.env.scope.kind == .function && X.env.kindOf n == some .cell) e
  refine ⟨c.hN, c.nd, c.hK, fun x k e => ⟨fun ek => ?_, fun nk => ?_⟩, fun x hx => ?_, b.kind, c.calm, c.room, c.blt, c.tab, c.pr, c.fs, c.cst⟩
  · show (relabel s2 X.env).names.lookup x = some .cell ∨ (relabel s2 X.env).names.lookup x = some .free
    rw [lk x k e]
    subst ek
    split
    · exact .inl rfl
    · exact .inr rfl
  · show (relabel s2 X.env).names.lookup x = some k
    rw [lk x k e]
    have : (k == NameKind.free) = false := by simpa using nk
    rw [this]; rfl
  · unfold locB at hx
    split at hx
    · rename_i e
      refine .inr ?_
      show (relabel s2 X.env).names.lookup x = some .local
      rw [lk x _ e]; rfl
    · rename_i e
      refine .inl ?_
      show (s2.names.lookup x == some .cell) = true
      rw [e]; rfl
    · cases hx
theorem takesF {X : Cx} {a : Act} {mg : Str → Option Value} : Takes X (wX a mg fun _ _ => False) := fun _ _ x => by
  obtain ⟨_, _, _, _, _, _, _, _, _, _, _, _, _, _, _, _, _, _, _, _, z⟩ := x
  exact z.elim
theorem own_pr (c : Ctx X a T CS N sc R) {own : List (Str × Nat)} {ws : List Nat} (h : own.all (fun q => !CS.pr.contains q.2 && !ws.contains q.2) = true) : (∀ q ∈ a.pr, q.1 ∉ own.map (·.2)) ∧ ∀ i ∈ ws, i ∉ own.map (·.2) := by
  rw [List.all_eq_true] at h
  refine ⟨fun q hq hm => ?_, fun i hi hm => ?_⟩
  · obtain ⟨p, hp, e⟩ := List.mem_map.mp hm
    have := h p hp
    rw [e, c.pr q hq] at this
    simp at this
  · obtain ⟨p, hp, e⟩ := List.mem_map.mp hm
    have := h p hp
    rw [e, Bool.and_eq_true] at this
    simp at this
    exact this.2 hi
theorem pf_acc {p : Bool} {G : List (V × SV)} {v : V} {d : D} (h : pf p G) : pf p (G ++ [(v, ⟨.own, d⟩)]) := fun e y hy m => by
  rcases List.mem_append.mp hy with hy | hy
  · exact h e y hy m
  · cases List.mem_singleton.mp hy; cases m
theorem Rel.midDrop {ρ : REnv} {G T' : List (V × SV)} {x : V × SV} {σ : St} {H : Hp} (r : Rel a ρ (G ++ T' ++ [x]) σ H) : Rel a ρ (G ++ [x]) σ H := by
  refine r.rekey (fun j => if j < G.length then j else j + T'.length) (fun i j h => ?_) fun j y e => ?_
  · split at h <;> split at h <;> omega
  · by_cases hj : j < G.length
    · rw [if_pos hj]
      rw [List.getElem?_append_left hj] at e
      rw [List.append_assoc, List.getElem?_append_left hj]; exact e
    · rw [if_neg hj]
      rw [List.getElem?_append_right (by omega)] at e
      rw [List.getElem?_append_right (by rw [List.length_append]; omega), List.length_append, show j + T'.length - (G.length + T'.length) = j - G.length by omega]
      exact e
theorem tE_lc (c : Ctx X a T CS N sc R) {tg : Tg} {it : Itr} {elt : E} {own : List (Str × Nat)} (ho : own.all (fun q => !CS.pr.contains q.2 && !it.ws.contains q.2) = true) (hs : tg.slots.all (fun j => (own.map (·.2)).contains j) = true) {σ : St} {H : Hp} {Q : VK} (h : tE a T Xc (.lc tg it elt own) σ H Q) :
    tLc (tI a T Xc it) (gT a.K tg) tYes (tE a T (fun _ _ => False) elt) (own.map (·.2)) σ H Q := by
  obtain ⟨hpr, hws⟩ := own_pr c ho
  have hsl : ∀ i ∈ tg.slots, i ∈ own.map (·.2) := fun i hi => by have := List.all_eq_true.mp hs i hi; simpa using this
  obtain ⟨p, ρ, G, Q0, hp, rel, q, f⟩ := h
  refine ⟨p, ρ, G, _, hp, rel, q, fun Rw ρ' T' wv H' J q' r' hp' hwv sr => ?_⟩
  intro D0 hn
  obtain ⟨F, g⟩ := r'.good
  have r0 : Rel a (wipeR ρ' (own.map (·.2))) (G ++ T' ++ [(.ref D0, ⟨.own, .lst []⟩)]) (L2.wipe σ (own.map (·.2))) (upd H' D0 (.lst [])) := ((Rel.pushL (ws := []) r' hn rfl).wipe hpr)
  refine lc_go sr (fun q hq => ⟨hws _ (hwv q hq).1, (hwv q hq).2⟩) q' r0 (fun acc ρ2 H2 q2 r2 => f _ ρ2 _ H2 q2 ((r2.unwipe fun q hq => r'.pr q hq).midDrop)) fun r ρ2 acc x H2 L Nx ht hr k => ?_
  split at ht
  · rename_i ρ3 e3
    refine set_row hr e3 (fun i hi q hq e => hpr q hq (e ▸ hsl i hi)) fun σ2 r3 l3 o3 => ⟨?_, ?_⟩
    · rw [← wipe_wipe (σ := σ)]
      exact wipe_eq l3 fun j hj => o3 j fun z => hj (hsl j z)
    · simp only [tYes, ↓reduceIte]
      refine ⟨p || Rw.held, ρ3, _, _, pf_acc hp', r3, ht, fun s ρ4 y H4 q4 r4 => ?_⟩
      split at q4
      · rename_i d ed
        obtain ⟨us, h1, h2, r5⟩ := r4.accPut ed
        refine ⟨us, h1, by rw [h2]; exact q4.1, k _ _ _ q4.2 ?_⟩
        have r6 := r5.wipe hpr
        rwa [show L2.wipe σ2 (own.map (·.2)) = L2.wipe σ (own.map (·.2)) from by
          rw [← wipe_wipe (σ := σ)]
          exact wipe_eq l3 fun j hj => o3 j fun z => hj (hsl j z)] at r6
      · exact q4.elim
  · exact ht.elim
theorem tE_lcIf (c : Ctx X a T CS N sc R) {tg : Tg} {it : Itr} {cd elt : E} {own : List (Str × Nat)} (ho : own.all (fun q => !CS.pr.contains q.2 && !it.ws.contains q.2) = true) (hs : tg.slots.all (fun j => (own.map (·.2)).contains j) = true) {σ : St} {H : Hp} {Q : VK} (h : tE a T Xc (.lcIf tg it cd elt own) σ H Q) :
    tLc (tI a T Xc it) (gT a.K tg) (tT a T (fun _ _ => False) cd) (tE a T (fun _ _ => False) elt) (own.map (·.2)) σ H Q := by
  obtain ⟨hpr, hws⟩ := own_pr c ho
  have hsl : ∀ i ∈ tg.slots, i ∈ own.map (·.2) := fun i hi => by have := List.all_eq_true.mp hs i hi; simpa using this
  obtain ⟨p, ρ, G, Q0, hp, rel, q, f⟩ := h
  refine ⟨p, ρ, G, _, hp, rel, q, fun Rw ρ' T' wv H' J q' r' hp' hwv sr => ?_⟩
  intro D0 hn
  obtain ⟨F, g⟩ := r'.good
  have r0 : Rel a (wipeR ρ' (own.map (·.2))) (G ++ T' ++ [(.ref D0, ⟨.own, .lst []⟩)]) (L2.wipe σ (own.map (·.2))) (upd H' D0 (.lst [])) := ((Rel.pushL (ws := []) r' hn rfl).wipe hpr)
  refine lc_go sr (fun q hq => ⟨hws _ (hwv q hq).1, (hwv q hq).2⟩) q' r0 (fun acc ρ2 H2 q2 r2 => f _ ρ2 _ H2 q2 ((r2.unwipe fun q hq => r'.pr q hq).midDrop)) fun r ρ2 acc x H2 L Nx ht hr k => ?_
  split at ht
  · rename_i ρ3 e3
    refine set_row hr e3 (fun i hi q hq e => hpr q hq (e ▸ hsl i hi)) fun σ2 r3 l3 o3 => ?_
    have ew : L2.wipe σ2 (own.map (·.2)) = L2.wipe σ (own.map (·.2)) := by
      rw [← wipe_wipe (σ := σ)]
      exact wipe_eq l3 fun j hj => o3 j fun z => hj (hsl j z)
    refine ⟨ew, p || Rw.held, ρ3, _, _, pf_acc hp', r3, ht, fun s ρ4 H4 q4 r4 => ?_⟩
    split at q4
    · rename_i eb
      refine ⟨true, eb, ?_⟩
      simp only [↓reduceIte]
      refine ⟨p || Rw.held, ρ4, _, _, pf_acc hp', r4, q4, fun s ρ5 y H5 q5 r5 => ?_⟩
      split at q5
      · rename_i d ed
        obtain ⟨us, h1, h2, r6⟩ := r5.accPut ed
        refine ⟨us, h1, by rw [h2]; exact q5.1, k _ _ _ q5.2 ?_⟩
        have r7 := r6.wipe hpr
        rwa [ew] at r7
      · exact q5.elim
    · rename_i eb
      refine ⟨false, eb, ?_⟩
      simp only [Bool.false_eq_true, ↓reduceIte]
      have r7 := r4.wipe hpr
      rw [ew] at r7
      exact k _ _ _ q4 r7
    · exact q4.elim
  · exact ht.elim
end
end Wm
namespace Wm
open PySem PySem.Spec PyProof.Rows L2

section
variable {X : Cx} {a : Act} {T : Tab} {CS : CkT} {N : List Str} {sc : Scope} {R : Nat} {Xc : Ex → REnv → Prop}
def SE (X : Cx) (a : Act) (T : Tab) (Xc : Ex → REnv → Prop) (e : E) (x : Expr) : Prop :=
  PE X x (tE a T Xc e) ∧ (tstE e = true → PT X x (tT a T Xc e)) ∧ (tstE e = true → ∀ o vs p, x = .BoolOp o vs p → PW X x (tT a T Xc e))
theorem SE.noT {e : E} {x : Expr} (h : PE X x (tE a T Xc e)) (n : tstE e = false) : SE X a T Xc e x := ⟨h, fun q => (by rw [n] at q; cases q), fun q => by rw [n] at q; cases q⟩
def plainT : Expr → Bool
  | .UnaryOp .. => false
  | .BoolOp .. => false
  | .IfExp .. => false
  | .Compare .. => false
  | _ => true
theorem SE.val {e : E} {x : Expr} (h : PE X x (tE a T Xc e)) (hp : plainT x = true) : SE X a T Xc e x := by
  refine ⟨h, fun _ => PT.mono (pt_val h fun whole => ?_) fun σ H Q q => tT_val q, fun _ o vs p ex => ?_⟩
  · cases x <;> first | rfl | cases hp
  · subst ex; cases hp
theorem SE.ar (c : Ctx X a T CS N sc R) {e : E} {x : Expr} (hk : chkE CS N sc e x = true) (h : SE X a T Xc e x) : PE X x (tAr a T Xc e) := by
  cases e with
  | var i => exact c.peVar hk
  | _ => exact h.1
theorem vConst_plain {x : Expr} {k : Const} (h : vConst x = some k) : plainT x = true := by
  cases x <;> first | rfl | cases h
theorem vCall_plain {x f : Expr} {es : List Expr} {kw : List Keyword} {p : Pos} (h : vCall x = some (f, es, kw, p)) : plainT x = true := by
  cases x <;> first | rfl | cases h
theorem vSub_plain {x f g : Expr} (h : vSub x = some (f, g)) : plainT x = true := by
  cases x <;> first | rfl | cases h
theorem chkVar_plain {i : Nat} {x : Expr} (h : chkVar N sc i x = true) : plainT x = true := by
  unfold chkVar at h
  split at h
  · rename_i y ey
    obtain ⟨p, rfl⟩ := vName_inv ey
    rfl
  · cases h
theorem minus1_inv {e : Expr} (h : chkMinus1 e = true) : ∃ k p1 p2, e = .UnaryOp .USub (.Constant (.int 1) k p1) p2 := by
  unfold chkMinus1 at h
  split at h
  · exact ⟨_, _, _, rfl⟩
  · cases h
theorem PW.mono' {e : Expr} {t t' : TT} (h : PW X e t) (k : ∀ σ H Q, t' σ H Q → t σ H Q) : PW X e t' := ⟨fun whole pins s σ H Q I q => h.run whole pins s σ H Q I (k σ H Q q)⟩
theorem SE.and2 {x y : E} {l r : Expr} {pos : Pos} (hx : SE X a T Xc x l) (hy : SE X a T Xc y r) : SE X a T Xc (.and x y) (.BoolOp .And [l, r] pos) := by
  have w : tstE (.and x y) = true → PW X (.BoolOp .And [l, r] pos) (tT a T Xc (.and x y)) := fun h => by
    have h : (tstE x && tstE y) = true := h
    rw [Bool.and_eq_true] at h
    exact pw_andW (hx.2.1 h.1) (pw_and1 (hy.2.1 h.2))
  exact ⟨pe_andW hx.1 (pe_one hy.1), fun h => (w h).pt, fun h o vs p e => by cases e; exact w h⟩
theorem SE.or2 {x y : E} {l r : Expr} {pos : Pos} (hx : SE X a T Xc x l) (hy : SE X a T Xc y r) : SE X a T Xc (.or x y) (.BoolOp .Or [l, r] pos) := by
  have w : tstE (.or x y) = true → PW X (.BoolOp .Or [l, r] pos) (tT a T Xc (.or x y)) := fun h => by
    have h : (tstE x && tstE y) = true := h
    rw [Bool.and_eq_true] at h
    exact pw_orW (hx.2.1 h.1) (pw_or1 (hy.2.1 h.2))
  exact ⟨pe_orW hx.1 (pe_one hy.1), fun h => (w h).pt, fun h o vs p e => by cases e; exact w h⟩
theorem SE.andN {x y : E} {l b : Expr} {rest : List Expr} {pos : Pos} (hx : SE X a T Xc x l) (hy : SE X a T Xc y (.BoolOp .And (b :: rest) pos)) : SE X a T Xc (.and x y) (.BoolOp .And (l :: b :: rest) pos) := by
  have w : tstE (.and x y) = true → PW X (.BoolOp .And (l :: b :: rest) pos) (tT a T Xc (.and x y)) := fun h => by
    have h : (tstE x && tstE y) = true := h
    rw [Bool.and_eq_true] at h
    exact pw_andW (hx.2.1 h.1) (hy.2.2 h.2 _ _ _ rfl)
  exact ⟨pe_andW hx.1 hy.1, fun h => (w h).pt, fun h o vs p e => by cases e; exact w h⟩
theorem SE.orN {x y : E} {l b : Expr} {rest : List Expr} {pos : Pos} (hx : SE X a T Xc x l) (hy : SE X a T Xc y (.BoolOp .Or (b :: rest) pos)) : SE X a T Xc (.or x y) (.BoolOp .Or (l :: b :: rest) pos) := by
  have w : tstE (.or x y) = true → PW X (.BoolOp .Or (l :: b :: rest) pos) (tT a T Xc (.or x y)) := fun h => by
    have h : (tstE x && tstE y) = true := h
    rw [Bool.and_eq_true] at h
    exact pw_orW (hx.2.1 h.1) (hy.2.2 h.2 _ _ _ rfl)
  exact ⟨pe_orW hx.1 hy.1, fun h => (w h).pt, fun h o vs p e => by cases e; exact w h⟩
theorem SE.not_ {x : E} {l : Expr} {pos : Pos} (hx : SE X a T Xc x l) : SE X a T Xc (.not x) (.UnaryOp .Not l pos) := ⟨pe_notW hx.1, fun h => pt_notW (hx.2.1 h), fun h o vs p e => by cases e⟩
theorem SE.cmp (c : Ctx X a T CS N sc R) {o : Cmp} {x y : E} {l r : Expr} {pos : Pos} (hx : PE X l (tAr a T Xc x)) (hy : PE X r (tAr a T Xc y)) (hp : plainE r = true) : SE X a T Xc (.op (.cmp o) (.cons x (.cons y .nil))) (.Compare l [opCmp o] [r] pos) :=
  ⟨pe_cmpP (ok_cmp o) (by rw [← c.hK]; exact x_cmp c.hu o) hx hy hp, fun _ => pt_cmpP (ok_cmp o) (fun {args p ρ Q0} h => prim_cmp_bool h) (by rw [← c.hK]; exact x_cmp c.hu o) hx hy hp, fun _ o vs p e => by cases e⟩
theorem SE.chn (c : Ctx X a T CS N sc R) {o1 o2 : Cmp} {x y z : E} {l r m : Expr} {pos : Pos} (hx : PE X l (tE a T Xc x)) (hy : PE X r (tE a T Xc y)) (hz : PE X m (tE a T Xc z)) (hm : plainE m = true) : SE X a T Xc (.chain o1 o2 x y z) (.Compare l [opCmp o1, opCmp o2] [r, m] pos) :=
  ⟨pe_chainW c hx hy hz hm, fun _ => pt_chainW c hx hy hz hm, fun _ o vs p e => by cases e⟩
end
end Wm
namespace Wm
open PySem PySem.Spec PyProof.Rows L2

section
variable {X : Cx} {a : Act} {T : Tab} {CS : CkT} {N : List Str} {sc : Scope} {R : Nat} {Xc : Ex → REnv → Prop}
theorem pe_slice11 {r : V → Option Int → Option Int → Hp → VK → Prop} {e lo hi : Expr} {te tl th : TE} {p2 pos : Pos} (hr : SlR X r) (he : PE X e te) (hl : PE X lo tl) (hu : PE X hi th) : PE X (.Subscript e (.Slice (some lo) (some hi) none p2) pos) (fun σ H Q => te σ H fun x H1 => tl σ H1 fun l H2 => th σ H2 fun u H3 => ∃ i j, l = .int i ∧ u = .int j ∧ r x (some i) (some j) H3 Q) := by
  refine ⟨fun pins s σ H Q I h => ?_⟩
  refine Subscript_ (thn (he.run pins s σ H _ I h) fun v s1 ⟨x, H1, I1, r1, q1⟩ => ?_)
  refine wpAny_Slice ?_
  rw [evalPart_some, evalPart_some]
  refine (thn (hl.run pins s1 σ H1 _ I1 q1) fun vl s2 ⟨l, H2, I2, rl, q2⟩ => thn (hu.run pins s2 σ H2 _ I2 q2) fun vu s3 ⟨u, H3, I3, ru, q3⟩ => ?_)
  obtain ⟨i, j, rfl, rfl, q3⟩ := q3
  obtain ⟨t1, rfl⟩ := rl
  obtain ⟨t2, rfl⟩ := ru
  rw [evalPart_none]
  refine wpAny_pure ?_
  have I4 : Inv X pins σ H3 { s3 with heap := s3.heap.push { cls := .type "slice", data := .fields #[.int i t1, .int j t2, .none] } } := I3.kept (t' := s3.toks) fun b ob q => Heap.get?_push_of_some _ q
  obtain ⟨T, id, hT, ht, hg⟩ := hr pins { s3 with heap := s3.heap.push { cls := .type "slice", data := .fields #[.int i t1, .int j t2, .none] } } σ H3 x v (.int i t1) (.int j t2) (some i) (some j) s3.heap.objs.size Q I4 r1 (Heap.IsSliceOf.new ..) (.int i t1) (.int j t2) q3
  show wpAny (model X.prog X.w) X.A (subscriptTail e (.Slice (some lo) (some hi) none p2) v (.ref s3.heap.objs.size)) (EP X pins σ Q) X.xe { s3 with heap := s3.heap.push { cls := .type "slice", data := .fields #[.int i t1, .int j t2, .none] } }
  exact tail_any (ops := [.ref s3.heap.objs.size, v]) ht hT hg (by with_unfolding_all rfl)
theorem pe_sl11 {x y z : E} {l r m : Expr} {p2 pos : Pos} (hK : X.K = a.K) (hx : PE X l (tAr a T Xc x)) (hy : PE X r (tAr a T Xc y)) (hz : PE X m (tAr a T Xc z)) : PE X (.Subscript l (.Slice (some r) (some m) none p2) pos) (tE a T Xc (.op (.slice true true) (.cons x (.cons y (.cons z .nil))))) :=
  PE.mono (pe_slice11 sl_A hx hy hz) fun σ H Q h => tAr_mono (fun v H1 q => tAr_mono (fun u H2 q => tAr_mono (fun w H3 q => by
    obtain ⟨v', u', w', e, i, j, e2, e3, q⟩ := q
    cases e
    rw [hK]
    exact ⟨i, j, e2, e3, q⟩) q) q) (tAs_three (tE_op ok_sl11 h))
end
theorem chk_bltE {CS : CkT} {N : List Str} {sc : Scope} {o : Prim} {x : E} {as : Es} {e : Expr} (n : Str) (hn : primName o = some n) (h : (match primName o with | some n => (match vCall e with | some (f, es, [], _) => chkGl sc n f && chkEs CS N sc (.cons x as) es | _ => false) | none => false) = true) : ∃ f es p, e = .Call f es [] p ∧ chkGl sc n f = true ∧ chkEs CS N sc (.cons x as) es = true := by
  rw [hn] at h
  split at h
  · rename_i n' hn'
    cases hn'
    split at h
    · rename_i f es p ev
      cases vCall_inv ev
      rw [Bool.and_eq_true] at h
      exact ⟨f, es, p, rfl, h.1, h.2⟩
    · cases h
  · cases h
mutual
theorem sE : ∀ (e : E) {X : Cx} {a : Act} {T : Tab} {CS : CkT} {N : List Str} {sc : Scope} {R : Nat} {Xc : Ex → REnv → Prop} {x : Expr}, Ctx X a T CS N sc R → Takes X (wX a X.mg Xc) → chkE CS N sc e x = true → SE X a T Xc e x
  | .var i, X, a, T, CS, N, sc, R, Xc, x, c, tk, h => by
    have h : chkVar N sc i x = true := h
    exact .val (PE.mono (c.peVar h) fun σ H Q q => tE_var q) (chkVar_plain h)
  | .cst w, X, a, T, CS, N, sc, R, Xc, x, c, tk, h => by
    simp only [chkE] at h
    split at h
    · rename_i k ek
      obtain ⟨j, p, rfl⟩ := vConst_inv ek
      exact .val (pe_cst h) rfl
    · cases h
  | .glob n i, X, a, T, CS, N, sc, R, Xc, x, c, tk, h => by
    simp only [chkE, Bool.and_eq_true, decide_eq_true_eq] at h
    obtain ⟨p, rfl, hg, ho⟩ := chkGl_inv h.1
    obtain ⟨t, ht⟩ := c.cst n i h.2
    exact .val (pe_globW (c.gl hg) ht ho) rfl
  | .and x y, X, a, T, CS, N, sc, R, Xc, e, c, tk, h => by
    simp only [chkE] at h
    split at h
    · rename_i l r p ev
      cases vBool_inv ev
      rw [Bool.and_eq_true] at h
      exact .and2 (sE x c tk h.1) (sE y c tk h.2)
    · rename_i l y1 z1 r1 p ev
      cases vBool_inv ev
      rw [Bool.and_eq_true] at h
      exact .andN (sE x c tk h.1) (sE y c tk h.2)
    · cases h
  | .or x y, X, a, T, CS, N, sc, R, Xc, e, c, tk, h => by
    simp only [chkE] at h
    split at h
    · rename_i l r p ev
      cases vBool_inv ev
      rw [Bool.and_eq_true] at h
      exact .or2 (sE x c tk h.1) (sE y c tk h.2)
    · rename_i l y1 z1 r1 p ev
      cases vBool_inv ev
      rw [Bool.and_eq_true] at h
      exact .orN (sE x c tk h.1) (sE y c tk h.2)
    · cases h
  | .not x, X, a, T, CS, N, sc, R, Xc, e, c, tk, h => by
    simp only [chkE] at h
    split at h
    · rename_i l ev
      obtain ⟨p, rfl⟩ := vUn_inv ev
      exact .not_ (sE x c tk h)
    · cases h
  | .ite cd x y, X, a, T, CS, N, sc, R, Xc, e, c, tk, h => by
    simp only [chkE] at h
    split at h
    · rename_i m l r ev
      obtain ⟨p, rfl⟩ := vIf_inv ev
      simp only [Bool.and_eq_true] at h
      exact .noT (pe_iteW ((sE cd c tk h.1.1.2).2.1 h.1.1.1) (sE x c tk h.1.2).1 (sE y c tk h.2).1) rfl
    · cases h
  | .chain o1 o2 x y z, X, a, T, CS, N, sc, R, Xc, e, c, tk, h => by
    simp only [chkE] at h
    split at h
    · rename_i l p q r m ev
      obtain ⟨p, rfl⟩ := vCmp_inv ev
      simp only [Bool.and_eq_true, decide_eq_true_eq] at h
      obtain ⟨⟨⟨⟨⟨h1, rfl⟩, rfl⟩, h2⟩, h3⟩, h4⟩ := h
      exact .chn c (sE x c tk h2).1 (sE y c tk h3).1 (sE z c tk h4).1 h1
    · cases h
  | .call f as, X, a, T, CS, N, sc, R, Xc, e, c, tk, h => by
    simp only [chkE] at h
    split at h
    · rename_i g es p ev
      simp only [Bool.and_eq_true] at h
      cases vCall_inv ev
      obtain ⟨h1, h2, h3⟩ := sEs as c tk h.2
      cases es with
      | nil =>
        cases as with
        | nil => exact .val (pe_callW0 c tk h.1.2 (c.fs f h.1.1)) rfl
        | cons x as => cases h3
      | cons e1 es => exact .val (pe_callW c tk h.1.2 (c.fs f h.1.1) h1 (h2 e1 List.mem_cons_self) fun e he => h2 e (List.mem_cons_of_mem _ he)) rfl
    · cases h
  | .mth m i as, X, a, T, CS, N, sc, R, Xc, e, c, tk, h => by
    simp only [chkE] at h
    split at h
    · rename_i g es p ev
      split at h
      · rename_i o n ap eg
        simp only [Bool.and_eq_true, decide_eq_true_eq, beq_iff_eq] at h
        cases vCall_inv ev
        cases vAttr_inv eg
        obtain ⟨⟨⟨⟨⟨rfl, h2⟩, h3⟩, h4⟩, h5⟩, h6⟩ := h
        obtain ⟨p1, p2, p3⟩ := sEs as c tk h6
        refine .noT (pe_mthW c h5 p1 p2 h2 h4 (fun e => ?_) h3) rfl
        subst e
        cases as with
        | nil => rfl
        | cons x as => cases p3
      · cases h
    · cases h
  | .lc tg it elt own, X, a, T, CS, N, sc, R, Xc, e, c, tk, h => by
    simp only [chkE] at h
    split at h
    · rename_i x t i s2 ev
      obtain ⟨p, rfl⟩ := vLc_inv ev
      simp only [Bool.and_eq_true] at h
      obtain ⟨⟨⟨⟨⟨h1, h2⟩, h3⟩, h4⟩, h5⟩, h6⟩ := h
      obtain ⟨pi, hfold⟩ := sI it c tk h5
      refine .noT (PE.mono (pe_lc (g := gT X.K tg) c.calm (by rw [c.hN]; exact c.nd) pi (c.blkOk h1) (fun s H C cl fp => pg_tg (c.blk h1 s H C cl fp) h2) (fun s H C cl fp => pts_nil) (fun s H C cl fp => (sE elt (c.blk h1 s H C cl fp) takesF h6).1) (folded_plain _ hfold)) fun σ H Q q => ?_) rfl
      have := tE_lc c h4 h3 q
      rw [← c.hK] at this
      exact this
    · cases h
  | .lcIf tg it cd elt own, X, a, T, CS, N, sc, R, Xc, e, c, tk, h => by
    simp only [chkE] at h
    split at h
    · rename_i x t i g s2 ev
      obtain ⟨p, rfl⟩ := vLc_inv ev
      simp only [Bool.and_eq_true] at h
      obtain ⟨⟨⟨⟨⟨⟨⟨h0, h1⟩, h2⟩, h3⟩, h4⟩, h5⟩, h7⟩, h6⟩ := h
      obtain ⟨pi, hfold⟩ := sI it c tk h5
      refine .noT (PE.mono (pe_lc (g := gT X.K tg) c.calm (by rw [c.hN]; exact c.nd) pi (c.blkOk h1) (fun s H C cl fp => pg_tg (c.blk h1 s H C cl fp) h2) (fun s H C cl fp => pts_one ((sE cd (c.blk h1 s H C cl fp) takesF h7).2.1 h0)) (fun s H C cl fp => (sE elt (c.blk h1 s H C cl fp) takesF h6).1) (folded_plain _ hfold)) fun σ H Q q => ?_) rfl
      have := tE_lcIf c h4 h3 q
      rw [← c.hK] at this
      exact this
    · cases h
  | .op (.bin b) (.cons x (.cons y .nil)), X, a, T, CS, N, sc, R, Xc, e, c, tk, h => by
    simp only [chkE] at h
    split at h
    · rename_i l o r ev
      obtain ⟨p, rfl⟩ := vBin_inv ev
      simp only [Bool.and_eq_true, decide_eq_true_eq] at h
      obtain ⟨⟨rfl, h1⟩, h2⟩ := h
      exact .noT (pe_bin (ok_bin b) (by rw [← c.hK]; exact x_bin b) ((sE x c tk h1).ar c h1) ((sE y c tk h2).ar c h2)) rfl
    · cases h
  | .op (.cmp o) (.cons x (.cons y .nil)), X, a, T, CS, N, sc, R, Xc, e, c, tk, h => by
    simp only [chkE] at h
    split at h
    · rename_i l o' r ev
      obtain ⟨p, rfl⟩ := vCmp_inv ev
      simp only [Bool.and_eq_true, decide_eq_true_eq] at h
      obtain ⟨⟨⟨h0, rfl⟩, h1⟩, h2⟩ := h
      exact .cmp c ((sE x c tk h1).ar c h1) ((sE y c tk h2).ar c h2) h0
    · cases h
  | .op .neg (.cons x .nil), X, a, T, CS, N, sc, R, Xc, e, c, tk, h => by
    simp only [chkE] at h
    split at h
    · rename_i l ev
      obtain ⟨p, rfl⟩ := vUn_inv ev
      exact .noT (pe_negW ((sE x c tk h).ar c h)) rfl
    · cases h
  | .op .idx (.cons x (.cons y .nil)), X, a, T, CS, N, sc, R, Xc, e, c, tk, h => by
    simp only [chkE] at h
    split at h
    · rename_i l r ev
      obtain ⟨p, rfl⟩ := vSub_inv ev
      simp only [Bool.and_eq_true] at h
      exact .val (pe_idxW c.hK c.hu ((sE x c tk h.1.2).ar c h.1.2) ((sE y c tk h.2).ar c h.2) h.1.1) rfl
    · cases h
  | .op .rev (.cons x .nil), X, a, T, CS, N, sc, R, Xc, e, c, tk, h => by
    simp only [chkE] at h
    split at h
    · rename_i l r ev
      obtain ⟨p, rfl⟩ := vSub_inv ev
      rw [Bool.and_eq_true] at h
      obtain ⟨h1, h2⟩ := h
      split at h1
      · rename_i m es
        obtain ⟨p2, rfl⟩ := vSlice_inv es
        obtain ⟨k, p3, p4, rfl⟩ := minus1_inv h1
        exact .noT (pe_revW c.hK ((sE x c tk h2).ar c h2)) rfl
      · cases h1
    · cases h
  | .op (.slice false false) (.cons x .nil), X, a, T, CS, N, sc, R, Xc, e, c, tk, h => by
    simp only [chkE] at h
    split at h
    · rename_i l r ev
      obtain ⟨p, rfl⟩ := vSub_inv ev
      rw [Bool.and_eq_true] at h
      obtain ⟨h1, h2⟩ := h
      split at h1
      · rename_i es
        obtain ⟨p2, rfl⟩ := vSlice_inv es
        exact .noT (pe_sl00 c.hK ((sE x c tk h2).ar c h2)) rfl
      · cases h1
    · cases h
  | .op (.slice true false) (.cons x (.cons y .nil)), X, a, T, CS, N, sc, R, Xc, e, c, tk, h => by
    simp only [chkE] at h
    split at h
    · rename_i l r ev
      obtain ⟨p, rfl⟩ := vSub_inv ev
      split at h
      · rename_i m es
        obtain ⟨p2, rfl⟩ := vSlice_inv es
        rw [Bool.and_eq_true] at h
        exact .noT (pe_sl10 c.hK ((sE x c tk h.1).ar c h.1) ((sE y c tk h.2).ar c h.2)) rfl
      · cases h
    · cases h
  | .op (.slice false true) (.cons x (.cons y .nil)), X, a, T, CS, N, sc, R, Xc, e, c, tk, h => by
    simp only [chkE] at h
    split at h
    · rename_i l r ev
      obtain ⟨p, rfl⟩ := vSub_inv ev
      split at h
      · rename_i m es
        obtain ⟨p2, rfl⟩ := vSlice_inv es
        rw [Bool.and_eq_true] at h
        exact .noT (pe_sl01 c.hK ((sE x c tk h.1).ar c h.1) ((sE y c tk h.2).ar c h.2)) rfl
      · cases h
    · cases h
  | .op (.slice true true) (.cons x (.cons y (.cons z .nil))), X, a, T, CS, N, sc, R, Xc, e, c, tk, h => by
    simp only [chkE] at h
    split at h
    · rename_i l r ev
      obtain ⟨p, rfl⟩ := vSub_inv ev
      split at h
      · rename_i m m2 es
        obtain ⟨p2, rfl⟩ := vSlice_inv es
        simp only [Bool.and_eq_true] at h
        exact .noT (pe_sl11 c.hK ((sE x c tk h.1.1).ar c h.1.1) ((sE y c tk h.1.2).ar c h.1.2) ((sE z c tk h.2).ar c h.2)) rfl
      · cases h
    · cases h
  | .op (.isi tys) (.cons x .nil), X, a, T, CS, N, sc, R, Xc, e, c, tk, h => by
    simp only [chkE] at h
    split at h
    · rename_i f l t p ev
      cases vCall_inv ev
      simp only [Bool.and_eq_true] at h
      obtain ⟨⟨⟨⟨h1, h2⟩, h3⟩, h4⟩, h5⟩ := h
      exact .val (pe_isiW c h1 ((sE x c tk h3).ar c h3) h2 h4 h5) rfl
    · cases h
  | .op (.bin b) .nil, X, a, T, CS, N, sc, R, Xc, e, c, tk, h => by simp [chkE, primName] at h
  | .op (.bin b) (.cons x1 .nil), X, a, T, CS, N, sc, R, Xc, e, c, tk, h => by simp [chkE, primName] at h
  | .op (.bin b) (.cons x1 (.cons x2 (.cons x3 as1))), X, a, T, CS, N, sc, R, Xc, e, c, tk, h => by simp [chkE, primName] at h
  | .op (.cmp o) .nil, X, a, T, CS, N, sc, R, Xc, e, c, tk, h => by simp [chkE, primName] at h
  | .op (.cmp o) (.cons x1 .nil), X, a, T, CS, N, sc, R, Xc, e, c, tk, h => by simp [chkE, primName] at h
  | .op (.cmp o) (.cons x1 (.cons x2 (.cons x3 as1))), X, a, T, CS, N, sc, R, Xc, e, c, tk, h => by simp [chkE, primName] at h
  | .op .neg .nil, X, a, T, CS, N, sc, R, Xc, e, c, tk, h => by simp [chkE, primName] at h
  | .op .neg (.cons x1 (.cons x2 as1)), X, a, T, CS, N, sc, R, Xc, e, c, tk, h => by simp [chkE, primName] at h
  | .op .idx .nil, X, a, T, CS, N, sc, R, Xc, e, c, tk, h => by simp [chkE, primName] at h
  | .op .idx (.cons x1 .nil), X, a, T, CS, N, sc, R, Xc, e, c, tk, h => by simp [chkE, primName] at h
  | .op .idx (.cons x1 (.cons x2 (.cons x3 as1))), X, a, T, CS, N, sc, R, Xc, e, c, tk, h => by simp [chkE, primName] at h
  | .op .rev .nil, X, a, T, CS, N, sc, R, Xc, e, c, tk, h => by simp [chkE, primName] at h
  | .op .rev (.cons x1 (.cons x2 as1)), X, a, T, CS, N, sc, R, Xc, e, c, tk, h => by simp [chkE, primName] at h
  | .op (.slice false false) .nil, X, a, T, CS, N, sc, R, Xc, e, c, tk, h => by simp [chkE, primName] at h
  | .op (.slice false false) (.cons x1 (.cons x2 as1)), X, a, T, CS, N, sc, R, Xc, e, c, tk, h => by simp [chkE, primName] at h
  | .op (.slice true false) .nil, X, a, T, CS, N, sc, R, Xc, e, c, tk, h => by simp [chkE, primName] at h
  | .op (.slice true false) (.cons x1 .nil), X, a, T, CS, N, sc, R, Xc, e, c, tk, h => by simp [chkE, primName] at h
  | .op (.slice true false) (.cons x1 (.cons x2 (.cons x3 as1))), X, a, T, CS, N, sc, R, Xc, e, c, tk, h => by simp [chkE, primName] at h
  | .op (.slice false true) .nil, X, a, T, CS, N, sc, R, Xc, e, c, tk, h => by simp [chkE, primName] at h
  | .op (.slice false true) (.cons x1 .nil), X, a, T, CS, N, sc, R, Xc, e, c, tk, h => by simp [chkE, primName] at h
  | .op (.slice false true) (.cons x1 (.cons x2 (.cons x3 as1))), X, a, T, CS, N, sc, R, Xc, e, c, tk, h => by simp [chkE, primName] at h
  | .op (.slice true true) .nil, X, a, T, CS, N, sc, R, Xc, e, c, tk, h => by simp [chkE, primName] at h
  | .op (.slice true true) (.cons x1 .nil), X, a, T, CS, N, sc, R, Xc, e, c, tk, h => by simp [chkE, primName] at h
  | .op (.slice true true) (.cons x1 (.cons x2 .nil)), X, a, T, CS, N, sc, R, Xc, e, c, tk, h => by simp [chkE, primName] at h
  | .op (.slice true true) (.cons x1 (.cons x2 (.cons x3 (.cons x4 as1)))), X, a, T, CS, N, sc, R, Xc, e, c, tk, h => by simp [chkE, primName] at h
  | .op (.isi tys) .nil, X, a, T, CS, N, sc, R, Xc, e, c, tk, h => by simp [chkE, primName] at h
  | .op (.isi tys) (.cons x1 (.cons x2 as1)), X, a, T, CS, N, sc, R, Xc, e, c, tk, h => by simp [chkE, primName] at h
  | .op .lst as, X, a, T, CS, N, sc, R, Xc, e, c, tk, h => by
    have hh : (match vList e with | some es => decide (as.len ≤ 1000) && chkEs CS N sc as es | none => false) = true := by
      cases as <;> exact h
    split at hh
    · rename_i es ev
      obtain ⟨p, rfl⟩ := vList_inv ev
      rw [Bool.and_eq_true, decide_eq_true_eq] at hh
      exact .noT (pe_lstW (sEs as c tk hh.2).1 hh.1) rfl
    · cases hh
  | .op .tup as, X, a, T, CS, N, sc, R, Xc, e, c, tk, h => by
    have hh : (match vTuple e with | some es => decide (as.len ≤ 1000) && chkEs CS N sc as es | none => false) = true := by
      cases as <;> exact h
    split at hh
    · rename_i es ev
      obtain ⟨k, p, rfl⟩ := vTuple_inv ev
      rw [Bool.and_eq_true, decide_eq_true_eq] at hh
      exact .noT (pe_tupW (sEs as c tk hh.2).1 hh.1) rfl
    · cases hh
  | .op .dnewK .nil, X, a, T, CS, N, sc, R, Xc, e, c, tk, h => by
    simp only [chkE] at h
    split at h
    · exact .noT pe_dnewKW rfl
    · cases h
  | .op .dnewK (.cons x1 as1), X, a, T, CS, N, sc, R, Xc, e, c, tk, h => by simp [chkE, primName] at h
  | .op .dnewT .nil, X, a, T, CS, N, sc, R, Xc, e, c, tk, h => by
    simp only [chkE] at h
    split at h
    · exact .noT pe_dnewTW rfl
    · cases h
  | .op .dnewT (.cons x1 as1), X, a, T, CS, N, sc, R, Xc, e, c, tk, h => by simp [chkE, primName] at h
  | .op .len .nil, X, a, T, CS, N, sc, R, Xc, e, c, tk, h => by simp [chkE] at h
  | .op .len (.cons x as), X, a, T, CS, N, sc, R, Xc, e, c, tk, h => by
    obtain ⟨f, es, p, rfl, h1, h2⟩ := chk_bltE (CS := CS) (N := N) (sc := sc) (o := .len) (x := x) (as := as) (e := e) "len" rfl h
    obtain ⟨p1, p2, p3⟩ := sEs (.cons x as) c tk h2
    cases es with
    | nil => cases p3
    | cons e1 es => exact .val (pe_bltW c rfl h1 p1 (p2 e1 List.mem_cons_self) fun e he => p2 e (List.mem_cons_of_mem _ he)) rfl
  | .op .sorted .nil, X, a, T, CS, N, sc, R, Xc, e, c, tk, h => by simp [chkE] at h
  | .op .sorted (.cons x as), X, a, T, CS, N, sc, R, Xc, e, c, tk, h => by
    obtain ⟨f, es, p, rfl, h1, h2⟩ := chk_bltE (CS := CS) (N := N) (sc := sc) (o := .sorted) (x := x) (as := as) (e := e) "sorted" rfl h
    obtain ⟨p1, p2, p3⟩ := sEs (.cons x as) c tk h2
    cases es with
    | nil => cases p3
    | cons e1 es => exact .val (pe_bltW c rfl h1 p1 (p2 e1 List.mem_cons_self) fun e he => p2 e (List.mem_cons_of_mem _ he)) rfl
  | .op .list .nil, X, a, T, CS, N, sc, R, Xc, e, c, tk, h => by simp [chkE] at h
  | .op .list (.cons x as), X, a, T, CS, N, sc, R, Xc, e, c, tk, h => by
    obtain ⟨f, es, p, rfl, h1, h2⟩ := chk_bltE (CS := CS) (N := N) (sc := sc) (o := .list) (x := x) (as := as) (e := e) "list" rfl h
    obtain ⟨p1, p2, p3⟩ := sEs (.cons x as) c tk h2
    cases es with
    | nil => cases p3
    | cons e1 es => exact .val (pe_bltW c rfl h1 p1 (p2 e1 List.mem_cons_self) fun e he => p2 e (List.mem_cons_of_mem _ he)) rfl
  | .op .tuple .nil, X, a, T, CS, N, sc, R, Xc, e, c, tk, h => by simp [chkE] at h
  | .op .tuple (.cons x as), X, a, T, CS, N, sc, R, Xc, e, c, tk, h => by
    obtain ⟨f, es, p, rfl, h1, h2⟩ := chk_bltE (CS := CS) (N := N) (sc := sc) (o := .tuple) (x := x) (as := as) (e := e) "tuple" rfl h
    obtain ⟨p1, p2, p3⟩ := sEs (.cons x as) c tk h2
    cases es with
    | nil => cases p3
    | cons e1 es => exact .val (pe_bltW c rfl h1 p1 (p2 e1 List.mem_cons_self) fun e he => p2 e (List.mem_cons_of_mem _ he)) rfl
  | .op .all .nil, X, a, T, CS, N, sc, R, Xc, e, c, tk, h => by simp [chkE] at h
  | .op .all (.cons x as), X, a, T, CS, N, sc, R, Xc, e, c, tk, h => by
    obtain ⟨f, es, p, rfl, h1, h2⟩ := chk_bltE (CS := CS) (N := N) (sc := sc) (o := .all) (x := x) (as := as) (e := e) "all" rfl h
    obtain ⟨p1, p2, p3⟩ := sEs (.cons x as) c tk h2
    cases es with
    | nil => cases p3
    | cons e1 es => exact .val (pe_bltW c rfl h1 p1 (p2 e1 List.mem_cons_self) fun e he => p2 e (List.mem_cons_of_mem _ he)) rfl
  | .op .any .nil, X, a, T, CS, N, sc, R, Xc, e, c, tk, h => by simp [chkE] at h
  | .op .any (.cons x as), X, a, T, CS, N, sc, R, Xc, e, c, tk, h => by
    obtain ⟨f, es, p, rfl, h1, h2⟩ := chk_bltE (CS := CS) (N := N) (sc := sc) (o := .any) (x := x) (as := as) (e := e) "any" rfl h
    obtain ⟨p1, p2, p3⟩ := sEs (.cons x as) c tk h2
    cases es with
    | nil => cases p3
    | cons e1 es => exact .val (pe_bltW c rfl h1 p1 (p2 e1 List.mem_cons_self) fun e he => p2 e (List.mem_cons_of_mem _ he)) rfl
  | .op .sum .nil, X, a, T, CS, N, sc, R, Xc, e, c, tk, h => by simp [chkE] at h
  | .op .sum (.cons x as), X, a, T, CS, N, sc, R, Xc, e, c, tk, h => by
    obtain ⟨f, es, p, rfl, h1, h2⟩ := chk_bltE (CS := CS) (N := N) (sc := sc) (o := .sum) (x := x) (as := as) (e := e) "sum" rfl h
    obtain ⟨p1, p2, p3⟩ := sEs (.cons x as) c tk h2
    cases es with
    | nil => cases p3
    | cons e1 es => exact .val (pe_bltW c rfl h1 p1 (p2 e1 List.mem_cons_self) fun e he => p2 e (List.mem_cons_of_mem _ he)) rfl
  | .op .min1 .nil, X, a, T, CS, N, sc, R, Xc, e, c, tk, h => by simp [chkE] at h
  | .op .min1 (.cons x as), X, a, T, CS, N, sc, R, Xc, e, c, tk, h => by
    obtain ⟨f, es, p, rfl, h1, h2⟩ := chk_bltE (CS := CS) (N := N) (sc := sc) (o := .min1) (x := x) (as := as) (e := e) "min" rfl h
    obtain ⟨p1, p2, p3⟩ := sEs (.cons x as) c tk h2
    cases es with
    | nil => cases p3
    | cons e1 es => exact .val (pe_bltW c rfl h1 p1 (p2 e1 List.mem_cons_self) fun e he => p2 e (List.mem_cons_of_mem _ he)) rfl
  | .op .max1 .nil, X, a, T, CS, N, sc, R, Xc, e, c, tk, h => by simp [chkE] at h
  | .op .max1 (.cons x as), X, a, T, CS, N, sc, R, Xc, e, c, tk, h => by
    obtain ⟨f, es, p, rfl, h1, h2⟩ := chk_bltE (CS := CS) (N := N) (sc := sc) (o := .max1) (x := x) (as := as) (e := e) "max" rfl h
    obtain ⟨p1, p2, p3⟩ := sEs (.cons x as) c tk h2
    cases es with
    | nil => cases p3
    | cons e1 es => exact .val (pe_bltW c rfl h1 p1 (p2 e1 List.mem_cons_self) fun e he => p2 e (List.mem_cons_of_mem _ he)) rfl
  | .op .min2 .nil, X, a, T, CS, N, sc, R, Xc, e, c, tk, h => by simp [chkE] at h
  | .op .min2 (.cons x as), X, a, T, CS, N, sc, R, Xc, e, c, tk, h => by
    obtain ⟨f, es, p, rfl, h1, h2⟩ := chk_bltE (CS := CS) (N := N) (sc := sc) (o := .min2) (x := x) (as := as) (e := e) "min" rfl h
    obtain ⟨p1, p2, p3⟩ := sEs (.cons x as) c tk h2
    cases es with
    | nil => cases p3
    | cons e1 es => exact .val (pe_bltW c rfl h1 p1 (p2 e1 List.mem_cons_self) fun e he => p2 e (List.mem_cons_of_mem _ he)) rfl
  | .op .max2 .nil, X, a, T, CS, N, sc, R, Xc, e, c, tk, h => by simp [chkE] at h
  | .op .max2 (.cons x as), X, a, T, CS, N, sc, R, Xc, e, c, tk, h => by
    obtain ⟨f, es, p, rfl, h1, h2⟩ := chk_bltE (CS := CS) (N := N) (sc := sc) (o := .max2) (x := x) (as := as) (e := e) "max" rfl h
    obtain ⟨p1, p2, p3⟩ := sEs (.cons x as) c tk h2
    cases es with
    | nil => cases p3
    | cons e1 es => exact .val (pe_bltW c rfl h1 p1 (p2 e1 List.mem_cons_self) fun e he => p2 e (List.mem_cons_of_mem _ he)) rfl
  | .op .abs .nil, X, a, T, CS, N, sc, R, Xc, e, c, tk, h => by simp [chkE] at h
  | .op .abs (.cons x as), X, a, T, CS, N, sc, R, Xc, e, c, tk, h => by
    obtain ⟨f, es, p, rfl, h1, h2⟩ := chk_bltE (CS := CS) (N := N) (sc := sc) (o := .abs) (x := x) (as := as) (e := e) "abs" rfl h
    obtain ⟨p1, p2, p3⟩ := sEs (.cons x as) c tk h2
    cases es with
    | nil => cases p3
    | cons e1 es => exact .val (pe_bltW c rfl h1 p1 (p2 e1 List.mem_cons_self) fun e he => p2 e (List.mem_cons_of_mem _ he)) rfl
  | .op .int .nil, X, a, T, CS, N, sc, R, Xc, e, c, tk, h => by simp [chkE] at h
  | .op .int (.cons x as), X, a, T, CS, N, sc, R, Xc, e, c, tk, h => by
    obtain ⟨f, es, p, rfl, h1, h2⟩ := chk_bltE (CS := CS) (N := N) (sc := sc) (o := .int) (x := x) (as := as) (e := e) "int" rfl h
    obtain ⟨p1, p2, p3⟩ := sEs (.cons x as) c tk h2
    cases es with
    | nil => cases p3
    | cons e1 es => exact .val (pe_bltW c rfl h1 p1 (p2 e1 List.mem_cons_self) fun e he => p2 e (List.mem_cons_of_mem _ he)) rfl
theorem sEs : ∀ (es : Es) {X : Cx} {a : Act} {T : Tab} {CS : CkT} {N : List Str} {sc : Scope} {R : Nat} {Xc : Ex → REnv → Prop} {xs : List Expr}, Ctx X a T CS N sc R → Takes X (wX a X.mg Xc) → chkEs CS N sc es xs = true → PA X xs (tL a T Xc es) ∧ (∀ e ∈ xs, plainE e = true) ∧ xs.length = es.len
  | .nil, X, a, T, CS, N, sc, R, Xc, xs, c, tk, h => by
    cases xs with
    | nil => exact ⟨pa_nil, (fun _ h => nomatch h), rfl⟩
    | cons x xs => simp [chkEs] at h
  | .cons e es, X, a, T, CS, N, sc, R, Xc, xs, c, tk, h => by
    cases xs with
    | nil => simp [chkEs] at h
    | cons x xs =>
      simp only [chkEs, Bool.and_eq_true] at h
      obtain ⟨p1, p2, p3⟩ := sEs es c tk h.2
      refine ⟨pa_cons ((sE e c tk h.1.2).ar c h.1.2) p1 (star_plain _ _ h.1.1), fun y hy => ?_, by rw [List.length_cons, p3]; rfl⟩
      rcases List.mem_cons.mp hy with rfl | hy
      · exact h.1.1
      · exact p2 y hy
theorem sI : ∀ (it : Itr) {X : Cx} {a : Act} {T : Tab} {CS : CkT} {N : List Str} {sc : Scope} {R : Nat} {Xc : Ex → REnv → Prop} {t x : Expr}, Ctx X a T CS N sc R → Takes X (wX a X.mg Xc) → chkI CS N sc it t x = true → PI X t x (tI a T Xc it) ∧ plainE x = true
  | .seq (.cons e .nil), X, a, T, CS, N, sc, R, Xc, t, x, c, tk, h => by
    simp only [chkI, Bool.and_eq_true] at h
    exact ⟨pi_seqW c.hK ((sE e c tk h.2).ar c h.2), h.1⟩
  | .seq .nil, X, a, T, CS, N, sc, R, Xc, t, x, c, tk, h => by simp [chkI] at h
  | .seq (.cons e (.cons e2 es)), X, a, T, CS, N, sc, R, Xc, t, x, c, tk, h => by simp [chkI] at h
  | .rng as, X, a, T, CS, N, sc, R, Xc, t, x, c, tk, h => by
    simp only [chkI] at h
    split at h
    · rename_i f es p ev
      cases vCall_inv ev
      simp only [Bool.and_eq_true, Bool.or_eq_true, decide_eq_true_eq] at h
      obtain ⟨p1, p2, p3⟩ := sEs as c tk h.2
      exact ⟨pi_rngW c h.1.2 p1 p2 p3 (by omega), rfl⟩
    · cases h
  | .enum as, X, a, T, CS, N, sc, R, Xc, t, x, c, tk, h => by
    simp only [chkI] at h
    split at h
    · rename_i f es p ev
      cases vCall_inv ev
      simp only [Bool.and_eq_true, decide_eq_true_eq] at h
      obtain ⟨⟨⟨h1, h2⟩, h3⟩, h4⟩ := h
      match as, es, h3, h4 with
      | .cons e .nil, [x], _, h4 =>
        simp only [chkEs, Bool.and_eq_true] at h4
        exact ⟨pi_enumW c h1 h2 ((sE e c tk h4.1.2).ar c h4.1.2) h4.1.1, rfl⟩
      | .nil, _, h3, _ => cases h3
      | .cons _ (.cons _ _), _, h3, _ => simp [Es.len] at h3
      | .cons _ .nil, [], _, h4 => simp [chkEs] at h4
      | .cons _ .nil, _ :: _ :: _, _, h4 => simp [chkEs] at h4
    · cases h
  | .zip as, X, a, T, CS, N, sc, R, Xc, t, x, c, tk, h => by
    simp only [chkI] at h
    split at h
    · rename_i f es p ev
      cases vCall_inv ev
      simp only [Bool.and_eq_true, decide_eq_true_eq] at h
      obtain ⟨⟨⟨h1, h2⟩, h3⟩, h4⟩ := h
      match as, es, h3, h4 with
      | .cons e (.cons e2 .nil), [x, y], _, h4 =>
        simp only [chkEs, Bool.and_eq_true] at h4
        exact ⟨pi_zipW c h1 h2 ((sE e c tk h4.1.2).ar c h4.1.2) ((sE e2 c tk h4.2.1.2).ar c h4.2.1.2) h4.1.1 h4.2.1.1, rfl⟩
      | .nil, _, h3, _ => cases h3
      | .cons _ .nil, _, h3, _ => simp [Es.len] at h3
      | .cons _ (.cons _ (.cons _ _)), _, h3, _ => simp [Es.len] at h3
      | .cons _ (.cons _ .nil), [], _, h4 => simp [chkEs] at h4
      | .cons _ (.cons _ .nil), [_], _, h4 => simp [chkEs] at h4
      | .cons _ (.cons _ .nil), _ :: _ :: _ :: _, _, h4 => simp [chkEs] at h4
    · cases h
end
end Wm
namespace Wm
open PySem PySem.Spec PyProof.Rows L2

section
variable {K : PySem.W.Frag} {H : Hp}
theorem dMap_K {x : W} {v : V} (hx : RW K H x v) (k : L2.Key) : ∀ {kvs : List (L2.Key × D)} {us : List (L2.Key × V)} {F : List Addr}, RDk K H kvs us F → ∃ F', RDk K H (kvs.map fun kv => if kv.1 = k then (kv.1, .w x) else kv) (us.map fun kv => if kv.1 = k then (kv.1, v) else kv) F' ∧ F'.Sublist F
  | [], _, _, ⟨e1, e2⟩ => by subst e1 e2; exact ⟨[], ⟨rfl, rfl⟩, List.Sublist.refl _⟩
  | (k', d) :: kvs, _, _, ⟨u, r, F1, F2, e, h1, h2, e2⟩ => by
    subst e e2
    obtain ⟨F', h3, h4⟩ := dMap_K hx k h2
    by_cases hk : k' = k
    · refine ⟨[] ++ F', ?_, (List.nil_sublist F1).append h4⟩
      rw [List.map_cons, List.map_cons, if_pos hk, if_pos hk]
      exact ⟨v, _, [], F', rfl, ⟨hx, rfl⟩, h3, rfl⟩
    · refine ⟨F1 ++ F', ?_, (List.Sublist.refl F1).append h4⟩
      rw [List.map_cons, List.map_cons, if_neg hk, if_neg hk]
      exact ⟨u, _, F1, F', rfl, h1, h3, rfl⟩
theorem dApp_K {x : W} {v : V} (hx : RW K H x v) (k : L2.Key) : ∀ {kvs : List (L2.Key × D)} {us : List (L2.Key × V)} {F : List Addr}, RDk K H kvs us F → RDk K H (kvs ++ [(k, .w x)]) (us ++ [(k, v)]) F
  | [], _, _, ⟨e1, e2⟩ => by subst e1 e2; exact ⟨v, [], [], [], rfl, ⟨hx, rfl⟩, ⟨rfl, rfl⟩, rfl⟩
  | (k', d) :: kvs, _, _, ⟨u, r, F1, F2, e, h1, h2, e2⟩ => by
    subst e e2
    exact ⟨u, _, F1, F2, rfl, h1, dApp_K hx k h2, rfl⟩
theorem dAny_K (k : L2.Key) : ∀ {kvs : List (L2.Key × D)} {us : List (L2.Key × V)} {F : List Addr}, RDk K H kvs us F → (kvs.any fun kv => decide (kv.1 = k)) = (us.any fun kv => decide (kv.1 = k))
  | [], _, _, ⟨e1, e2⟩ => by subst e1; rfl
  | (k', d) :: kvs, _, _, ⟨u, r, F1, F2, e, h1, h2, e2⟩ => by
    subst e
    rw [List.any_cons, List.any_cons, dAny_K k h2]
theorem dPut_K {x : W} {v : V} (hx : RW K H x v) (k : L2.Key) {kvs : List (L2.Key × D)} {us : List (L2.Key × V)} {F : List Addr} (h : RDk K H kvs us F) : ∃ F', RDk K H (dPut kvs k (.w x)) (putK us k v) F' ∧ F'.Sublist F := by
  unfold dPut putK
  rw [← dAny_K k h]
  by_cases ha : (kvs.any fun kv => decide (kv.1 = k)) = true
  · rw [if_pos ha, if_pos ha]; exact dMap_K hx k h
  · rw [if_neg ha, if_neg ha]; exact ⟨F, dApp_K hx k h, List.Sublist.refl _⟩
theorem dMap_T {x : W} {v : V} (hx : RW K H x v) (k : List L2.Key) : ∀ {kvs : List (List L2.Key × D)} {us : List (List L2.Key × V)} {F : List Addr}, RDt K H kvs us F → ∃ F', RDt K H (kvs.map fun kv => if kv.1 = k then (kv.1, .w x) else kv) (us.map fun kv => if kv.1 = k then (kv.1, v) else kv) F' ∧ F'.Sublist F
  | [], _, _, ⟨e1, e2⟩ => by subst e1 e2; exact ⟨[], ⟨rfl, rfl⟩, List.Sublist.refl _⟩
  | (k', d) :: kvs, _, _, ⟨u, r, F1, F2, e, h1, h2, e2⟩ => by
    subst e e2
    obtain ⟨F', h3, h4⟩ := dMap_T hx k h2
    by_cases hk : k' = k
    · refine ⟨[] ++ F', ?_, (List.nil_sublist F1).append h4⟩
      rw [List.map_cons, List.map_cons, if_pos hk, if_pos hk]
      exact ⟨v, _, [], F', rfl, ⟨hx, rfl⟩, h3, rfl⟩
    · refine ⟨F1 ++ F', ?_, (List.Sublist.refl F1).append h4⟩
      rw [List.map_cons, List.map_cons, if_neg hk, if_neg hk]
      exact ⟨u, _, F1, F', rfl, h1, h3, rfl⟩
theorem dApp_T {x : W} {v : V} (hx : RW K H x v) (k : List L2.Key) : ∀ {kvs : List (List L2.Key × D)} {us : List (List L2.Key × V)} {F : List Addr}, RDt K H kvs us F → RDt K H (kvs ++ [(k, .w x)]) (us ++ [(k, v)]) F
  | [], _, _, ⟨e1, e2⟩ => by subst e1 e2; exact ⟨v, [], [], [], rfl, ⟨hx, rfl⟩, ⟨rfl, rfl⟩, rfl⟩
  | (k', d) :: kvs, _, _, ⟨u, r, F1, F2, e, h1, h2, e2⟩ => by
    subst e e2
    exact ⟨u, _, F1, F2, rfl, h1, dApp_T hx k h2, rfl⟩
theorem dAny_T (k : List L2.Key) : ∀ {kvs : List (List L2.Key × D)} {us : List (List L2.Key × V)} {F : List Addr}, RDt K H kvs us F → (kvs.any fun kv => decide (kv.1 = k)) = (us.any fun kv => decide (kv.1 = k))
  | [], _, _, ⟨e1, e2⟩ => by subst e1; rfl
  | (k', d) :: kvs, _, _, ⟨u, r, F1, F2, e, h1, h2, e2⟩ => by
    subst e
    rw [List.any_cons, List.any_cons, dAny_T k h2]
theorem dPut_T {x : W} {v : V} (hx : RW K H x v) (k : List L2.Key) {kvs : List (List L2.Key × D)} {us : List (List L2.Key × V)} {F : List Addr} (h : RDt K H kvs us F) : ∃ F', RDt K H (dPut kvs k (.w x)) (putK us k v) F' ∧ F'.Sublist F := by
  unfold dPut putK
  rw [← dAny_T k h]
  by_cases ha : (kvs.any fun kv => decide (kv.1 = k)) = true
  · rw [if_pos ha, if_pos ha]; exact dMap_T hx k h
  · rw [if_neg ha, if_neg ha]; exact ⟨F, dApp_T hx k h, List.Sublist.refl _⟩
end
def rSetA : V → V → V → Hp → (Hp → Prop) → Prop := fun o i v H Q => rSetL o i v H Q ∨ ∃ b H', o = .ref b ∧ DPut H b i v H' ∧ Q H'
theorem set_any {X : Cx} (hu : X.A.units + 200 < cLine) : PSet X rSetA := by
  intro pins s σ H o i v ov iv u Q I ro ri rv h
  rcases h with h | ⟨b, H', rfl, g, q⟩
  · exact set_list pins s σ H o i v ov iv u Q I ro ri rv h
  · obtain rfl : ov = Value.ref b := ro
    exact d_setItem (by omega) I g ri rv fun s' I' => ⟨H', I', q⟩
section
variable {a : Act} {ρ ρ1 : REnv} {G T' : List (V × SV)} {σ : St} {H : Hp}
theorem setI_sp {i : Nat} {ae ak : Arg} {d : D} {ok : Op} {ue uk v : V} {Q0 : REnv → Prop} {Q : Hp → Prop} (ek : rd ρ ak = some ok) (e : putIn ρ ae = some (d, ρ1)) (q : setIWp i d ok.d ρ1 Q0) (rel : Rel a ρ (G ++ T') σ H) (he : At σ T' ue ae) (hk : At σ T' uk ak) (hv : σ[i]? = some (some v))
    (f : ∀ ρ' H', Q0 ρ' → Rel a ρ' G σ H' → Q H') : rSetA v uk ue H Q := by
  obtain ⟨Fk, rk⟩ := hk.rep rel ek
  unfold setIWp at q
  split at q
  · rename_i ds es
    split at q
    · rename_i j ej
      split at q
      · rename_i n en
        obtain ⟨b, ts, t0, ev, hb, ed, e1, e2, okt, k⟩ := Rel.inL e rel he es
        rw [hv] at ev
        cases ev
        subst ed
        have rk : uk = .int j := by rw [ej] at rk; exact rk.1
        subst rk
        have hn : n < ts.length := by have := (ixN_seq en).2.1; simpa using this
        have r2 := k (ts.set n t0) (ts.eraseIdx n) (List.eraseIdx_sublist _ _) (by
          rw [List.set_eq_take_append_cons_drop, if_pos hn, List.eraseIdx_eq_take_drop_succ]
          exact List.perm_middle)
        rw [List.map_set, List.map_set, e1, e2] at r2
        exact .inl ⟨b, _, j, n, rfl, rfl, hb, by simpa using en, f _ _ q r2⟩
      · exact q.elim
    · exact q.elim
  · rename_i kvs es
    split at q
    · rename_i x ex
      split at q
      · rename_i k ekk
        obtain ⟨dw, hl, q⟩ := q
        obtain ⟨r1, F, F0, g, rd0, nd, mi, di⟩ := putIn_ok e rel he
        obtain ⟨w, rfl⟩ : ∃ w, d = .w w := by cases d <;> first | exact ⟨_, rfl⟩ | cases dw
        obtain ⟨v', ev⟩ := r1.sl i _ es
        rw [hv] at ev
        cases ev
        have ei := itm_slot (G := G) es hv
        obtain ⟨b, us, G0, rfl, hb, rdk, ef⟩ := g.rep ei
        have n0 := g.nd ei rfl
        rw [ef] at n0
        obtain ⟨F', h1, h2⟩ := dPut_K rd0.1 k rdk
        have nb : b ∉ F' := fun h => (List.nodup_cons.mp n0).1 (h2.subset h)
        have mu : Mut (H b) := by rw [hb]; trivial
        obtain ⟨r2, _⟩ := r1.writeL (F0 := []) (o := .dK (putK us k ue)) (d' := .dK (dPut kvs k (.w w))) (G' := F') g (fun _ h => nomatch h) (fun _ _ _ _ _ h => nomatch h) ei rfl ⟨b, _, F', rfl, upd_same, h1.stab (Stab.mut mu) fun c hc => upd_ne fun z => nb (z ▸ hc), rfl⟩ (List.nodup_cons.mpr ⟨nb, List.Nodup.sublist h2 (List.nodup_cons.mp n0).2⟩) fun c hc => by rw [ef]; exact .inl (List.mem_cons_of_mem _ (h2.subset hc))
        have rk : uk = kV k := by rw [ex] at rk; exact RW.key ekk rk.1
        subst rk
        exact .inr ⟨b, _, rfl, DPut.k hb (by rw [← rdk.length]; exact hl), f _ _ q r2⟩
      · exact q.elim
    · exact q.elim
  · rename_i kvs es
    split at q
    · rename_i xs ex
      split at q
      · rename_i k ekk
        obtain ⟨dw, hl, q⟩ := q
        obtain ⟨r1, F, F0, g, rd0, nd, mi, di⟩ := putIn_ok e rel he
        obtain ⟨w, rfl⟩ : ∃ w, d = .w w := by cases d <;> first | exact ⟨_, rfl⟩ | cases dw
        obtain ⟨v', ev⟩ := r1.sl i _ es
        rw [hv] at ev
        cases ev
        have ei := itm_slot (G := G) es hv
        obtain ⟨b, us, G0, rfl, hb, rdk, ef⟩ := g.rep ei
        have n0 := g.nd ei rfl
        rw [ef] at n0
        obtain ⟨F', h1, h2⟩ := dPut_T rd0.1 k rdk
        have nb : b ∉ F' := fun h => (List.nodup_cons.mp n0).1 (h2.subset h)
        have mu : Mut (H b) := by rw [hb]; trivial
        obtain ⟨r2, _⟩ := r1.writeL (F0 := []) (o := .dT (putK us k ue)) (d' := .dT (dPut kvs k (.w w))) (G' := F') g (fun _ h => nomatch h) (fun _ _ _ _ _ h => nomatch h) ei rfl ⟨b, _, F', rfl, upd_same, h1.stab (Stab.mut mu) fun c hc => upd_ne fun z => nb (z ▸ hc), rfl⟩ (List.nodup_cons.mpr ⟨nb, List.Nodup.sublist h2 (List.nodup_cons.mp n0).2⟩) fun c hc => by rw [ef]; exact .inl (List.mem_cons_of_mem _ (h2.subset hc))
        rw [ex] at rk
        obtain ⟨⟨tb, tvs, rfl, ht, rws⟩, _⟩ := rk
        rw [RWs.keys ekk rws] at ht
        exact .inr ⟨b, _, rfl, DPut.t hb ht (by rw [← rdk.length]; exact hl), f _ _ q r2⟩
      · exact q.elim
    · exact q.elim
  · exact q.elim
theorem live_inv {i : Nat} (h : live ρ i = true) : ∃ s, ρ[i]? = some (some s) := by
  unfold live at h
  split at h
  · rename_i s e; exact ⟨s, e⟩
  · cases h
end
section
variable {X : Cx}
/-- o[i] = v, o a list or a dict -/
theorem ps_setA {o i value : Expr} {to ti tv : TE} {pos pos' : Pos} (hu : X.A.units + 200 < cLine) (ho : PE X o to) (hi : PE X i ti) (hv : PE X value tv) (hs : swapsWith value (some (.Subscript o i pos')) pos.line X.env = pure false) :
    PS X (.Assign [.Subscript o i pos'] value pos) (fun D σ H => tv σ H fun v H1 => to σ H1 fun x H2 => ti σ H2 fun y H3 => rSetA x y v H3 fun H4 => D.nx σ H4) := by
  refine ⟨fun pins s σ H D I h => ?_⟩
  refine wpAny_Assign_Subscript (thn (hv.run pins s σ H _ I h) fun r s1 ⟨v, H1, I1, rv, q1⟩ => thn (ho.run pins s1 σ H1 _ I1 q1) fun u s2 ⟨x, H2, I2, rx, q2⟩ => thn (hi.run pins s2 σ H2 _ I2 q2) fun iv s3 ⟨y, H3, I3, ry, q3⟩ => ?_) hs
  exact thn (set_any hu pins s3 σ H3 x y v u iv r _ I3 rx ry rv q3) fun _ s4 ⟨H', I', q⟩ => ⟨σ, H', I', q⟩
end
end Wm
namespace Wm
open PySem PySem.Spec PyProof.Rows L2

structure EndsOk (a : Act) (G : List (V × SV)) (k : WK) (Dn : Ends) : Prop where
  nx : ∀ ρ σ H, k.nx ρ → Rel a ρ G σ H → Dn.nx σ H
  rt : ∀ d ρ σ v H, k.rt d ρ → Rel a ρ (G ++ [(v, ⟨.own, d⟩)]) σ H → Dn.rt v H
  bk : ∀ ρ σ H, k.bk ρ → Rel a ρ G σ H → Dn.bk σ H
  ct : ∀ ρ σ H, k.ct ρ → Rel a ρ G σ H → Dn.ct σ H
def tS (a : Act) (T : Tab) (Xc : Ex → REnv → Prop) (s : S) : TS := fun Dn σ H => ∃ p ρ G k, pf p G ∧ Rel a ρ G σ H ∧ wpS T Xc p s ρ k ∧ EndsOk a G k Dn
def tSs (a : Act) (T : Tab) (Xc : Ex → REnv → Prop) (s : Ss) : TS := fun Dn σ H => ∃ p ρ G k, pf p G ∧ Rel a ρ G σ H ∧ wpSs T Xc p s ρ k ∧ EndsOk a G k Dn
theorem PS.mono {X : Cx} {s : Stmt} {t t' : TS} (h : PS X s t) (k : ∀ D σ H, t' D σ H → t D σ H) : PS X s t' := ⟨fun pins s σ H D I q => h.run pins s σ H D I (k D σ H q)⟩
theorem PSs.mono {X : Cx} {s : List Stmt} {t t' : TS} (h : PSs X s t) (k : ∀ D σ H, t' D σ H → t D σ H) : PSs X s t' := ⟨fun pins s σ H D I q => h.run pins s σ H D I (k D σ H q)⟩
section
variable {a : Act} {ρ : REnv} {G : List (V × SV)} {σ : St} {H : Hp}
theorem Rel.asOwn {v : V} {s : SV} {d : D} (r : Rel a ρ (G ++ [(v, s)]) σ H) (h : ownD s = some d) : Rel a ρ (G ++ [(v, ⟨.own, d⟩)]) σ H := by
  obtain ⟨m, d'⟩ := s
  cases d' with
  | w x =>
    cases h
    obtain ⟨_, q⟩ := r.tmpRep
    exact r.pre.pushW q.1
  | _ =>
    cases m with
    | own => cases h; exact r
    | _ => cases h
/-- other slots are watched -/
theorem Rel.watch (r : Rel a ρ G σ H) {pr : List (Nat × V)} (h : ∀ q ∈ pr, σ[q.1]? = some (some q.2)) : Rel { a with pr := pr } ρ G σ H := ⟨r.len, r.sl, h, r.ext, r.good⟩
theorem Rel.unwatch {pr : List (Nat × V)} (r : Rel { a with pr := pr } ρ G σ H) (h : ∀ q ∈ a.pr, q ∈ pr) : Rel a ρ G σ H := ⟨r.len, r.sl, fun q hq => r.pr q (h q hq), r.ext, r.good⟩
theorem Serves.watch {J : L2.It} {R : Rows} {T' : List (V × SV)} {wv pr : List (Nat × V)} (h : Serves a J R T' wv) (hp : ∀ q ∈ a.pr, q ∈ pr) : Serves { a with pr := pr } J R T' wv := fun i ρ G1 G2 σ H r st hw => by
  obtain ⟨h1, h2⟩ := h i ρ G1 G2 σ H (r.unwatch hp) st hw
  refine ⟨fun row e => ⟨(h1 row e).1, fun x H' y => ?_⟩, h2⟩
  rcases (h1 row e).2 x H' y with ⟨s, e1, r1⟩ | ⟨t, vs, e1, e2, e3, e4, r1⟩
  · exact .inl ⟨s, e1, r1.watch r.pr⟩
  · exact .inr ⟨t, vs, e1, e2, e3, e4, r1.watch r.pr⟩
end
section
variable {X : Cx} {a : Act} {T : Tab} {CS : CkT} {N : List Str} {sc : Scope} {R : Nat} {Xc : Ex → REnv → Prop}
theorem pr_ne (c : Ctx X a T CS N sc R) {i : Nat} (h : (!CS.pr.contains i) = true) : ∀ q ∈ a.pr, q.1 ≠ i := fun q hq e => by
  have := c.pr q hq
  rw [e] at this
  rw [this] at h
  cases h
theorem ps_asgW (c : Ctx X a T CS N sc R) {i : Nat} {e : E} {st : Stmt} {te : TE} (h : PS X st (tAsg te (gName i))) (ht : ∀ σ H Q, tE a T Xc e σ H Q → te σ H Q) (hp : (!CS.pr.contains i) = true) : PS X st (tS a T Xc (.asg i e)) :=
  PS.mono h fun Dn σ H q => by
    obtain ⟨p, ρ, G, k, hpf, rel, q, ok⟩ := q
    exact ht σ H _ ⟨p, ρ, G, _, hpf, rel, q, fun s ρ' v H' q' r => ok.nx _ _ _ q' (r.store (pr_ne c hp))⟩
theorem partsL_row {ρ ρ2 : REnv} {G : List (V × SV)} {σ : St} {H : Hp} {v : V} {s : SV} {is : List Nat} {ss : List SV} {Q : St → Hp → Prop} (rel : Rel a ρ (G ++ [(v, s)]) σ H) (e : partsL s = some ss) (es : setAll is ss ρ = some ρ2) (hp : ∀ i ∈ is, ∀ q ∈ a.pr, q.1 ≠ i) (k : ∀ σ2, Rel a ρ2 G σ2 H → Q σ2 H) : gT a.K (.tup is) v σ H Q := by
  obtain ⟨m, d⟩ := s
  have viaT : parts ⟨m, d⟩ = some ss → gT a.K (.tup is) v σ H Q := fun ep => set_row (tg := .tup is) (ρ2 := ρ2) (.inl ⟨_, rfl, rel⟩) (by
    show (match parts ⟨m, d⟩ with | some ss => setAll is ss ρ | none => none) = some ρ2
    rw [ep]; exact es) hp fun σ2 r _ _ => k σ2 r
  cases d with
  | w x => cases x <;> first | exact viaT e | cases e
  | tup ds => exact viaT e
  | lst ds =>
    have e : (match allW ds with | some ws => some (ws.map sw) | none => none) = some ss := e
    split at e
    · rename_i ws ew
      cases e
      obtain ⟨_, b, vs, G0, rfl, hb, rd, _⟩ := rel.tmpRep
      rw [allW_map ew] at rd
      have rws := (RDs.flat.mp rd).1
      have hl : vs.length = (ws.map sw).length := by rw [List.length_map, rws.length]
      have hl2 : vs.length = is.length := hl.trans (setAll_len es).symm
      exact .inr ⟨b, vs, rfl, .inl (.inl hb), hl2, gNames_run hl2 (k _ ((rel.pre.wTemps rws).stores hl es hp))⟩
    · cases e
  | fz _ => cases e
  | dK _ => cases e
  | dT _ => cases e
/-- a tuple or flat list in a slot, seen as a temp -/
theorem Rel.look {ρ : REnv} {G : List (V × SV)} {σ : St} {H : Hp} {j : Nat} {m : Mode} {d : D} {v : V} (rel : Rel a ρ G σ H) (es : ρ[j]? = some (some ⟨m, d⟩)) (ev : σ[j]? = some (some v)) (hd : ∀ b, topOf (v, (⟨m, d⟩ : SV)) = some b → m ≠ .own) : Rel a ρ (G ++ [(v, ⟨partMode m, d⟩)]) σ H := by
  obtain ⟨F, g⟩ := rel.good
  have ei := itm_slot (G := G) es ev
  refine rel.push rel.ext (g.part ei (g.rep ei) (fun b hb => hb) fun o b hb => ?_)
  exact (hd b (edge_inl hb) o).elim
end
end Wm
namespace Wm
open PySem PySem.Spec PyProof.Rows L2

section
variable {X : Cx} {a : Act} {T : Tab} {CS : CkT} {N : List Str} {sc : Scope} {R : Nat} {Xc : Ex → REnv → Prop}
theorem pm_slot (j : Nat) (m : Mode) (d : D) : Op.pm ⟨some j, m, d⟩ = partMode m := by cases m <;> rfl
theorem partsL_slot {ρ ρ2 : REnv} {G : List (V × SV)} {σ : St} {H : Hp} {v : V} {j : Nat} {m : Mode} {d : D} {is : List Nat} {ss : List SV} {Q : St → Hp → Prop} (rel : Rel a ρ G σ H) (ej : ρ[j]? = some (some ⟨m, d⟩)) (ev : σ[j]? = some (some v)) (e : partsL ⟨partMode m, d⟩ = some ss) (es : setAll is ss ρ = some ρ2) (hp : ∀ i ∈ is, ∀ q ∈ a.pr, q.1 ≠ i) (k : ∀ σ2, Rel a ρ2 G σ2 H → Q σ2 H) : gT a.K (.tup is) v σ H Q := by
  obtain ⟨F, g⟩ := rel.good
  have r0 := g.rep (itm_slot (G := G) ej ev)
  cases d with
  | w x =>
    have rw' : RW a.K H x v := r0.1
    exact partsL_row (s := ⟨partMode m, .w x⟩) (rel.pushW rw') e es hp k
  | tup ds => exact partsL_row (rel.look ej ev fun b h => by cases v <;> cases h) e es hp k
  | lst ds =>
    have e : (match allW ds with | some ws => some (ws.map sw) | none => none) = some ss := e
    split at e
    · rename_i ws ew
      cases e
      obtain ⟨b, vs, G0, rfl, hb, rd, _⟩ := r0
      rw [allW_map ew] at rd
      have rws := (RDs.flat.mp rd).1
      have hl : vs.length = (ws.map sw).length := by rw [List.length_map, rws.length]
      have hl2 : vs.length = is.length := hl.trans (setAll_len es).symm
      exact .inr ⟨b, vs, rfl, .inl (.inl hb), hl2, gNames_run hl2 (k _ ((rel.wTemps rws).stores hl es hp))⟩
    · cases e
  | fz _ => cases e
  | dK _ => cases e
  | dT _ => cases e
theorem swStores {t x : Expr} {env : Env} (hs : simpleV x = true) : swappedStores [t] x env = pure none := by
  cases x <;> first | (cases t <;> rfl) | cases hs
theorem swSole {t x : Expr} {env : Env} {l : Nat} (hs : simpleV x = true) : swapsWithSole [t] x l env = pure false := by
  cases x <;> first | rfl | cases hs
theorem simple_nc {x : Expr} (hs : simpleV x = true) : notComp x = true := by
  cases x <;> first | rfl | cases hs
theorem all_pr (c : Ctx X a T CS N sc R) {is : List Nat} (h : is.all (fun i => !CS.pr.contains i) = true) : ∀ i ∈ is, ∀ q ∈ a.pr, q.1 ≠ i := fun i hi => pr_ne c (List.all_eq_true.mp h i hi)
theorem asg1 {t : Expr} {env : Env} {es : List Expr} {k : Nat} {p : Pos} (h : t = .Tuple es k p) : (assignEach [t] env).map (·.2) = [assign t env] := by subst h; rfl
theorem ps_unpW (c : Ctx X a T CS N sc R) {is : List Nat} {e : E} {t x : Expr} {pos : Pos} (ht : chkTg N sc (.tup is) t = true) (hp : is.all (fun i => !CS.pr.contains i) = true) (hk : chkE CS N sc e x = true) (he : SE X a T Xc e x) (hs : simpleV x = true) : PS X (.Assign [t] x pos) (tS a T Xc (.unp is e)) := by
  have hK := c.hK
  have hg := pg_tg c ht
  have tt : ∃ es k p, t = .Tuple es k p := by
    have h : (match vTuple t with | some es => chkSts N sc is es | none => false) = true := ht
    split at h
    · rename_i es ee
      obtain ⟨k, p, rfl⟩ := vTuple_inv ee
      exact ⟨es, k, p, rfl⟩
    · cases h
  obtain ⟨es0, k0, p0, rfl⟩ := tt
  cases e with
  | var j =>
    refine PS.mono (ps_asg (c.peVar hk) hg (swSole hs) (swStores hs) rfl) fun Dn σ H q => ?_
    obtain ⟨p, ρ, G, k, hpf, rel, q, ok⟩ := q
    simp only [wpS, rd] at q
    split at q
    · rename_i o eo
      split at eo
      · rename_i s es
        cases eo
        split at q
        · rename_i ss ep
          split at q
          · rename_i ρ' e'
            obtain ⟨v, ev⟩ := rel.sl j s es
            rw [pm_slot] at ep
            refine ⟨v, ev, ?_⟩
            rw [hK]
            exact partsL_slot rel (m := s.m) (d := s.d) es ev ep e' (all_pr c hp) fun σ2 r2 => ok.nx _ _ _ q r2
          · exact q.elim
        · exact q.elim
      · cases eo
    · exact q.elim
  | _ =>
    refine PS.mono (ps_asg he.1 hg (swSole hs) (swStores hs) rfl) fun Dn σ H q => ?_
    obtain ⟨p, ρ, G, k, hpf, rel, q, ok⟩ := q
    refine ⟨p, ρ, G, (fun s ρ' => match partsL s with
      | some ss => (match setAll is ss ρ' with
        | some ρ2 => k.nx ρ2
        | none => False)
      | none => False), hpf, rel, q, fun s ρ' v H' q' r => ?_⟩
    dsimp only at q' ⊢
    split at q'
    · rename_i ss ep
      split at q'
      · rename_i ρ2 e2
        rw [hK]
        exact partsL_row r ep e2 (all_pr c hp) fun σ2 r2 => ok.nx _ _ _ q' r2
      · exact q'.elim
    · exact q'.elim
theorem ps_setIW (c : Ctx X a T CS N sc R) {i : Nat} {kx e : E} {o kk x : Expr} {pos pos' : Pos} (ho : chkVar N sc i o = true) (hk : PE X kk (tAr a T Xc kx)) (he : PE X x (tAr a T Xc e)) (hn : notComp x = true) : PS X (.Assign [.Subscript o kk pos'] x pos) (tS a T Xc (.setI i kx e)) := by
  refine PS.mono (ps_setA c.hu (c.peVar ho) hk he (swaps_plain hn)) fun Dn σ H q => ?_
  obtain ⟨p, ρ, G, k, hpf, rel, q, ok⟩ := q
  obtain ⟨hl, q⟩ := q
  obtain ⟨s, es⟩ := live_inv hl
  obtain ⟨v, ev⟩ := rel.sl i s es
  refine tAr_mono (fun ve H1 z => ⟨v, ev, z⟩) (tAs_two (R := fun vs H1 => ∃ ve vk, vs = [ve, vk] ∧ rSetA v vk ve H1 fun H4 => Dn.nx σ H4) ⟨p, ρ, G, _, hpf, rel, q, fun args ρ' T' vs H' q' ar r => ?_⟩ |> tAr_mono fun ve H1 z => tAr_mono (fun vk H2 z => by
    obtain ⟨ve', vk', e1, z⟩ := z
    cases e1
    exact z) z)
  split at q'
  · rename_i ae ak
    split at q'
    · rename_i okk ek
      split at q'
      · rename_i d ρ2 ep
        obtain ⟨ve, vk, rfl, h1, h2⟩ := paired2 ar.at_
        exact ⟨ve, vk, rfl, setI_sp ek ep q' r h1 h2 ev fun ρ3 H3 q3 r3 => ok.nx _ _ _ q3 r3⟩
      · exact q'.elim
    · exact q'.elim
  · exact q'.elim
theorem ps_exprW {e : E} {x : Expr} {pos : Pos} (he : PE X x (tE a T Xc e)) (hn : notComp x = true) : PS X (.Expr x pos) (tS a T Xc (.expr e)) :=
  PS.mono (ps_expr he (swaps_plain hn)) fun Dn σ H q => by
    obtain ⟨p, ρ, G, k, hpf, rel, q, ok⟩ := q
    exact ⟨p, ρ, G, _, hpf, rel, q, fun s ρ' v H' q' r => ok.nx _ _ _ q' r.pre⟩
theorem ps_retW {e : E} {x : Expr} {pos : Pos} (he : PE X x (tE a T Xc e)) : PS X (.Return (some x) pos) (tS a T Xc (.ret e)) :=
  PS.mono (ps_ret he) fun Dn σ H q => by
    obtain ⟨p, ρ, G, k, hpf, rel, q, ok⟩ := q
    refine ⟨p, ρ, G, _, hpf, rel, q, fun s ρ' v H' q' r => ?_⟩
    split at q'
    · rename_i d ed
      exact ok.rt d ρ' σ v H' q' (r.asOwn ed)
    · exact q'.elim
theorem ps_retNW {pos : Pos} : PS X (.Return none pos) (tS a T Xc .retN) :=
  PS.mono ps_retN fun Dn σ H q => by
    obtain ⟨p, ρ, G, k, hpf, rel, q, ok⟩ := q
    exact ok.rt (.w .non) ρ σ .non H q (rel.pushW rfl)
theorem ps_ifW' {cd : E} {l r : Ss} {x : Expr} {ls rs : List Stmt} {pos : Pos} (hc : PT X x (tT a T Xc cd)) (hl : PSs X ls (tSs a T Xc l)) (hr : PSs X rs (tSs a T Xc r)) : PS X (.If x ls rs pos) (tS a T Xc (.ifS cd l r)) :=
  PS.mono (ps_if hc hl hr) fun Dn σ H q => by
    obtain ⟨p, ρ, G, k, hpf, rel, q, ok⟩ := q
    refine ⟨p, ρ, G, _, hpf, rel, q, fun s ρ' H' q' r => ?_⟩
    split at q'
    · rename_i eb
      refine ⟨true, eb, ?_⟩
      simp only [↓reduceIte]
      exact ⟨p, ρ', G, k, hpf, r, q', ok⟩
    · rename_i eb
      refine ⟨false, eb, ?_⟩
      simp only [Bool.false_eq_true, ↓reduceIte]
      exact ⟨p, ρ', G, k, hpf, r, q', ok⟩
    · exact q'.elim
theorem ps_whlW (hpo : PassesOwn (model X.prog X.w) X.A X.env X.xe) {cd : E} {b : Ss} {x : Expr} {bs : List Stmt} {pos : Pos} (hc : PT X x (tT a T Xc cd)) (hb : PSs X bs (tSs a T Xc b)) : PS X (.While x bs [] pos) (tS a T Xc (.whl cd b)) :=
  PS.mono (ps_while hpo hc hb) fun Dn σ H q => by
    obtain ⟨p, ρ, G, k, hpf, rel, q, ok⟩ := q
    obtain ⟨I, ⟨m0, i0⟩, step⟩ := q
    refine ⟨fun m σ H => ∃ ρ, I m ρ ∧ Rel a ρ G σ H, ⟨m0, ρ, i0, rel⟩, fun m σ1 H1 ⟨ρ1, i1, r1⟩ => ?_⟩
    refine ⟨p, ρ1, G, _, hpf, r1, step m ρ1 i1, fun s ρ' H' q' r => ?_⟩
    split at q'
    · rename_i eb
      refine ⟨true, eb, ?_⟩
      simp only [↓reduceIte]
      refine ⟨fun σ' H' => ∃ m', m' < m ∧ ∃ ρ, I m' ρ ∧ Rel a ρ G σ' H', fun σ' H' ⟨m', lt, ρ2, i2, r2⟩ => ⟨m', lt, ρ2, i2, r2⟩, p, ρ', G, _, hpf, r, q', ⟨?_, ?_, ?_, ?_⟩⟩
      · rintro ρ2 σ2 H2 ⟨m', lt, i2⟩ r2
        exact ⟨m', lt, ρ2, i2, r2⟩
      · exact ok.rt
      · exact ok.nx
      · rintro ρ2 σ2 H2 ⟨m', lt, i2⟩ r2
        exact ⟨m', lt, ρ2, i2, r2⟩
    · rename_i eb
      refine ⟨false, eb, ?_⟩
      simp only [Bool.false_eq_true, ↓reduceIte]
      exact ok.nx _ _ _ q' r
    · exact q'.elim
theorem ps_forW (c : Ctx X a T CS N sc R) (hpo : PassesOwn (model X.prog X.w) X.A X.env X.xe) {tg : Tg} {it : Itr} {b : Ss} {t x : Expr} {bs : List Stmt} {pos : Pos} (ht : chkTg N sc tg t = true) (hsl : tg.slots.all (fun j => !(it.ws ++ CS.pr).contains j) = true) (hi : PI X t x (tI a T Xc it)) (hx : plainE x = true)
    (hb : ∀ wv : List (Nat × V), (∀ q ∈ wv, q.1 ∈ it.ws) → PSs X bs (tSs { a with pr := wv ++ a.pr } T Xc b)) : PS X (.For t x bs [] pos) (tS a T Xc (.forS tg it b)) := by
  have hK := c.hK
  have hb' : PSs X bs (fun D σ H => ∃ wv : List (Nat × V), (∀ q ∈ wv, q.1 ∈ it.ws) ∧ tSs { a with pr := wv ++ a.pr } T Xc b D σ H) := ⟨fun pins s σ H D I ⟨wv, h1, h2⟩ => (hb wv h1).run pins s σ H D I h2⟩
  refine PS.mono (ps_for hpo c.calm hi (pg_tg c ht) hb' (folded_plain _ hx)) fun Dn σ H q => ?_
  obtain ⟨p, ρ, G, k, hpf, rel, q, ok⟩ := q
  refine ⟨p, ρ, G, _, hpf, rel, q, fun Rw ρ' T' wv H' J q' r' hp' hwv sr => ?_⟩
  have sr' := sr.watch (pr := wv ++ a.pr) fun q hq => List.mem_append_right _ hq
  have back : ∀ {ρ : REnv} {G : List (V × SV)} {σ : St} {H : Hp}, Rel { a with pr := wv ++ a.pr } ρ G σ H → Rel a ρ G σ H := fun r => r.unwatch fun q hq => List.mem_append_right _ hq
  have hslots : ∀ i ∈ tg.slots, ∀ q ∈ wv ++ a.pr, q.1 ≠ i := fun i hi q hq e => by
    have h1 := List.all_eq_true.mp hsl i hi
    have : (it.ws ++ CS.pr).contains i = true := by
      rcases List.mem_append.mp hq with h | h
      · have := (hwv q h).1
        rw [← e]
        simp [this]
      · have := c.pr q h
        rw [← e]
        simp at this ⊢
        exact .inr this
    rw [this] at h1
    cases h1
  refine ⟨fun i m σ H => m = Rw.rows.length - i ∧ i ≤ Rw.rows.length ∧ ∃ ρi, forW Rw.watch (fun r ρ1 q => match tg.set r ρ1 with
      | some ρ2 => wpSs T Xc (p || Rw.held) b ρ2 { nx := q, rt := k.rt, bk := k.nx, ct := q }
      | none => False) (Rw.rows.drop i) ρi k.nx ∧ Rel { a with pr := wv ++ a.pr } ρi (G ++ T') σ H, ⟨_, rfl, Nat.zero_le _, ρ', q', r'.watch fun q hq => ?_⟩, fun i m σ1 H1 w => ?_⟩
  · rcases List.mem_append.mp hq with h | h
    · exact (hwv q h).2
    · exact r'.pr q h
  · obtain ⟨em, hi, ρi, hl, rel1⟩ := w
    have hw' : ∀ q ∈ wv, σ1[q.1]? = some (some q.2) := fun q hq => rel1.pr q (List.mem_append_left _ hq)
    cases hr : Rw.rows.drop i with
    | nil =>
      rw [hr] at hl
      have hle : Rw.rows.length ≤ i := List.drop_eq_nil_iff.mp hr
      exact .inl ⟨(sr' i ρi G [] σ1 H1 (by rw [List.append_nil]; exact rel1) hl.1 hw').2 hle, ok.nx _ _ _ hl.2 (back rel1).pre⟩
    | cons r rs =>
      rw [hr] at hl
      obtain ⟨st, htn⟩ := hl
      have hlt : i < Rw.rows.length := by
        have := congrArg List.length hr
        rw [List.length_drop, List.length_cons] at this
        omega
      have hri : Rw.rows[i]? = some r := by
        have := List.getElem?_drop (xs := Rw.rows) (i := i) (j := 0)
        rw [hr] at this
        simpa using this.symm
      have hrs : Rw.rows.drop (i + 1) = rs := by
        rw [← List.tail_drop, hr]
        rfl
      obtain ⟨go, yl⟩ := (sr' i ρi G [] σ1 H1 (by rw [List.append_nil]; exact rel1) st hw').1 r hri
      refine .inr ⟨go, fun σ' H' => ∃ ρ', forW Rw.watch (fun r ρ1 q => match tg.set r ρ1 with
        | some ρ2 => wpSs T Xc (p || Rw.held) b ρ2 { nx := q, rt := k.rt, bk := k.nx, ct := q }
        | none => False) rs ρ' k.nx ∧ Rel { a with pr := wv ++ a.pr } ρ' (G ++ T') σ' H', fun σ' H' ⟨ρ2, q1, q2⟩ => ⟨Rw.rows.length - (i + 1), by omega, rfl, hlt, ρ2, by rw [hrs]; exact q1, q2⟩, fun x H2 hy => ?_⟩
      split at htn
      · rename_i ρ2 e2
        have row := yl x H2 hy
        rw [List.append_nil] at row
        rw [hK]
        refine set_row (a := { a with pr := wv ++ a.pr }) row e2 hslots fun σ2 r2 _ _ => ?_
        refine ⟨wv, fun q hq => (hwv q hq).1, p || Rw.held, ρ2, G ++ T', _, hp', r2, htn, ⟨?_, ?_, ?_, ?_⟩⟩
        · exact fun ρ3 σ3 H3 q3 r3 => ⟨ρ3, q3, r3⟩
        · exact fun d ρ3 σ3 v H3 q3 r3 => ok.rt d ρ3 σ3 v H3 q3 (back r3).midDrop
        · exact fun ρ3 σ3 H3 q3 r3 => ok.nx ρ3 σ3 H3 q3 (back r3).pre
        · exact fun ρ3 σ3 H3 q3 r3 => ⟨ρ3, q3, r3⟩
      · exact htn.elim
theorem pss_consW {s : S} {ss : Ss} {st : Stmt} {sts : List Stmt} (h1 : PS X st (tS a T Xc s)) (h2 : PSs X sts (tSs a T Xc ss)) : PSs X (st :: sts) (tSs a T Xc (.cons s ss)) :=
  PSs.mono (pss_cons h1 h2) fun Dn σ H q => by
    obtain ⟨p, ρ, G, k, hpf, rel, q, ok⟩ := q
    exact ⟨p, ρ, G, _, hpf, rel, q, ⟨fun ρ' σ' H' q' r => ⟨p, ρ', G, k, hpf, r, q', ok⟩, ok.rt, ok.bk, ok.ct⟩⟩
theorem pss_nilW : PSs X [] (tSs a T Xc .nil) := PSs.mono pss_nil fun Dn σ H q => by
  obtain ⟨p, ρ, G, k, hpf, rel, q, ok⟩ := q
  exact ok.nx _ _ _ q rel
end
end Wm
namespace Wm
open PySem PySem.Spec PyProof.Rows L2

theorem Ctx.watch {X : Cx} {a : Act} {T : Tab} {CS : CkT} {N : List Str} {sc : Scope} {R : Nat} (c : Ctx X a T CS N sc R) {ws : List Nat} {wv : List (Nat × V)} (h : ∀ q ∈ wv, q.1 ∈ ws) : Ctx X { a with pr := wv ++ a.pr } T { CS with pr := ws ++ CS.pr } N sc R :=
  ⟨c.hN, c.nd, c.hK, c.scp, c.fn, c.kind, c.calm, c.room, c.blt, c.tab, fun q hq => by
    show (ws ++ CS.pr).contains q.1 = true
    rcases List.mem_append.mp hq with z | z
    · simp [h q z]
    · have := c.pr q z
      simp at this ⊢
      exact .inr this, c.fs, c.cst⟩
theorem Takes.watch {X : Cx} {a : Act} {Xc : Ex → REnv → Prop} {pr : List (Nat × V)} (tk : Takes X (wX a X.mg Xc)) (h : ∀ q ∈ a.pr, q ∈ pr) : Takes X (wX { a with pr := pr } X.mg Xc) := Takes.imp tk fun c d σ H ⟨ρ, x, r, e, q⟩ => ⟨ρ, x, r.unwatch h, e, q⟩
theorem op_lc {CS : CkT} {N : List Str} {sc : Scope} {o : Prim} {as : Es} {elt : Expr} {gs : List Comprehension} {s2 : Scope} {p2 : Pos} (h : chkE CS N sc (.op o as) (.ListComp elt gs s2 p2) = true) : False := by
  cases o
  case slice lo hi => cases lo <;> cases hi <;> rcases as with _ | ⟨x1, _ | ⟨x2, _ | ⟨x3, _ | ⟨x4, as⟩⟩⟩⟩ <;> simp [chkE, vSub, primName] at h
  all_goals (rcases as with _ | ⟨x1, _ | ⟨x2, _ | ⟨x3, _ | ⟨x4, as⟩⟩⟩⟩ <;> simp [chkE, vBin, vCmp, vUn, vSub, vList, vTuple, vCall, primName] at h)
/-- the two forms of name = value -/
theorem ps_asgE {X : Cx} {a : Act} {T : Tab} {CS : CkT} {N : List Str} {sc : Scope} {R : Nat} {Xc : Ex → REnv → Prop} (c : Ctx X a T CS N sc R) (tk : Takes X (wX a X.mg Xc)) {i : Nat} {e : E} {t x : Expr} {pos : Pos} (ht : chkSt N sc i t = true) (hp : (!CS.pr.contains i) = true) (hk : chkE CS N sc e x = true) (hc : (notComp x || lcSet sc t x) = true) : PS X (.Assign [t] x pos) (tS a T Xc (.asg i e)) := by
  have htt := ht
  unfold chkSt at htt
  split at htt
  · rename_i y ey
    obtain ⟨p0, rfl⟩ := vName_inv ey
    simp only [Bool.and_eq_true, decide_eq_true_eq] at htt
    have hN : X.N.Nodup := by rw [c.hN]; exact c.nd
    have hi : X.N[i]? = some y := by rw [c.hN]; exact htt.1.1
    cases hn : notComp x with
    | true => exact ps_asgW c (ps_set hN hi (c.loc htt.1.2) (sE e c tk hk).1 (swaps_plain hn) (c.fn _ htt.1.2)) (fun _ _ _ q => q) hp
    | false =>
      rw [hn, Bool.false_or] at hc
      cases x with
      | ListComp elt gs s2 p2 =>
        have hc : ((match sc.names.lookup y with | some .local => true | _ => false) && p0.line == p2.line && !(s2.names.any fun (n, k) => n == y && (k == .local || k == .cell))) = true := hc
        simp only [Bool.and_eq_true, Bool.not_eq_true'] at hc
        obtain ⟨⟨h1, h2⟩, h3⟩ := hc
        have hloc : X.env.scope.names.lookup y = some .local := by
          split at h1
          · rename_i el
            exact (c.scp y _ el).2 (by decide)
          · cases h1
        have hsw := sw_true (elt := elt) (gs := gs) (pos := p2) (l := pos.line) c.kind hloc h2 h3
        cases e with
        | lc tg it el own =>
          have hk' := hk
          simp only [chkE] at hk'
          split at hk'
          · rename_i x t i' s2' ev
            cases ev
            simp only [Bool.and_eq_true] at hk'
            obtain ⟨⟨⟨⟨⟨k1, k2⟩, k3⟩, k4⟩, k5⟩, k6⟩ := hk'
            obtain ⟨pi, hfold⟩ := sI it c tk k5
            refine ps_asgW c (ps_setLc (g := gT X.K tg) c.calm hN hi hloc hsw pi (c.blkOk k1) (fun s H C cl fp => pg_tg (c.blk k1 s H C cl fp) k2) (fun s H C cl fp => pts_nil) (fun s H C cl fp => (sE el (c.blk k1 s H C cl fp) takesF k6).1) (folded_plain _ hfold)) (fun σ H Q q => ?_) hp
            have := tE_lc c k4 k3 q
            rw [← c.hK] at this
            exact this
          · cases hk'
        | lcIf tg it cd el own =>
          have hk' := hk
          simp only [chkE] at hk'
          split at hk'
          · rename_i x t i' g s2' ev
            cases ev
            simp only [Bool.and_eq_true] at hk'
            obtain ⟨⟨⟨⟨⟨⟨⟨k0, k1⟩, k2⟩, k3⟩, k4⟩, k5⟩, k7⟩, k6⟩ := hk'
            obtain ⟨pi, hfold⟩ := sI it c tk k5
            refine ps_asgW c (ps_setLc (g := gT X.K tg) c.calm hN hi hloc hsw pi (c.blkOk k1) (fun s H C cl fp => pg_tg (c.blk k1 s H C cl fp) k2) (fun s H C cl fp => pts_one ((sE cd (c.blk k1 s H C cl fp) takesF k7).2.1 k0)) (fun s H C cl fp => (sE el (c.blk k1 s H C cl fp) takesF k6).1) (folded_plain _ hfold)) (fun σ H Q q => ?_) hp
            have := tE_lcIf c k4 k3 q
            rw [← c.hK] at this
            exact this
          · cases hk'
        | var j =>
          have hk : chkVar N sc j (.ListComp elt gs s2 p2) = true := hk
          simp [chkVar, vName] at hk
        | cst w => simp [chkE, vConst] at hk
        | glob x n => simp [chkE, chkGl, vName] at hk
        | and u v => simp [chkE, vBool] at hk
        | or u v => simp [chkE, vBool] at hk
        | not u => simp [chkE, vUn] at hk
        | ite u v w => simp [chkE, vIf] at hk
        | chain o1 o2 u v w => simp [chkE, vCmp] at hk
        | call f as => simp [chkE, vCall] at hk
        | mth m j as => simp [chkE, vCall] at hk
        | op o as => exact (op_lc hk).elim
      | _ => cases hc
  · cases htt
mutual
theorem sS : ∀ (s : S) {X : Cx} {a : Act} {T : Tab} {CS : CkT} {N : List Str} {sc : Scope} {R : Nat} {Xc : Ex → REnv → Prop} {st : Stmt}, Ctx X a T CS N sc R → Takes X (wX a X.mg Xc) → PassesOwn (model X.prog X.w) X.A X.env X.xe → chkS CS N sc s st = true → PS X st (tS a T Xc s)
  | .asg i e, X, a, T, CS, N, sc, R, Xc, st, c, tk, po, h => by
    simp only [chkS] at h
    split at h
    · simp only [Bool.and_eq_true] at h
      exact ps_asgE c tk h.1.1.1 h.1.1.2 h.1.2 h.2
    · cases h
  | .unp is e, X, a, T, CS, N, sc, R, Xc, st, c, tk, po, h => by
    simp only [chkS] at h
    split at h
    · simp only [Bool.and_eq_true] at h
      exact ps_unpW c h.1.1.1 h.1.1.2 h.1.2 (sE e c tk h.1.2) h.2
    · cases h
  | .setI i k e, X, a, T, CS, N, sc, R, Xc, st, c, tk, po, h => by
    simp only [chkS] at h
    split at h
    · simp only [Bool.and_eq_true] at h
      exact ps_setIW c h.1.1.1 ((sE k c tk h.1.1.2).ar c h.1.1.2) ((sE e c tk h.1.2).ar c h.1.2) h.2
    · cases h
  | .expr e, X, a, T, CS, N, sc, R, Xc, st, c, tk, po, h => by
    simp only [chkS] at h
    split at h
    · simp only [Bool.and_eq_true] at h
      exact ps_exprW (sE e c tk h.1).1 h.2
    · cases h
  | .ret e, X, a, T, CS, N, sc, R, Xc, st, c, tk, po, h => by
    simp only [chkS] at h
    split at h
    · exact ps_retW (sE e c tk h).1
    · cases h
  | .retN, X, a, T, CS, N, sc, R, Xc, st, c, tk, po, h => by
    simp only [chkS] at h
    split at h
    · exact ps_retNW
    · cases h
  | .ifS cd l r, X, a, T, CS, N, sc, R, Xc, st, c, tk, po, h => by
    simp only [chkS] at h
    split at h
    · simp only [Bool.and_eq_true] at h
      exact ps_ifW' ((sE cd c tk h.1.1.2).2.1 h.1.1.1) (sSs l c tk po h.1.2) (sSs r c tk po h.2)
    · cases h
  | .forS tg it b, X, a, T, CS, N, sc, R, Xc, st, c, tk, po, h => by
    simp only [chkS] at h
    split at h
    · simp only [Bool.and_eq_true] at h
      obtain ⟨pi, hf⟩ := sI it c tk h.1.2
      exact ps_forW c po h.1.1.1 h.1.1.2 pi hf fun wv hw => sSs b (c.watch hw) (Takes.watch tk fun q hq => List.mem_append_right _ hq) po h.2
    · cases h
  | .whl cd b, X, a, T, CS, N, sc, R, Xc, st, c, tk, po, h => by
    simp only [chkS] at h
    split at h
    · simp only [Bool.and_eq_true] at h
      exact ps_whlW po ((sE cd c tk h.1.2).2.1 h.1.1) (sSs b c tk po h.2)
    · cases h
  | .brk, X, a, T, CS, N, sc, R, Xc, st, c, tk, po, h => by
    simp only [chkS] at h
    split at h
    · exact PS.mono ps_break fun Dn σ H q => by
        obtain ⟨p, ρ, G, k, hpf, rel, q, ok⟩ := q
        exact ok.bk _ _ _ q rel
    · cases h
  | .cnt, X, a, T, CS, N, sc, R, Xc, st, c, tk, po, h => by
    simp only [chkS] at h
    split at h
    · exact PS.mono ps_continue fun Dn σ H q => by
        obtain ⟨p, ρ, G, k, hpf, rel, q, ok⟩ := q
        exact ok.ct _ _ _ q rel
    · cases h
  | .pass, X, a, T, CS, N, sc, R, Xc, st, c, tk, po, h => by
    simp only [chkS] at h
    split at h
    · exact PS.mono ps_pass fun Dn σ H q => by
        obtain ⟨p, ρ, G, k, hpf, rel, q, ok⟩ := q
        exact ok.nx _ _ _ q rel
    · exact PS.mono ps_doc fun Dn σ H q => by
        obtain ⟨p, ρ, G, k, hpf, rel, q, ok⟩ := q
        exact ok.nx _ _ _ q rel
    · cases h
  | .stuck, X, a, T, CS, N, sc, R, Xc, st, c, tk, po, h => ⟨fun pins s σ H D I q => by
    obtain ⟨p, ρ, G, k, hpf, rel, q, ok⟩ := q
    exact (show False from q).elim⟩
  | .par2 i j u v, X, a, T, CS, N, sc, R, Xc, st, c, tk, po, h => by simp [chkS] at h
theorem sSs : ∀ (s : Ss) {X : Cx} {a : Act} {T : Tab} {CS : CkT} {N : List Str} {sc : Scope} {R : Nat} {Xc : Ex → REnv → Prop} {st : List Stmt}, Ctx X a T CS N sc R → Takes X (wX a X.mg Xc) → PassesOwn (model X.prog X.w) X.A X.env X.xe → chkSs CS N sc s st = true → PSs X st (tSs a T Xc s)
  | .nil, X, a, T, CS, N, sc, R, Xc, st, c, tk, po, h => by
    cases st with
    | nil => exact pss_nilW
    | cons x xs => simp [chkSs] at h
  | .cons s ss, X, a, T, CS, N, sc, R, Xc, st, c, tk, po, h => by
    cases st with
    | nil => simp [chkSs] at h
    | cons x xs =>
      simp only [chkSs, Bool.and_eq_true] at h
      exact pss_consW (sS s c tk po h.1) (sSs ss c tk po h.2)
end
end Wm
namespace Wm
open PySem PySem.Spec PyProof.Rows L2

def prOf : List Bool → List V → Nat → List (Nat × V)
  | true :: bs, v :: vs, n => (n, v) :: prOf bs vs (n + 1)
  | false :: bs, _ :: vs, n => prOf bs vs (n + 1)
  | _, _, _ => []
def prSlots : List Bool → Nat → List Nat
  | true :: bs, n => n :: prSlots bs (n + 1)
  | false :: bs, n => prSlots bs (n + 1)
  | [], _ => []
theorem prOf_mem : ∀ {bs : List Bool} {vs : List V} {n : Nat} {q : Nat × V}, q ∈ prOf bs vs n → n ≤ q.1 ∧ bs[q.1 - n]? = some true ∧ vs[q.1 - n]? = some q.2
  | true :: bs, v :: vs, n, q, h => by
    rcases List.mem_cons.mp h with rfl | h
    · exact ⟨Nat.le_refl _, by simp, by simp⟩
    · obtain ⟨h1, h2, h3⟩ := prOf_mem h
      refine ⟨by omega, ?_, ?_⟩
      · rw [show q.1 - n = (q.1 - (n + 1)) + 1 by omega]; simpa using h2
      · rw [show q.1 - n = (q.1 - (n + 1)) + 1 by omega]; simpa using h3
  | false :: bs, v :: vs, n, q, h => by
    obtain ⟨h1, h2, h3⟩ := prOf_mem (bs := bs) h
    refine ⟨by omega, ?_, ?_⟩
    · rw [show q.1 - n = (q.1 - (n + 1)) + 1 by omega]; simpa using h2
    · rw [show q.1 - n = (q.1 - (n + 1)) + 1 by omega]; simpa using h3
  | [], _, _, _, h => by simp [prOf] at h
  | true :: _, [], _, _, h => by simp [prOf] at h
  | false :: _, [], _, _, h => by simp [prOf] at h
theorem mem_prOf : ∀ {bs : List Bool} {vs : List V} {n i : Nat} {v : V}, bs[i]? = some true → vs[i]? = some v → (n + i, v) ∈ prOf bs vs n
  | [], _, _, _, _, h, _ => by simp at h
  | _ :: _, [], _, _, _, _, h => by simp at h
  | true :: bs, u :: vs, n, 0, v, _, h => by
    simp at h
    subst h
    exact List.mem_cons_self
  | false :: bs, u :: vs, n, 0, v, h, _ => by simp at h
  | true :: bs, u :: vs, n, i + 1, v, h, h' => by
    have := mem_prOf (n := n + 1) (bs := bs) (vs := vs) (i := i) (v := v) (by simpa using h) (by simpa using h')
    rw [show n + (i + 1) = n + 1 + i by omega]
    exact List.mem_cons_of_mem _ this
  | false :: bs, u :: vs, n, i + 1, v, h, h' => by
    have := mem_prOf (n := n + 1) (bs := bs) (vs := vs) (i := i) (v := v) (by simpa using h) (by simpa using h')
    rw [show n + (i + 1) = n + 1 + i by omega]
    exact this
theorem prSlots_mem : ∀ {bs : List Bool} {n i : Nat}, bs[i]? = some true → n + i ∈ prSlots bs n
  | [], _, _, h => by simp at h
  | true :: bs, n, 0, _ => List.mem_cons_self
  | false :: bs, n, 0, h => by simp at h
  | true :: bs, n, i + 1, h => by
    rw [show n + (i + 1) = n + 1 + i by omega]
    exact List.mem_cons_of_mem _ (prSlots_mem (by simpa using h))
  | false :: bs, n, i + 1, h => by
    rw [show n + (i + 1) = n + 1 + i by omega]
    exact prSlots_mem (bs := bs) (by simpa using h)
theorem initE_get : ∀ {bs : List Bool} {ds : List D} {i : Nat} {s : SV}, (initE bs ds)[i]? = some (some s) → ∃ b d, bs[i]? = some b ∧ ds[i]? = some d ∧ s = mkSV (if b then .own else .par) d
  | [], _, _, _, h => by simp [initE] at h
  | _ :: _, [], _, _, h => by simp [initE] at h
  | b :: bs, d :: ds, 0, s, h => by
    simp [initE] at h
    exact ⟨b, d, rfl, rfl, h.symm⟩
  | b :: bs, d :: ds, i + 1, s, h => by
    have h : (initE bs ds)[i]? = some (some s) := by simpa [initE] using h
    obtain ⟨b', d', h1, h2, h3⟩ := initE_get h
    exact ⟨b', d', by simpa using h1, by simpa using h2, h3⟩
theorem initE_len : ∀ {bs : List Bool} {ds : List D}, bs.length = ds.length → (initE bs ds).length = ds.length
  | [], [], _ => rfl
  | _ :: bs, _ :: ds, h => by simp [initE, initE_len (bs := bs) (ds := ds) (by simpa using h)]
  | [], _ :: _, h => by cases h
  | _ :: _, [], h => by cases h
theorem startE_get {f : Def} {ds : List D} {i : Nat} {s : SV} (h : (startE f ds)[i]? = some (some s)) : ∃ b d, f.sig[i]? = some b ∧ ds[i]? = some d ∧ s = mkSV (if b then .own else .par) d := by
  unfold startE at h
  by_cases hi : i < (initE f.sig ds).length
  · rw [List.getElem?_append_left hi] at h
    exact initE_get h
  · rw [List.getElem?_append_right (by omega)] at h
    have := List.mem_of_getElem? h
    simp at this
theorem startRel {K : PySem.W.Frag} {H : Hp} {f : Def} {ds : List D} {vs : List V} {Fs : Nat → List Addr} (si : SpIn K H f.sig ds vs Fs) (hl : f.ps.length = f.sig.length) (hN : f.ps.length ≤ f.N.length) : Rel ⟨K, H, MofS f.sig Fs, prOf f.sig vs 0⟩ (startE f ds) [] (L2.start f.N vs) H := by
  have sv : ∀ {i : Nat} {v : V}, vs[i]? = some v → (L2.start f.N vs)[i]? = some (some v) := fun {i v} e => by
    unfold L2.start
    have hi := (List.getElem?_eq_some_iff.mp e).1
    rw [List.getElem?_append_left (by rw [List.length_map]; exact hi), List.getElem?_map, e]
    rfl
  have vof : ∀ {i : Nat} {d : D}, ds[i]? = some d → ∃ v, vs[i]? = some v := fun {i d} e => by
    have hi := (List.getElem?_eq_some_iff.mp e).1
    have : i < vs.length := by rw [si.l2, ← si.l1]; exact hi
    exact ⟨_, List.getElem?_eq_getElem this⟩
  refine ⟨?_, fun i s e => ?_, fun q hq => ?_, fun b o e _ => e, fun k => match k with | .inl i => Fs i | .inr _ => [], ?_⟩
  · unfold startE L2.start
    rw [List.length_append, List.length_append, initE_len si.l1.symm, List.length_map, List.length_replicate, List.length_replicate, si.l1, si.l2]
  · obtain ⟨b, d, _, ed, _⟩ := startE_get e
    obtain ⟨v, ev⟩ := vof ed
    exact ⟨v, sv ev⟩
  · obtain ⟨_, _, h3⟩ := prOf_mem hq
    exact sv (by simpa using h3)
  · have cs : ∀ {k x}, itm (startE f ds) [] (L2.start f.N vs) k = some x → ∃ i b d, k = .inl i ∧ f.sig[i]? = some b ∧ ds[i]? = some d ∧ vs[i]? = some x.1 ∧ x.2 = mkSV (if b then .own else .par) d := fun {k x} e => by
      cases k with
      | inr j =>
        have e : ([] : List (V × SV))[j]? = some x := e
        simp at e
      | inl i =>
        obtain ⟨e1, e2⟩ := itm_slot_inv e
        obtain ⟨b, d, eb, ed, es⟩ := startE_get e1
        obtain ⟨v, ev⟩ := vof ed
        rw [sv ev] at e2
        cases e2
        exact ⟨i, b, d, rfl, eb, ed, ev, es⟩
    have wF : ∀ {i : Nat} {d : D} {v : V}, ds[i]? = some d → vs[i]? = some v → isW d = true → Fs i = [] := fun e e' w => (si.rep _ _ _ e e').wF w
    have ow : ∀ {i : Nat} {b : Bool} {d : D} {v : V}, f.sig[i]? = some b → ds[i]? = some d → vs[i]? = some v → (mkSV (if b then .own else .par) d).m = .own → f.sig[i]? = some true ∨ Fs i = [] := fun {i b d v} eb ed ev o => by
      rcases (mkSV_m (m := if b then .own else .par) (d := d)).2 with q | ⟨q, _⟩
      · cases b with
        | true => exact .inl eb
        | false => rw [o] at q; cases q
      · exact .inr (wF ed ev q)
    have nbrw : ∀ {b : Bool} {d : D}, (mkSV (if b then .own else .par) d).m ≠ .brw := fun {b d} z => by
      rcases (mkSV_m (m := if b then Mode.own else .par) (d := d)).2 with q | ⟨_, q⟩
      · rw [z] at q; cases b <;> cases q
      · rw [z] at q; cases q
    refine ⟨fun {k v s} e => ?_, fun {k v s} e o => ?_, fun {k v s} e o => ?_, fun {k k' x x'} n e e' o o' c hc => ?_, fun {k k' x x' c} n e e' o o' hc => ?_⟩
    · obtain ⟨i, b, d, rfl, eb, ed, ev, es⟩ := cs e
      have es : s = mkSV (if b then .own else .par) d := es
      subst es
      rw [mkSV_m.1]
      exact si.rep i d v ed ev
    · obtain ⟨i, b, d, rfl, eb, ed, ev, es⟩ := cs e
      have es : s = mkSV (if b then .own else .par) d := es
      subst es
      rcases ow eb ed ev o with q | q
      · exact si.nd i q
      · show (Fs i).Nodup
        rw [q]; exact List.nodup_nil
    · obtain ⟨i, b, d, rfl, eb, ed, ev, es⟩ := cs e
      have es : s = mkSV (if b then .own else .par) d := es
      subst es
      intro c hc
      have hc : c ∈ Fs i := hc
      rcases ow eb ed ev o with q | q
      · exact .inr ⟨i, q, hc⟩
      · rw [q] at hc; cases hc
    · obtain ⟨i, b, d, rfl, eb, ed, ev, es⟩ := cs e
      obtain ⟨j, b', d', rfl, eb', ed', ev', es'⟩ := cs e'
      have hc : c ∈ Fs i := hc
      show c ∉ Fs j
      rw [es] at o
      rcases ow eb ed ev o with q | q
      · exact si.dis i j (fun z => n (by rw [z])) (List.getElem?_eq_some_iff.mp eb).1 (List.getElem?_eq_some_iff.mp eb').1 q c hc
      · rw [q] at hc; cases hc
    · obtain ⟨j, b', d', rfl, eb', ed', ev', es'⟩ := cs e'
      rw [es'] at o'
      exact (nbrw o').elim
theorem outsOf_get : ∀ {sig : List Bool} {ρ : REnv} {outs : List D} {i : Nat} {d : D}, outsOf sig ρ = some outs → outAt sig outs i = some d → sig[i]? = some true ∧ ρ[i]? = some (some ⟨.own, d⟩)
  | [], _, _, _, _, _, h => by cases h
  | false :: bs, [], _, _, _, h, _ => by cases h
  | false :: bs, r :: ρ, outs, 0, d, h, h' => by cases outs <;> cases h'
  | false :: bs, r :: ρ, outs, i + 1, d, h, h' => by
    have h : outsOf bs ρ = some outs := h
    have h' : outAt bs outs i = some d := by cases outs <;> exact h'
    obtain ⟨h1, h2⟩ := outsOf_get h h'
    exact ⟨by simpa using h1, by simpa using h2⟩
  | true :: bs, [], _, _, _, h, _ => by cases h
  | true :: bs, none :: ρ, _, _, _, h, _ => by cases h
  | true :: bs, some ⟨.par, _⟩ :: ρ, _, _, _, h, _ => by cases h
  | true :: bs, some ⟨.brw, _⟩ :: ρ, _, _, _, h, _ => by cases h
  | true :: bs, some ⟨.own, d0⟩ :: ρ, outs, i, d, h, h' => by
    have h : (match outsOf bs ρ with | some ds => some (d0 :: ds) | none => none) = some outs := h
    split at h
    · rename_i ds e
      cases h
      cases i with
      | zero =>
        have h' : some d0 = some d := h'
        cases h'
        exact ⟨rfl, rfl⟩
      | succ i =>
        have h' : outAt bs ds i = some d := h'
        obtain ⟨h1, h2⟩ := outsOf_get e h'
        exact ⟨by simpa using h1, by simpa using h2⟩
    · cases h
theorem outsOf_len : ∀ {sig : List Bool} {ρ : REnv} {outs : List D}, outsOf sig ρ = some outs → outs.length = (sig.filter id).length
  | [], _, _, h => by
    have h : some ([] : List D) = some _ := h
    cases h; rfl
  | false :: bs, [], _, h => by cases h
  | false :: bs, r :: ρ, outs, h => by
    have h : outsOf bs ρ = some outs := h
    rw [outsOf_len h]; rfl
  | true :: bs, [], _, h => by cases h
  | true :: bs, none :: ρ, _, h => by cases h
  | true :: bs, some ⟨.par, _⟩ :: ρ, _, h => by cases h
  | true :: bs, some ⟨.brw, _⟩ :: ρ, _, h => by cases h
  | true :: bs, some ⟨.own, d0⟩ :: ρ, outs, h => by
    have h : (match outsOf bs ρ with | some ds => some (d0 :: ds) | none => none) = some outs := h
    split at h
    · rename_i ds e
      cases h
      rw [List.length_cons, outsOf_len e]; rfl
    · cases h
/-- at the end: what the caller gets -/
theorem endGood {K : PySem.W.Frag} {H H' : Hp} {sig : List Bool} {vs : List V} {Fs : Nat → List Addr} {ρ : REnv} {σ : St} {outs : List D} {G : List (V × SV)} {res : Option (V × SV)} (r : Rel ⟨K, H, MofS sig Fs, prOf sig vs 0⟩ ρ G σ H') (e : outsOf sig ρ = some outs) (hr : ∀ x, res = some x → G[0]? = some x) :
    ExtM (MofS sig Fs) H H' ∧ ∃ FP, Good K H (MofS sig Fs) H' (postIt sig vs outs res) FP := by
  obtain ⟨F, g⟩ := r.good
  refine ⟨r.ext, F, g.sub fun k x ek => ?_⟩
  cases k with
  | inl i =>
    have ek : (match outAt sig outs i, vs[i]? with | some d, some u => some (u, (⟨.own, d⟩ : SV)) | _, _ => none) = some x := ek
    split at ek
    · rename_i d u e1 e2
      cases ek
      obtain ⟨h1, h2⟩ := outsOf_get e e1
      have := r.pr (0 + i, u) (mem_prOf h1 e2)
      rw [Nat.zero_add] at this
      exact itm_slot h2 this
    · cases ek
  | inr j =>
    have ek : (if j = 0 then res else none) = some x := ek
    split at ek
    · rename_i hj
      subst hj
      exact hr x ek
    · cases ek
end Wm
namespace Wm
open PySem PySem.Spec PyProof.Rows L2

section
variable {P : Program} {w : World} {K : PySem.W.Frag} {mg : Str → Option Value} {base : Heap}
def TabOk (P : Program) (w : World) (K : PySem.W.Frag) (mg : Str → Option Value) (base : Heap) (T : Tab) (R : Nat) : Prop := ∀ f fn, T.find f = some fn → fn.lvl ≤ R ∧ ∃ ad fd ps, mg f = some (.ref ad) ∧ FnOk P w K mg base (L2.CX P w) fn.lvl ad fd ps (spOf K mg fn) ∧ PySem.W.keepIn K (.ref ad) = true ∧ Binds K fd ps []
/-- what a def's verification asks -/
structure FnChk (f : Def) (fn : Fn) (T : Tab) (CS : CkT) (st : Stmt) : Prop where
  sig : f.sig = fn.sig
  len : f.ps.length = f.sig.length
  scp : FnScope f.N f.ps (defScope st)
  chk : chkSs { CS with pr := prSlots f.sig 0 } f.N (defScope st) f.body (defBody st) = true
  ver : ∀ ds Q1 X1, ds.length = f.sig.length → fn.spec ds Q1 X1 → wpFn T f ds Q1 X1
theorem fn_ok {x qual : Str} {st : Stmt} {ad : Addr} {fd : FuncData} (F : L2.Fun K x qual st ad fd) {f : Def} {fn : Fn} {T : Tab} {CS : CkT} {k : Nat} (C : FnChk f fn T CS st) (tab : TabOk P w K mg base T k) (fs : ∀ g, CS.fs.contains g = true → (T.find g).isSome = true)
    (blt : ∀ x ∈ bltNames, mg x = none) (cst : ∀ x n, CS.cs.lookup x = some n → ∃ t, mg x = some (.int n t)) : FnOk P w K mg base (L2.CX P w) (k + 1) ad fd f.ps (spOf K mg fn) := by
  refine Fun.okX F C.scp (fun vs H Q E h => ?_) fun cdv A outer s H vs Q E hr hsp => ?_
  · obtain ⟨ds, Fs, si, _⟩ := h
    rw [si.l2, ← C.sig, C.len]
  · obtain ⟨ds, Fs, si, Q1, X1, sp, kr, kx⟩ := hsp
    have e := C.sig
    rw [← e] at si
    have wp := C.ver ds Q1 X1 si.l1 sp
    have hN : f.ps.length ≤ f.N.length := by
      have := congrArg List.length C.scp.pre
      rw [List.length_take] at this
      omega
    let a : Act := ⟨K, H, MofS f.sig Fs, prOf f.sig vs 0⟩
    let Xc : Ex → REnv → Prop := fun x ρ => match outsOf f.sig ρ with
      | some outs => X1 x outs
      | none => False
    have rel : Rel a (startE f ds) [] (L2.start f.N vs) H := startRel si C.len hN
    have c : Ctx (cxOf (L2.CX P w) P w K mg base f.N qual (defScope st) ad cdv A outer s H E) a T { CS with pr := prSlots f.sig 0 } f.N (defScope st) k := by
      refine ⟨rfl, C.scp.nd, rfl, fun y kd ek => ⟨fun z => .inr (by rw [← z]; exact ek), fun _ => ek⟩, fun _ _ => .inl rfl, C.scp.kind, rfl, hr, blt, tab, fun q hq => ?_, fs, cst⟩
      obtain ⟨h1, h2, h3⟩ := prOf_mem hq
      have := prSlots_mem (n := 0) h2
      show (prSlots f.sig 0).contains q.1 = true
      simpa using this
    have tk : Takes (cxOf (L2.CX P w) P w K mg base f.N qual (defScope st) ad cdv A outer s H E) (wX a mg Xc) := by
      refine Takes.imp (takes_of rfl rfl rfl rfl) fun cls d σ H' ⟨ρ, x, r, er, q⟩ => ?_
      have q : (match outsOf f.sig ρ with | some outs => X1 x outs | none => False) := q
      split at q
      · rename_i outs eo
        obtain ⟨g1, g2⟩ := endGood (res := none) r eo fun _ h => nomatch h
        rw [e] at g1 g2
        exact kx x outs cls d H' q (by rw [← e]; exact outsOf_len eo) g1 g2 er
      · exact q.elim
    refine ⟨tSs a T Xc f.body, sSs f.body c tk (passes_of rfl) C.chk, false, startE f ds, [], _, (fun _ y hy => nomatch hy), rel, wp, ⟨?_, ?_, ?_, ?_⟩⟩
    · intro ρ σ H' q r
      have q : (match outsOf f.sig ρ with | some outs => Q1 (.w .non) outs | none => False) := q
      split at q
      · rename_i outs eo
        have r1 : Rel a ρ ([] ++ [(V.non, (⟨.own, .w .non⟩ : SV))]) σ H' := r.pushW rfl
        obtain ⟨g1, g2⟩ := endGood (res := some (V.non, (⟨.own, .w .non⟩ : SV))) r1 eo fun _ h => by cases h; rfl
        rw [e] at g1 g2
        exact kr _ outs _ H' q (by rw [← e]; exact outsOf_len eo) g1 g2
      · exact q.elim
    · intro d ρ σ v H' q r
      have q : (match outsOf f.sig ρ with | some outs => Q1 d outs | none => False) := q
      split at q
      · rename_i outs eo
        obtain ⟨g1, g2⟩ := endGood (res := some (v, (⟨.own, d⟩ : SV))) r eo fun _ h => by cases h; rfl
        rw [e] at g1 g2
        exact kr _ outs _ H' q (by rw [← e]; exact outsOf_len eo) g1 g2
      · exact q.elim
    · exact fun ρ σ H' q => q.elim
    · exact fun ρ σ H' q => q.elim
end
end Wm
namespace Wm
open PySem PySem.Spec PyProof.Rows L2

theorem forW_rule {watch : List (Nat × SV)} {turn : List SV → REnv → (REnv → Prop) → Prop} {Q : REnv → Prop} (I : Nat → REnv → Prop) : ∀ {rows : List (List SV)} {n : Nat} {ρ : REnv}, I n ρ →
    (∀ (i : Nat) (r : List SV) (ρ : REnv) (k : REnv → Prop), rows[i]? = some r → I (n + i) ρ → (∀ ρ', I (n + i + 1) ρ' → k ρ') → stays watch ρ ∧ turn r ρ k) → (∀ ρ, I (n + rows.length) ρ → stays watch ρ ∧ Q ρ) → forW watch turn rows ρ Q
  | [], n, ρ, h0, _, hq => hq ρ h0
  | r :: rows, n, ρ, h0, hs, hq => by
    refine hs 0 r ρ _ rfl h0 fun ρ' h1 => ?_
    refine forW_rule I (n := n + 1) h1 (fun i r ρ k e hi hk => ?_) fun ρ hi => ?_
    · have := hs (i + 1) r ρ k (by simpa using e)
      rw [show n + (i + 1) = n + 1 + i by omega] at this
      exact this hi hk
    · refine hq ρ ?_
      rw [List.length_cons, show n + (rows.length + 1) = n + 1 + rows.length by omega]
      exact hi
theorem lcW_rule {watch : List (Nat × SV)} {turn : List SV → REnv → (Option D → REnv → Prop) → Prop} {Q : List D → REnv → Prop} (I : Nat → List D → REnv → Prop) : ∀ {rows : List (List SV)} {n : Nat} {acc : List D} {ρ : REnv}, I n acc ρ →
    (∀ (i : Nat) (r : List SV) (acc : List D) (ρ : REnv) (k : Option D → REnv → Prop), rows[i]? = some r → I (n + i) acc ρ → (∀ d ρ', I (n + i + 1) (acc ++ [d]) ρ' → acc.length < sizeLine → k (some d) ρ') → (∀ ρ', I (n + i + 1) acc ρ' → k none ρ') → stays watch ρ ∧ turn r ρ k) →
    (∀ acc ρ, I (n + rows.length) acc ρ → stays watch ρ ∧ Q acc ρ) → lcW watch turn rows acc ρ Q
  | [], n, acc, ρ, h0, _, hq => hq acc ρ h0
  | r :: rows, n, acc, ρ, h0, hs, hq => by
    have next : ∀ acc' ρ', I (n + 1) acc' ρ' → lcW watch turn rows acc' ρ' Q := fun acc' ρ' h1 => by
      refine lcW_rule I (n := n + 1) h1 (fun i r acc ρ k e hi hk hn => ?_) fun acc ρ hi => ?_
      · have := hs (i + 1) r acc ρ k (by simpa using e)
        rw [show n + (i + 1) = n + 1 + i by omega] at this
        exact this hi hk hn
      · refine hq acc ρ ?_
        rw [List.length_cons, show n + (rows.length + 1) = n + 1 + rows.length by omega]
        exact hi
    exact hs 0 r acc ρ _ rfl h0 (fun d ρ' h1 hl => ⟨hl, next _ ρ' h1⟩) fun ρ' h1 => next _ ρ' h1
/-- a comprehension that leaves the slots as they were -/
theorem lcW_map {watch : List (Nat × SV)} {turn : List SV → REnv → (Option D → REnv → Prop) → Prop} {Q : List D → REnv → Prop} {ρ : REnv} (g : List SV → Option D) (st : stays watch ρ) : ∀ {rows : List (List SV)} {acc : List D}, (∀ r ∈ rows, ∀ k : Option D → REnv → Prop, k (g r) ρ → turn r ρ k) → acc.length + rows.length ≤ sizeLine → Q (acc ++ rows.filterMap g) ρ → lcW watch turn rows acc ρ Q
  | [], acc, _, _, q => ⟨st, by simpa using q⟩
  | r :: rows, acc, h, hl, q => by
    refine ⟨st, h r List.mem_cons_self _ ?_⟩
    rw [List.length_cons] at hl
    rw [List.filterMap_cons] at q
    cases hg : g r with
    | none =>
      rw [hg] at q
      exact lcW_map g st (fun r' hr => h r' (List.mem_cons_of_mem _ hr)) (by omega) q
    | some d =>
      rw [hg] at q
      refine ⟨by omega, lcW_map g st (fun r' hr => h r' (List.mem_cons_of_mem _ hr)) (by rw [List.length_append, List.length_singleton]; omega) ?_⟩
      rw [List.append_assoc]
      exact q
end Wm
namespace Wm
open PySem PySem.Spec PyProof.Rows L2
class Kn (α : Type) where
  k : α
def obf {α : Type} (o : Option α) (f : α → Prop) : Prop := match o with
  | some a => f a
  | none => False
def ob {α : Type} (o : Option α) [f : Kn (α → Prop)] : Prop := obf o f.k
def bc (o : Option Bool) (t f : Prop) : Prop := match o with
  | some true => t
  | some false => f
  | none => False
theorem ob_some {α : Type} (a : α) (f : Kn (α → Prop)) : @ob α (some a) f = f.k a := propext ⟨id, id⟩
theorem bc_t (t f : Prop) : bc (some true) t f = t := propext ⟨id, id⟩
theorem bc_f (t f : Prop) : bc (some false) t f = f := propext ⟨id, id⟩
theorem bc_dec {P : Prop} [Decidable P] {t f : Prop} (h1 : P → t) (h2 : ¬P → f) : bc (some (decide P)) t f := by
  by_cases h : P
  · rw [decide_eq_true h]; exact h1 h
  · rw [decide_eq_false h]; exact h2 h
theorem bc_of {b : Bool} {t f : Prop} (h1 : b = true → t) (h2 : b = false → f) : bc (some b) t f := by
  cases b
  · exact h2 rfl
  · exact h1 rfl
theorem bc_and (a b : Bool) (t f : Prop) : bc (some a) (bc (some b) t f) f = bc (some (a && b)) t f := by cases a <;> rfl
theorem bc_or (a b : Bool) (t f : Prop) : bc (some a) t (bc (some b) t f) = bc (some (a || b)) t f := by cases a <;> rfl
theorem bc_same (b : Bool) (t : Prop) : bc (some b) t t = t := by cases b <;> rfl
theorem bc_if {b : Bool} {α : Type} {k : α → REnv → Prop} {ρ : REnv} {x y : α} (h : k (if b then x else y) ρ) : bc (some b) (k x ρ) (k y ρ) := by
  cases b
  · exact h
  · exact h
theorem bc_not (b : Bool) (t f : Prop) : bc (some (!b)) t f = bc (some b) f t := by cases b <;> rfl
def bcs (s : SV) [t : Kn Prop] [f : Kn Prop] : Prop := bc (boolOf s) t.k f.k
theorem bcs_mk (m : Mode) (b : Bool) (t f : Kn Prop) : @bcs ⟨m, .w (.bl b)⟩ t f = bc (some b) t.k f.k := propext ⟨id, id⟩
def bE (T : Tab) (X : Ex → REnv → Prop) (p : Bool) (e : E) (ρ : REnv) [Q : Kn (SV → REnv → Prop)] : Prop := wpE T X p e ρ Q.k
def bAs (T : Tab) (X : Ex → REnv → Prop) (p : Bool) (e : Es) (ρ : REnv) [Q : Kn (List Arg → REnv → Prop)] : Prop := wpAs T X p e ρ Q.k
def bI (T : Tab) (X : Ex → REnv → Prop) (p : Bool) (e : Itr) (ρ : REnv) [Q : Kn (Rows → REnv → Prop)] : Prop := wpI T X p e ρ Q.k
def bS (T : Tab) (X : Ex → REnv → Prop) (p : Bool) (s : S) (ρ : REnv) [k : Kn WK] : Prop := wpS T X p s ρ k.k
def bSs (T : Tab) (X : Ex → REnv → Prop) (p : Bool) (s : Ss) (ρ : REnv) [k : Kn WK] : Prop := wpSs T X p s ρ k.k
abbrev dI (i : Int) : D := .w (.int i)
abbrev dB (b : Bool) : D := .w (.bl b)
def qBin (b : Bin) (x y : D) [Q : Kn (SV → Prop)] : Prop := pBin b x y Q.k
def qCmp (b : Cmp) (x y : D) [Q : Kn (SV → Prop)] : Prop := pCmp b x y Q.k
def qIdx (x : Op) (y : D) [Q : Kn (SV → Prop)] : Prop := pIdx x y Q.k
def qRng (x : List Op) [Q : Kn (Rows → Prop)] : Prop := rngWp x Q.k
def qSorted (x : D) [Q : Kn (SV → Prop)] : Prop := pSorted x Q.k
def qTuple (x : D) [Q : Kn (SV → Prop)] : Prop := pTuple x Q.k
def qBools (f : List Bool → Bool) (x : D) [Q : Kn (SV → Prop)] : Prop := pBools f x Q.k
def qFlat (f : List W → List W) (x : D) [Q : Kn (SV → Prop)] : Prop := pFlat f x Q.k
def qInts (f : List Int → (Int → Prop) → Prop) (x : D) [Q : Kn (SV → Prop)] : Prop := pInts f x Q.k
def qI2 (f : Int → Int → Int) (x y : D) [Q : Kn (SV → Prop)] : Prop := pI2 (fun _ _ => True) f x y Q.k
section
variable (Q : Kn (SV → Prop))
theorem p_add (i j : Int) : qBin .add (dI i) (dI j) = Q.k (sw (.int (i + j))) := propext ⟨id, id⟩
theorem p_addT (xs ys : List W) : qBin .add (.w (.tup xs)) (.w (.tup ys)) = (xs.length + ys.length ≤ sizeLine ∧ Q.k (sw (.tup (xs ++ ys)))) := propext ⟨id, id⟩
theorem p_addL (xs ys : List D) : qBin .add (.lst xs) (.lst ys) = (xs.length + ys.length ≤ sizeLine ∧ @ob _ (allW (xs ++ ys)) ⟨fun ws => Q.k ⟨.own, .lst (ws.map .w)⟩⟩) := by
  show (_ ∧ _) = _
  congr 1
  cases allW (xs ++ ys) <;> rfl
theorem p_sub (i j : Int) : qBin .sub (dI i) (dI j) = Q.k (sw (.int (i - j))) := by simp [qBin, pBin, pI2]
theorem p_mul (i j : Int) : qBin .mul (dI i) (dI j) = (CMul i j ∧ Q.k (sw (.int (i * j)))) := propext ⟨id, id⟩
theorem p_mulL (xs : List D) (j : Int) : qBin .mul (.lst xs) (dI j) = (-(2 ^ 63) ≤ j ∧ j < 2 ^ 63 ∧ xs.length * j.toNat ≤ sizeLine ∧ @ob _ (allW xs) ⟨fun ws => Q.k ⟨.own, .lst ((List.replicate j.toNat (ws.map D.w)).flatten)⟩⟩) := by
  show (_ ∧ _ ∧ _ ∧ _) = _
  congr 3
  cases allW xs <;> rfl
theorem p_div (i j : Int) : qBin .fdiv (dI i) (dI j) = (CDivW i j ∧ Q.k (sw (.int (i / j)))) := propext ⟨id, id⟩
theorem p_mod (i j : Int) : qBin .mod (dI i) (dI j) = (0 < j ∧ Q.k (sw (.int (i % j)))) := propext ⟨id, id⟩
theorem p_pow (i j : Int) : qBin .pow (dI i) (dI j) = (CPow i j ∧ Q.k (sw (.int (i ^ j.toNat)))) := propext ⟨id, id⟩
theorem p_bor (i j : Int) : qBin .bor (dI i) (dI j) = Q.k (sw (.int (Builtin.bitOr i j))) := by simp [qBin, pBin, pI2]
theorem p_eq (i j : Int) : qCmp .eq (dI i) (dI j) = Q.k (sw (.bl (decide (i = j)))) := propext ⟨id, id⟩
theorem p_ne (i j : Int) : qCmp .ne (dI i) (dI j) = Q.k (sw (.bl (!decide (i = j)))) := propext ⟨id, id⟩
theorem p_lt (i j : Int) : qCmp .lt (dI i) (dI j) = Q.k (sw (.bl (decide (i < j)))) := propext ⟨id, id⟩
theorem p_le (i j : Int) : qCmp .le (dI i) (dI j) = Q.k (sw (.bl (decide (i ≤ j)))) := propext ⟨id, id⟩
theorem p_gt (i j : Int) : qCmp .gt (dI i) (dI j) = Q.k (sw (.bl (decide (j < i)))) := propext ⟨id, id⟩
theorem p_ge (i j : Int) : qCmp .ge (dI i) (dI j) = Q.k (sw (.bl (decide (j ≤ i)))) := propext ⟨id, id⟩
theorem p_isN (a : D) : qCmp .isN a (.w .non) = Q.k (sw (.bl (isNon a))) := propext ⟨id, id⟩
theorem p_notN (a : D) : qCmp .notN a (.w .non) = Q.k (sw (.bl (!isNon a))) := propext ⟨id, id⟩
theorem p_isB (a b : Bool) : qCmp .isN (dB a) (dB b) = Q.k (sw (.bl (a == b))) := propext ⟨id, id⟩
theorem p_notB (a b : Bool) : qCmp .notN (dB a) (dB b) = Q.k (sw (.bl (!(a == b)))) := propext ⟨id, id⟩
theorem p_idxT (s : Option Nat) (m : Mode) (xs : List W) (i : Int) : qIdx ⟨s, m, .w (.tup xs)⟩ (dI i) = @ob _ (atI xs i) ⟨fun x => Q.k (sw x)⟩ := by
  show (match atI xs i with | some x => Q.k (sw x) | none => False) = _
  cases atI xs i <;> rfl
theorem p_idxD (s : Option Nat) (m : Mode) (xs : List D) (i : Int) : qIdx ⟨s, m, .tup xs⟩ (dI i) = @ob _ (atI xs i) ⟨fun x => Q.k (mkSV (Op.pm ⟨s, m, .tup xs⟩) x)⟩ := by
  show (match atI xs i with | some x => Q.k (mkSV (Op.pm ⟨s, m, .tup xs⟩) x) | none => False) = _
  cases atI xs i <;> rfl
theorem p_idxL (s : Option Nat) (m : Mode) (xs : List D) (i : Int) : qIdx ⟨s, m, .lst xs⟩ (dI i) = @ob _ (atI xs i) ⟨fun x => Q.k (mkSV (Op.pm ⟨s, m, .lst xs⟩) x)⟩ := by
  show (match atI xs i with | some x => Q.k (mkSV (Op.pm ⟨s, m, .lst xs⟩) x) | none => False) = _
  cases atI xs i <;> rfl
theorem p_idxF (s : Option Nat) (m : Mode) (xs : List W) (i : Int) : qIdx ⟨s, m, .fz xs⟩ (dI i) = @ob _ (atI (xs.map D.w) i) ⟨fun x => Q.k (mkSV (Op.pm ⟨s, m, .fz xs⟩) x)⟩ := by
  show (match atI (xs.map D.w) i with | some x => Q.k (mkSV (Op.pm ⟨s, m, .fz xs⟩) x) | none => False) = _
  cases atI (xs.map D.w) i <;> rfl
theorem p_i2 (f : Int → Int → Int) (i j : Int) : qI2 f (dI i) (dI j) = Q.k (sw (.int (f i j))) := by simp [qI2, pI2]
end
theorem isNon_non : isNon (.w .non) = true := rfl
theorem isNon_int (i : Int) : isNon (.w (.int i)) = false := rfl
theorem isNon_bl (i : Bool) : isNon (.w (.bl i)) = false := rfl
theorem isNon_tup (i : List W) : isNon (.w (.tup i)) = false := rfl
theorem isNon_lst (i : List D) : isNon (.lst i) = false := rfl
def seqK (T : Tab) (X : Ex → REnv → Prop) (p : Bool) (ss : Ss) (k : WK) : WK := ⟨fun ρ' => @bSs T X p ss ρ' ⟨k⟩, k.rt, k.bk, k.ct⟩
def loopK (q : REnv → Prop) (k : WK) : WK := ⟨q, k.rt, k.nx, q⟩
def fnK (sig : List Bool) (Q : D → List D → Prop) : WK := ⟨fun ρ => @ob _ (outsOf sig ρ) ⟨fun outs => Q (.w .non) outs⟩, fun d ρ => @ob _ (outsOf sig ρ) ⟨fun outs => Q d outs⟩, fun _ => False, fun _ => False⟩
def fnX (sig : List Bool) (X : Ex → List D → Prop) : Ex → REnv → Prop := fun x ρ => @ob _ (outsOf sig ρ) ⟨fun outs => X x outs⟩
def knx (ρ : REnv) [k : Kn WK] : Prop := k.k.nx ρ
def krt (d : D) (ρ : REnv) [k : Kn WK] : Prop := k.k.rt d ρ
def kbk (ρ : REnv) [k : Kn WK] : Prop := k.k.bk ρ
def kct (ρ : REnv) [k : Kn WK] : Prop := k.k.ct ρ
section
variable (T : Tab) (X : Ex → REnv → Prop) (p : Bool) (ρ : REnv)
theorem k_nx (ss : Ss) (k : WK) : @knx ρ ⟨seqK T X p ss k⟩ = @bSs T X p ss ρ ⟨k⟩ := propext ⟨id, id⟩
theorem k_rt (ss : Ss) (k : WK) (d : D) : @krt d ρ ⟨seqK T X p ss k⟩ = @krt d ρ ⟨k⟩ := propext ⟨id, id⟩
theorem k_bk (ss : Ss) (k : WK) : @kbk ρ ⟨seqK T X p ss k⟩ = @kbk ρ ⟨k⟩ := propext ⟨id, id⟩
theorem k_ct (ss : Ss) (k : WK) : @kct ρ ⟨seqK T X p ss k⟩ = @kct ρ ⟨k⟩ := propext ⟨id, id⟩
theorem l_nx (q : REnv → Prop) (k : WK) : @knx ρ ⟨loopK q k⟩ = q ρ := propext ⟨id, id⟩
theorem l_rt (q : REnv → Prop) (k : WK) (d : D) : @krt d ρ ⟨loopK q k⟩ = @krt d ρ ⟨k⟩ := propext ⟨id, id⟩
theorem l_bk (q : REnv → Prop) (k : WK) : @kbk ρ ⟨loopK q k⟩ = @knx ρ ⟨k⟩ := propext ⟨id, id⟩
theorem l_ct (q : REnv → Prop) (k : WK) : @kct ρ ⟨loopK q k⟩ = q ρ := propext ⟨id, id⟩
theorem f_nx (sig : List Bool) (Q : D → List D → Prop) : @knx ρ ⟨fnK sig Q⟩ = @ob _ (outsOf sig ρ) ⟨fun outs => Q (.w .non) outs⟩ := propext ⟨id, id⟩
theorem f_rt (sig : List Bool) (Q : D → List D → Prop) (d : D) : @krt d ρ ⟨fnK sig Q⟩ = @ob _ (outsOf sig ρ) ⟨fun outs => Q d outs⟩ := propext ⟨id, id⟩
theorem fn_eq (f : Def) (ds : List D) (Q : D → List D → Prop) (X : Ex → List D → Prop) : wpFn T f ds Q X = @bSs T (fnX f.sig X) false f.body (startE f ds) ⟨fnK f.sig Q⟩ := by
  unfold wpFn
  show _ = wpSs _ _ _ _ _ _
  congr 1
  · funext x ρ
    unfold fnX
    cases outsOf f.sig ρ <;> rfl
  · unfold fnK
    congr 1
    · funext ρ
      cases outsOf f.sig ρ <;> rfl
    · funext d ρ
      cases outsOf f.sig ρ <;> rfl
section
variable (k : WK)
theorem st_nil : @bSs T X p .nil ρ ⟨k⟩ = @knx ρ ⟨k⟩ := propext ⟨id, id⟩
theorem st_cons (s : S) (ss : Ss) : @bSs T X p (.cons s ss) ρ ⟨k⟩ = @bS T X p s ρ ⟨seqK T X p ss k⟩ := propext ⟨id, id⟩
theorem st_asg (i : Nat) (e : E) : @bS T X p (.asg i e) ρ ⟨k⟩ = @bE T X p e ρ ⟨fun s ρ' => @knx (ρ'.set i (some s)) ⟨k⟩⟩ := propext ⟨id, id⟩
theorem st_expr (e : E) : @bS T X p (.expr e) ρ ⟨k⟩ = @bE T X p e ρ ⟨fun _ ρ' => @knx ρ' ⟨k⟩⟩ := propext ⟨id, id⟩
theorem st_ret (e : E) : @bS T X p (.ret e) ρ ⟨k⟩ = @bE T X p e ρ ⟨fun s ρ' => @ob _ (ownD s) ⟨fun d => @krt d ρ' ⟨k⟩⟩⟩ := by
  show wpE T X p e ρ (fun s ρ' => match ownD s with | some d => k.rt d ρ' | none => False) = wpE T X p e ρ (fun s ρ' => @ob _ (ownD s) ⟨fun d => @krt d ρ' ⟨k⟩⟩)
  congr 1
  funext s ρ'
  cases ownD s <;> rfl
theorem st_retN : @bS T X p .retN ρ ⟨k⟩ = @krt (.w .non) ρ ⟨k⟩ := propext ⟨id, id⟩
theorem st_if (c : E) (a b : Ss) : @bS T X p (.ifS c a b) ρ ⟨k⟩ = @bE T X p c ρ ⟨fun s ρ' => @bcs s ⟨@bSs T X p a ρ' ⟨k⟩⟩ ⟨@bSs T X p b ρ' ⟨k⟩⟩⟩ := propext ⟨id, id⟩
theorem st_brk : @bS T X p .brk ρ ⟨k⟩ = @kbk ρ ⟨k⟩ := propext ⟨id, id⟩
theorem st_cnt : @bS T X p .cnt ρ ⟨k⟩ = @kct ρ ⟨k⟩ := propext ⟨id, id⟩
theorem st_stuck : @bS T X p .stuck ρ ⟨k⟩ = False := propext ⟨id, id⟩
theorem st_pass : @bS T X p .pass ρ ⟨k⟩ = @knx ρ ⟨k⟩ := propext ⟨id, id⟩
def setW (i : Nat) (d kk : D) (ρ : REnv) (o : Option (Option SV)) [Q : Kn (REnv → Prop)] : Prop := match o, kk with
  | some (some ⟨.own, .lst ds⟩), .w (.int j) => @ob _ (ixN ds.length j) ⟨fun n => Q.k (ρ.set i (some ⟨.own, .lst (ds.set n d)⟩))⟩
  | some (some ⟨.own, .dK kvs⟩), .w x => @ob _ (wKey x) ⟨fun k => isW d = true ∧ kvs.length < sizeLine ∧ Q.k (ρ.set i (some ⟨.own, .dK (dPut kvs k d)⟩))⟩
  | some (some ⟨.own, .dT kvs⟩), .w (.tup xs) => @ob _ (wKeys xs) ⟨fun k => isW d = true ∧ kvs.length < sizeLine ∧ Q.k (ρ.set i (some ⟨.own, .dT (dPut kvs k d)⟩))⟩
  | _, _ => False
theorem set_w (i : Nat) (d kk : D) (Q : REnv → Prop) : setIWp i d kk ρ Q = @setW i d kk ρ ρ[i]? ⟨Q⟩ := by
  unfold setIWp setW
  rcases ρ[i]? with _ | _ | ⟨m, e⟩ <;> try rfl
  cases m <;> cases e <;> try rfl
  · rcases kk with x | x | x | x | x | x <;> try rfl
    cases x <;> try rfl
    rename_i ds j
    show (match ixN ds.length j with | some n => _ | none => False) = obf (ixN ds.length j) _
    cases ixN ds.length j <;> rfl
  · rcases kk with x | x | x | x | x | x <;> try rfl
    rename_i kvs
    show (match wKey x with | some n => _ | none => False) = obf (wKey x) _
    cases wKey x <;> rfl
  · rcases kk with x | x | x | x | x | x <;> try rfl
    cases x <;> try rfl
    rename_i kvs xs
    show (match wKeys xs with | some n => _ | none => False) = obf (wKeys xs) _
    cases wKeys xs <;> rfl
theorem sw_lst (i : Nat) (d : D) (ds : List D) (j : Int) (Q : Kn (REnv → Prop)) : setW i d (dI j) ρ (some (some ⟨.own, .lst ds⟩)) = @ob _ (ixN ds.length j) ⟨fun n => Q.k (ρ.set i (some ⟨.own, .lst (ds.set n d)⟩))⟩ := propext ⟨id, id⟩
theorem sw_dK (i : Nat) (d : D) (ds : List (L2.Key × D)) (x : W) (Q : Kn (REnv → Prop)) : setW i d (.w x) ρ (some (some ⟨.own, .dK ds⟩)) = @ob _ (wKey x) ⟨fun k => isW d = true ∧ ds.length < sizeLine ∧ Q.k (ρ.set i (some ⟨.own, .dK (dPut ds k d)⟩))⟩ := propext ⟨id, id⟩
theorem sw_dT (i : Nat) (d : D) (ds : List (List L2.Key × D)) (xs : List W) (Q : Kn (REnv → Prop)) : setW i d (.w (.tup xs)) ρ (some (some ⟨.own, .dT ds⟩)) = @ob _ (wKeys xs) ⟨fun k => isW d = true ∧ ds.length < sizeLine ∧ Q.k (ρ.set i (some ⟨.own, .dT (dPut ds k d)⟩))⟩ := propext ⟨id, id⟩
def setK (i : Nat) (args : List Arg) (ρ : REnv) [Q : Kn (REnv → Prop)] : Prop := match args with
  | [ae, ak] => @ob _ (rd ρ ak) ⟨fun ok => @ob _ (putIn ρ ae) ⟨fun z => @setW i z.1 ok.d z.2 z.2[i]? Q⟩⟩
  | _ => False
theorem setK_mk (i : Nat) (ae ak : Arg) (Q : Kn (REnv → Prop)) : setK i [ae, ak] ρ = @ob _ (rd ρ ak) ⟨fun ok => @ob _ (putIn ρ ae) ⟨fun z => @setW i z.1 ok.d z.2 z.2[i]? Q⟩⟩ := propext ⟨id, id⟩
theorem st_setI (i : Nat) (kx e : E) : @bS T X p (.setI i kx e) ρ ⟨k⟩ = (live ρ i = true ∧ @bAs T X p (.cons e (.cons kx .nil)) ρ ⟨fun args ρ' => @setK i args ρ' ⟨fun ρ => @knx ρ ⟨k⟩⟩⟩) := by
  show (_ ∧ wpAs T X p (.cons e (.cons kx .nil)) ρ (fun args ρ' => match args with | [ae, ak] => (match rd ρ' ak with | some ok => (match putIn ρ' ae with | some (d, ρ2) => setIWp i d ok.d ρ2 k.nx | none => False) | none => False) | _ => False)) = (_ ∧ wpAs T X p (.cons e (.cons kx .nil)) ρ (fun args ρ' => @setK i args ρ' ⟨fun ρ => @knx ρ ⟨k⟩⟩))
  congr 2
  funext args ρ'
  unfold setK
  split
  · rename_i ae ak
    cases rd ρ' ak with
    | none => rfl
    | some ok =>
      cases putIn ρ' ae with
      | none => rfl
      | some z => exact set_w z.2 i z.1 ok.d k.nx
  · rfl
theorem unp_ob (is : List Nat) (s : SV) (ρ' : REnv) (q : REnv → Prop) : (match partsL s with | some ss => (match setAll is ss ρ' with | some ρ2 => q ρ2 | none => False) | none => False) = @ob _ (partsL s) ⟨fun ss => @ob _ (setAll is ss ρ') ⟨q⟩⟩ := by
  cases partsL s with
  | none => rfl
  | some ss =>
    show (match setAll is ss ρ' with | some ρ2 => q ρ2 | none => False) = @ob _ (setAll is ss ρ') ⟨q⟩
    cases setAll is ss ρ' <;> rfl
theorem st_unpV (is : List Nat) (j : Nat) : @bS T X p (.unp is (.var j)) ρ ⟨k⟩ = @ob _ (rd ρ (.late j)) ⟨fun o => @ob _ (partsL ⟨o.pm, o.d⟩) ⟨fun ss => @ob _ (setAll is ss ρ) ⟨fun ρ' => @knx ρ' ⟨k⟩⟩⟩⟩ := by
  show (match rd ρ (.late j) with | some o => (match partsL ⟨o.pm, o.d⟩ with | some ss => (match setAll is ss ρ with | some ρ' => k.nx ρ' | none => False) | none => False) | none => False) = _
  cases rd ρ (.late j) with
  | none => rfl
  | some o => exact unp_ob is _ ρ k.nx

theorem st_unp_op (is : List Nat) (o : Prim) (as : Es) : @bS T X p (.unp is (.op o as)) ρ ⟨k⟩ = @bE T X p (.op o as) ρ ⟨fun s ρ' => @ob _ (partsL s) ⟨fun ss => @ob _ (setAll is ss ρ') ⟨fun ρ2 => @knx ρ2 ⟨k⟩⟩⟩⟩ := by
  show wpE T X p (.op o as) ρ (fun s ρ' => match partsL s with | some ss => (match setAll is ss ρ' with | some ρ2 => k.nx ρ2 | none => False) | none => False) = wpE T X p (.op o as) ρ _
  congr 1
  funext s ρ'
  exact unp_ob is s ρ' k.nx
theorem st_unp_call (is : List Nat) (f : Str) (as : Es) : @bS T X p (.unp is (.call f as)) ρ ⟨k⟩ = @bE T X p (.call f as) ρ ⟨fun s ρ' => @ob _ (partsL s) ⟨fun ss => @ob _ (setAll is ss ρ') ⟨fun ρ2 => @knx ρ2 ⟨k⟩⟩⟩⟩ := by
  show wpE T X p (.call f as) ρ (fun s ρ' => match partsL s with | some ss => (match setAll is ss ρ' with | some ρ2 => k.nx ρ2 | none => False) | none => False) = wpE T X p (.call f as) ρ _
  congr 1
  funext s ρ'
  exact unp_ob is s ρ' k.nx
theorem st_unp_ite (is : List Nat) (c a b : E) : @bS T X p (.unp is (.ite c a b)) ρ ⟨k⟩ = @bE T X p (.ite c a b) ρ ⟨fun s ρ' => @ob _ (partsL s) ⟨fun ss => @ob _ (setAll is ss ρ') ⟨fun ρ2 => @knx ρ2 ⟨k⟩⟩⟩⟩ := by
  show wpE T X p (.ite c a b) ρ (fun s ρ' => match partsL s with | some ss => (match setAll is ss ρ' with | some ρ2 => k.nx ρ2 | none => False) | none => False) = wpE T X p (.ite c a b) ρ _
  congr 1
  funext s ρ'
  exact unp_ob is s ρ' k.nx
theorem st_unp_mth (is : List Nat) (m : Mth) (j : Nat) (as : Es) : @bS T X p (.unp is (.mth m j as)) ρ ⟨k⟩ = @bE T X p (.mth m j as) ρ ⟨fun s ρ' => @ob _ (partsL s) ⟨fun ss => @ob _ (setAll is ss ρ') ⟨fun ρ2 => @knx ρ2 ⟨k⟩⟩⟩⟩ := by
  show wpE T X p (.mth m j as) ρ (fun s ρ' => match partsL s with | some ss => (match setAll is ss ρ' with | some ρ2 => k.nx ρ2 | none => False) | none => False) = wpE T X p (.mth m j as) ρ _
  congr 1
  funext s ρ'
  exact unp_ob is s ρ' k.nx
def turnF (T : Tab) (X : Ex → REnv → Prop) (p : Bool) (tg : Tg) (b : Ss) (k : WK) (r : List SV) (ρ1 : REnv) (q : REnv → Prop) : Prop := @ob _ (tg.set r ρ1) ⟨fun ρ2 => @bSs T X p b ρ2 ⟨loopK q k⟩⟩
def forB (wt : List (Nat × SV)) (rows : List (List SV)) (ρ : REnv) [turn : Kn (List SV → REnv → (REnv → Prop) → Prop)] [Q : Kn (REnv → Prop)] : Prop := forW wt turn.k rows ρ Q.k
theorem st_for (tg : Tg) (it : Itr) (b : Ss) : @bS T X p (.forS tg it b) ρ ⟨k⟩ = @bI T X p it ρ ⟨fun R ρ' => @forB R.watch R.rows ρ' ⟨turnF T X (p || R.held) tg b k⟩ ⟨fun ρ' => @knx ρ' ⟨k⟩⟩⟩ := by
  show wpI T X p it ρ (fun R ρ' => forW R.watch (fun r ρ1 q => match tg.set r ρ1 with | some ρ2 => wpSs T X (p || R.held) b ρ2 { nx := q, rt := k.rt, bk := k.nx, ct := q } | none => False) R.rows ρ' k.nx) = wpI T X p it ρ _
  congr 1
  funext R ρ'
  show forW _ _ _ _ _ = forW _ _ _ _ _
  congr 1
  funext r ρ1 q
  show _ = turnF T X (p || R.held) tg b k r ρ1 q
  unfold turnF
  cases tg.set r ρ1 <;> rfl
end
section
variable (Q : Kn (SV → REnv → Prop))
theorem ev_cst (x : W) : bE T X p (.cst x) ρ = Q.k (sw x) ρ := propext ⟨id, id⟩
theorem ev_glob (x : Str) (n : Int) : bE T X p (.glob x n) ρ = Q.k (sw (.int n)) ρ := propext ⟨id, id⟩
def varWp (p : Bool) (ρ : REnv) (i : Nat) (o : Option (Option SV)) [Q : Kn (SV → REnv → Prop)] : Prop := match o with
  | some (some ⟨m, d⟩) => match d, m with
    | .w x, _ => Q.k (sw x) ρ
    | d, .own => @ob _ (takeSlot p ρ i d) ⟨fun ρ' => Q.k ⟨.own, d⟩ ρ'⟩
    | d, m => Q.k ⟨m, d⟩ ρ
  | _ => False
theorem ev_var (i : Nat) : bE T X p (.var i) ρ = varWp p ρ i ρ[i]? := by
  show (match ρ[i]? with | some (some ⟨m, d⟩) => (match d, m with | .w x, _ => Q.k (sw x) ρ | d, .own => (match takeSlot p ρ i d with | some ρ' => Q.k ⟨.own, d⟩ ρ' | none => False) | d, m => Q.k ⟨m, d⟩ ρ) | _ => False) = _
  unfold varWp
  rcases ρ[i]? with _ | _ | ⟨m, d⟩
  · rfl
  · rfl
  · cases d <;> cases m <;> first | rfl | (show (match takeSlot p ρ i _ with | some ρ' => Q.k _ ρ' | none => False) = obf (takeSlot p ρ i _) _; cases takeSlot p ρ i _ <;> rfl)
theorem vw_w (i : Nat) (m : Mode) (x : W) : varWp p ρ i (some (some ⟨m, .w x⟩)) = Q.k (sw x) ρ := propext ⟨id, id⟩
theorem vw_lst (i : Nat) (x : List D) : varWp p ρ i (some (some ⟨.own, .lst x⟩)) = @ob _ (takeSlot p ρ i (.lst x)) ⟨fun ρ' => Q.k ⟨.own, .lst x⟩ ρ'⟩ := propext ⟨id, id⟩
theorem vw_tup (i : Nat) (x : List D) : varWp p ρ i (some (some ⟨.own, .tup x⟩)) = @ob _ (takeSlot p ρ i (.tup x)) ⟨fun ρ' => Q.k ⟨.own, .tup x⟩ ρ'⟩ := propext ⟨id, id⟩
theorem vw_dK (i : Nat) (x : List (L2.Key × D)) : varWp p ρ i (some (some ⟨.own, .dK x⟩)) = @ob _ (takeSlot p ρ i (.dK x)) ⟨fun ρ' => Q.k ⟨.own, .dK x⟩ ρ'⟩ := propext ⟨id, id⟩
theorem vw_dT (i : Nat) (x : List (List L2.Key × D)) : varWp p ρ i (some (some ⟨.own, .dT x⟩)) = @ob _ (takeSlot p ρ i (.dT x)) ⟨fun ρ' => Q.k ⟨.own, .dT x⟩ ρ'⟩ := propext ⟨id, id⟩
theorem ev_and (a b : E) : bE T X p (.and a b) ρ = @bE T X p a ρ ⟨fun s ρ' => @bcs s ⟨@bE T X p b ρ' Q⟩ ⟨Q.k (sw (.bl false)) ρ'⟩⟩ := propext ⟨id, id⟩
theorem ev_or (a b : E) : bE T X p (.or a b) ρ = @bE T X p a ρ ⟨fun s ρ' => @bcs s ⟨Q.k (sw (.bl true)) ρ'⟩ ⟨@bE T X p b ρ' Q⟩⟩ := propext ⟨id, id⟩
theorem ev_not (a : E) : bE T X p (.not a) ρ = @bE T X p a ρ ⟨fun s ρ' => @ob _ (boolOf s) ⟨fun b => Q.k (sw (.bl (!b))) ρ'⟩⟩ := by
  show wpE T X p a ρ (fun s ρ' => match boolOf s with | some b => Q.k (sw (.bl (!b))) ρ' | none => False) = wpE T X p a ρ _
  congr 1
  funext s ρ'
  show _ = obf (boolOf s) _
  cases boolOf s <;> rfl
theorem ev_ite (c a b : E) : bE T X p (.ite c a b) ρ = @bE T X p c ρ ⟨fun s ρ' => @bcs s ⟨@bE T X p a ρ' Q⟩ ⟨@bE T X p b ρ' Q⟩⟩ := propext ⟨id, id⟩
theorem ev_chain (o1 o2 : Cmp) (a b c : E) : bE T X p (.chain o1 o2 a b c) ρ = @bE T X p a ρ ⟨fun x ρ1 => isW x.d = true ∧ @bE T X p b ρ1 ⟨fun y ρ2 => isW y.d = true ∧ @qCmp o1 x.d y.d ⟨fun r => @bcs r ⟨@bE T X p c ρ2 ⟨fun z ρ3 => @qCmp o2 y.d z.d ⟨fun r => Q.k r ρ3⟩⟩⟩ ⟨Q.k (sw (.bl false)) ρ2⟩⟩⟩⟩ := propext ⟨id, id⟩
theorem ev_call (f : Str) (as : Es) : bE T X p (.call f as) ρ = @bAs T X p as ρ ⟨fun args ρ' => @ob _ (T.find f) ⟨fun e => callWp e args p ρ' X Q.k⟩⟩ := by
  show wpAs T X p as ρ (fun args ρ' => match T.find f with | some e => callWp e args p ρ' X Q.k | none => False) = wpAs T X p as ρ _
  congr 1
  funext args ρ'
  show _ = obf (T.find f) _
  cases T.find f <;> rfl
def qMth (m : Mth) (i : Nat) (args : List Arg) (p : Bool) (ρ : REnv) [Q : Kn (SV → REnv → Prop)] : Prop := mthWp m i args p ρ Q.k
theorem ev_mth (m : Mth) (i : Nat) (as : Es) : bE T X p (.mth m i as) ρ = (ownL ρ i = true ∧ @bAs T X p as ρ ⟨fun args ρ' => @qMth m i args p ρ' Q⟩) := propext ⟨id, id⟩
theorem ev_lst (as : Es) : bE T X p (.op .lst as) ρ = @bAs T X p as ρ ⟨fun args ρ' => @ob _ (tks p ρ' args) ⟨fun z => Q.k ⟨.own, .lst z.1⟩ z.2⟩⟩ := by
  show wpAs T X p as ρ (fun args ρ' => match tks p ρ' args with | some (ds, ρ') => Q.k ⟨.own, .lst ds⟩ ρ' | none => False) = wpAs T X p as ρ _
  congr 1
  funext args ρ'
  show _ = obf (tks p ρ' args) _
  cases tks p ρ' args <;> rfl
theorem ev_tup (as : Es) : bE T X p (.op .tup as) ρ = @bAs T X p as ρ ⟨fun args ρ' => @ob _ (tks p ρ' args) ⟨fun z => Q.k ⟨.own, mkTup z.1⟩ z.2⟩⟩ := by
  show wpAs T X p as ρ (fun args ρ' => match tks p ρ' args with | some (ds, ρ') => Q.k ⟨.own, mkTup ds⟩ ρ' | none => False) = wpAs T X p as ρ _
  congr 1
  funext args ρ'
  show _ = obf (tks p ρ' args) _
  cases tks p ρ' args <;> rfl
theorem ev_dK : bE T X p (.op .dnewK .nil) ρ = Q.k ⟨.own, .dK []⟩ ρ := propext ⟨id, id⟩
theorem ev_dT : bE T X p (.op .dnewT .nil) ρ = Q.k ⟨.own, .dT []⟩ ρ := propext ⟨id, id⟩
def two (l : List Op) [f : Kn (Op → Op → Prop)] : Prop := match l with
  | [a, b] => f.k a b
  | _ => False
def one (l : List Op) [f : Kn (Op → Prop)] : Prop := match l with
  | [a] => f.k a
  | _ => False
theorem two_mk (a b : Op) (f : Kn (Op → Op → Prop)) : two [a, b] = f.k a b := propext ⟨id, id⟩
theorem one_mk (a : Op) (f : Kn (Op → Prop)) : one [a] = f.k a := propext ⟨id, id⟩
def isBP : Prim → Bool
  | .lst => false | .tup => false | .dnewK => false | .dnewT => false
  | _ => true
theorem prim_b {o : Prim} (h : isBP o = true) (args : List Arg) (p : Bool) (ρ : REnv) (Q : SV → REnv → Prop) : prim o args p ρ Q = @ob _ (rds ρ args) ⟨fun ops => primB o ops fun s => Q s ρ⟩ := by
  cases o <;> first | (exfalso; exact Bool.noConfusion h) | (unfold prim; cases rds ρ args <;> rfl)
theorem prim_two {o : Prim} {g : Op → Op → (SV → Prop) → Prop} (h : ∀ ops Q, primB o ops Q = @two ops ⟨fun x y => g x y Q⟩) (h1 : isBP o = true) (as : Es) : bE T X p (.op o as) ρ = @bAs T X p as ρ ⟨fun args ρ' => @ob _ (rds ρ' args) ⟨fun ops => @two ops ⟨fun x y => g x y fun s => Q.k s ρ'⟩⟩⟩ := by
  show wpAs T X p as ρ (fun args ρ' => prim o args p ρ' Q.k) = wpAs T X p as ρ _
  congr 1
  funext args ρ'
  rw [prim_b h1]
  show obf (rds ρ' args) _ = obf (rds ρ' args) _
  congr 1
  funext ops
  exact h ops _
theorem prim_one {o : Prim} {g : Op → (SV → Prop) → Prop} (h : ∀ ops Q, primB o ops Q = @one ops ⟨fun x => g x Q⟩) (h1 : isBP o = true) (as : Es) : bE T X p (.op o as) ρ = @bAs T X p as ρ ⟨fun args ρ' => @ob _ (rds ρ' args) ⟨fun ops => @one ops ⟨fun x => g x fun s => Q.k s ρ'⟩⟩⟩ := by
  show wpAs T X p as ρ (fun args ρ' => prim o args p ρ' Q.k) = wpAs T X p as ρ _
  congr 1
  funext args ρ'
  rw [prim_b h1]
  show obf (rds ρ' args) _ = obf (rds ρ' args) _
  congr 1
  funext ops
  exact h ops _
theorem ops2 {P : List Op → Prop} (h0 : P []) (h1 : ∀ a, P [a]) (h2 : ∀ a b, P [a, b]) (h3 : ∀ a b c r, P (a :: b :: c :: r)) : ∀ l, P l
  | [] => h0
  | [a] => h1 a
  | [a, b] => h2 a b
  | a :: b :: c :: r => h3 a b c r
def asI (d : D) : Option Int := match d with
  | .w (.int i) => some i
  | _ => none
theorem asI_int (i : Int) : asI (.w (.int i)) = some i := rfl

theorem ev_bin (b : Bin) (as : Es) : bE T X p (.op (.bin b) as) ρ = @bAs T X p as ρ ⟨fun args ρ' => @ob _ (rds ρ' args) ⟨fun ops => @two ops ⟨fun x y => @qBin b x.d y.d ⟨fun s => Q.k s ρ'⟩⟩⟩⟩ :=
  prim_two T X p ρ Q (g := fun x y q => pBin b x.d y.d q) (fun ops Q => by revert ops; exact ops2 rfl (fun _ => rfl) (fun _ _ => rfl) (fun _ _ _ _ => rfl)) rfl as
theorem ev_cmp (b : Cmp) (as : Es) : bE T X p (.op (.cmp b) as) ρ = @bAs T X p as ρ ⟨fun args ρ' => @ob _ (rds ρ' args) ⟨fun ops => @two ops ⟨fun x y => @qCmp b x.d y.d ⟨fun s => Q.k s ρ'⟩⟩⟩⟩ :=
  prim_two T X p ρ Q (g := fun x y q => pCmp b x.d y.d q) (fun ops Q => by revert ops; exact ops2 rfl (fun _ => rfl) (fun _ _ => rfl) (fun _ _ _ _ => rfl)) rfl as
theorem ev_idx (as : Es) : bE T X p (.op .idx as) ρ = @bAs T X p as ρ ⟨fun args ρ' => @ob _ (rds ρ' args) ⟨fun ops => @two ops ⟨fun x y => @qIdx x y.d ⟨fun s => Q.k s ρ'⟩⟩⟩⟩ :=
  prim_two T X p ρ Q (g := fun x y q => pIdx x y.d q) (fun ops Q => by revert ops; exact ops2 rfl (fun _ => rfl) (fun _ _ => rfl) (fun _ _ _ _ => rfl)) rfl as
theorem ev_min2 (as : Es) : bE T X p (.op .min2 as) ρ = @bAs T X p as ρ ⟨fun args ρ' => @ob _ (rds ρ' args) ⟨fun ops => @two ops ⟨fun x y => @qI2 (fun i j => if j < i then j else i) x.d y.d ⟨fun s => Q.k s ρ'⟩⟩⟩⟩ :=
  prim_two T X p ρ Q (g := fun x y q => pI2 (fun _ _ => True) (fun i j => if j < i then j else i) x.d y.d q) (fun ops Q => by revert ops; exact ops2 rfl (fun _ => rfl) (fun _ _ => rfl) (fun _ _ _ _ => rfl)) rfl as
theorem ev_max2 (as : Es) : bE T X p (.op .max2 as) ρ = @bAs T X p as ρ ⟨fun args ρ' => @ob _ (rds ρ' args) ⟨fun ops => @two ops ⟨fun x y => @qI2 (fun i j => if j > i then j else i) x.d y.d ⟨fun s => Q.k s ρ'⟩⟩⟩⟩ :=
  prim_two T X p ρ Q (g := fun x y q => pI2 (fun _ _ => True) (fun i j => if j > i then j else i) x.d y.d q) (fun ops Q => by revert ops; exact ops2 rfl (fun _ => rfl) (fun _ _ => rfl) (fun _ _ _ _ => rfl)) rfl as
theorem ev_sorted (as : Es) : bE T X p (.op .sorted as) ρ = @bAs T X p as ρ ⟨fun args ρ' => @ob _ (rds ρ' args) ⟨fun ops => @one ops ⟨fun x => @qSorted x.d ⟨fun s => Q.k s ρ'⟩⟩⟩⟩ :=
  prim_one T X p ρ Q (g := fun x q => pSorted x.d q) (fun ops Q => by revert ops; exact ops2 rfl (fun _ => rfl) (fun _ _ => rfl) (fun _ _ _ _ => rfl)) rfl as
theorem ev_tuple (as : Es) : bE T X p (.op .tuple as) ρ = @bAs T X p as ρ ⟨fun args ρ' => @ob _ (rds ρ' args) ⟨fun ops => @one ops ⟨fun x => @qTuple x.d ⟨fun s => Q.k s ρ'⟩⟩⟩⟩ :=
  prim_one T X p ρ Q (g := fun x q => pTuple x.d q) (fun ops Q => by revert ops; exact ops2 rfl (fun _ => rfl) (fun _ _ => rfl) (fun _ _ _ _ => rfl)) rfl as
theorem ev_all (as : Es) : bE T X p (.op .all as) ρ = @bAs T X p as ρ ⟨fun args ρ' => @ob _ (rds ρ' args) ⟨fun ops => @one ops ⟨fun x => @qBools (fun bs => bs.all id) x.d ⟨fun s => Q.k s ρ'⟩⟩⟩⟩ :=
  prim_one T X p ρ Q (g := fun x q => pBools (fun bs => bs.all id) x.d q) (fun ops Q => by revert ops; exact ops2 rfl (fun _ => rfl) (fun _ _ => rfl) (fun _ _ _ _ => rfl)) rfl as
theorem ev_any (as : Es) : bE T X p (.op .any as) ρ = @bAs T X p as ρ ⟨fun args ρ' => @ob _ (rds ρ' args) ⟨fun ops => @one ops ⟨fun x => @qBools (fun bs => bs.any id) x.d ⟨fun s => Q.k s ρ'⟩⟩⟩⟩ :=
  prim_one T X p ρ Q (g := fun x q => pBools (fun bs => bs.any id) x.d q) (fun ops Q => by revert ops; exact ops2 rfl (fun _ => rfl) (fun _ _ => rfl) (fun _ _ _ _ => rfl)) rfl as
theorem ev_sum (as : Es) : bE T X p (.op .sum as) ρ = @bAs T X p as ρ ⟨fun args ρ' => @ob _ (rds ρ' args) ⟨fun ops => @one ops ⟨fun x => @qInts (fun is q => q is.sum) x.d ⟨fun s => Q.k s ρ'⟩⟩⟩⟩ :=
  prim_one T X p ρ Q (g := fun x q => pInts (fun is q => q is.sum) x.d q) (fun ops Q => by revert ops; exact ops2 rfl (fun _ => rfl) (fun _ _ => rfl) (fun _ _ _ _ => rfl)) rfl as
theorem ev_min1 (as : Es) : bE T X p (.op .min1 as) ρ = @bAs T X p as ρ ⟨fun args ρ' => @ob _ (rds ρ' args) ⟨fun ops => @one ops ⟨fun x => @qInts (fun is q => 0 < is.length ∧ ∀ m, m ∈ is → (∀ y, y ∈ is → m ≤ y) → q m) x.d ⟨fun s => Q.k s ρ'⟩⟩⟩⟩ :=
  prim_one T X p ρ Q (g := fun x q => pInts (fun is q => 0 < is.length ∧ ∀ m, m ∈ is → (∀ y, y ∈ is → m ≤ y) → q m) x.d q) (fun ops Q => by revert ops; exact ops2 rfl (fun _ => rfl) (fun _ _ => rfl) (fun _ _ _ _ => rfl)) rfl as
theorem ev_max1 (as : Es) : bE T X p (.op .max1 as) ρ = @bAs T X p as ρ ⟨fun args ρ' => @ob _ (rds ρ' args) ⟨fun ops => @one ops ⟨fun x => @qInts (fun is q => 0 < is.length ∧ ∀ m, m ∈ is → (∀ y, y ∈ is → y ≤ m) → q m) x.d ⟨fun s => Q.k s ρ'⟩⟩⟩⟩ :=
  prim_one T X p ρ Q (g := fun x q => pInts (fun is q => 0 < is.length ∧ ∀ m, m ∈ is → (∀ y, y ∈ is → y ≤ m) → q m) x.d q) (fun ops Q => by revert ops; exact ops2 rfl (fun _ => rfl) (fun _ _ => rfl) (fun _ _ _ _ => rfl)) rfl as
theorem ev_rev (as : Es) : bE T X p (.op .rev as) ρ = @bAs T X p as ρ ⟨fun args ρ' => @ob _ (rds ρ' args) ⟨fun ops => @one ops ⟨fun x => @qFlat List.reverse x.d ⟨fun s => Q.k s ρ'⟩⟩⟩⟩ :=
  prim_one T X p ρ Q (g := fun x q => pFlat List.reverse x.d q) (fun ops Q => by revert ops; exact ops2 rfl (fun _ => rfl) (fun _ _ => rfl) (fun _ _ _ _ => rfl)) rfl as
theorem ev_sl00 (as : Es) : bE T X p (.op (.slice false false) as) ρ = @bAs T X p as ρ ⟨fun args ρ' => @ob _ (rds ρ' args) ⟨fun ops => @one ops ⟨fun x => @qFlat (fun l => cutL l none none) x.d ⟨fun s => Q.k s ρ'⟩⟩⟩⟩ :=
  prim_one T X p ρ Q (g := fun x q => pFlat (fun l => cutL l none none) x.d q) (fun ops Q => by revert ops; exact ops2 rfl (fun _ => rfl) (fun _ _ => rfl) (fun _ _ _ _ => rfl)) rfl as
theorem ev_isi (tys : List String) (as : Es) : bE T X p (.op (.isi tys) as) ρ = @bAs T X p as ρ ⟨fun args ρ' => @ob _ (rds ρ' args) ⟨fun ops => @one ops ⟨fun x => Q.k (sw (.bl (tys.any (isOne (tyD x.d))))) ρ'⟩⟩⟩ :=
  prim_one T X p ρ Q (g := fun x q => q (sw (.bl (tys.any (isOne (tyD x.d)))))) (fun ops Q => by revert ops; exact ops2 rfl (fun _ => rfl) (fun _ _ => rfl) (fun _ _ _ _ => rfl)) rfl as
theorem ev_len (as : Es) : bE T X p (.op .len as) ρ = @bAs T X p as ρ ⟨fun args ρ' => @ob _ (rds ρ' args) ⟨fun ops => @one ops ⟨fun x => @ob _ (lenOf x.d) ⟨fun n => Q.k (sw (.int n)) ρ'⟩⟩⟩⟩ :=
  prim_one T X p ρ Q (g := fun x q => @ob _ (lenOf x.d) ⟨fun n => q (sw (.int n))⟩) (fun ops Q => by
    revert ops
    refine ops2 rfl (fun x => ?_) (fun _ _ => rfl) (fun _ _ _ _ => rfl)
    show (match lenOf x.d with | some n => Q (sw (.int n)) | none => False) = @ob _ (lenOf x.d) ⟨fun n => Q (sw (.int n))⟩
    cases lenOf x.d <;> rfl) rfl as
theorem ev_list (as : Es) : bE T X p (.op .list as) ρ = @bAs T X p as ρ ⟨fun args ρ' => @ob _ (rds ρ' args) ⟨fun ops => @one ops ⟨fun x => @ob _ (itemsW x.d) ⟨fun ws => Q.k ⟨.own, .lst (ws.map .w)⟩ ρ'⟩⟩⟩⟩ :=
  prim_one T X p ρ Q (g := fun x q => @ob _ (itemsW x.d) ⟨fun ws => q ⟨.own, .lst (ws.map .w)⟩⟩) (fun ops Q => by
    revert ops
    refine ops2 rfl (fun x => ?_) (fun _ _ => rfl) (fun _ _ _ _ => rfl)
    show (match itemsW x.d with | some n => _ | none => False) = obf (itemsW x.d) _
    cases itemsW x.d <;> rfl) rfl as
theorem ev_neg (as : Es) : bE T X p (.op .neg as) ρ = @bAs T X p as ρ ⟨fun args ρ' => @ob _ (rds ρ' args) ⟨fun ops => @one ops ⟨fun x => @ob _ (asI x.d) ⟨fun i => Q.k (sw (.int (-i))) ρ'⟩⟩⟩⟩ :=
  prim_one T X p ρ Q (g := fun x q => @ob _ (asI x.d) ⟨fun i => q (sw (.int (-i)))⟩) (fun ops Q => by
    revert ops
    refine ops2 rfl (fun x => ?_) (fun _ _ => rfl) (fun _ _ _ _ => rfl)
    obtain ⟨s, m, d⟩ := x
    rcases d with x | x | x | x | x | x <;> try rfl
    cases x <;> rfl) rfl as
theorem ev_abs (as : Es) : bE T X p (.op .abs as) ρ = @bAs T X p as ρ ⟨fun args ρ' => @ob _ (rds ρ' args) ⟨fun ops => @one ops ⟨fun x => @ob _ (asI x.d) ⟨fun i => Q.k (sw (.int (if i < 0 then -i else i))) ρ'⟩⟩⟩⟩ :=
  prim_one T X p ρ Q (g := fun x q => @ob _ (asI x.d) ⟨fun i => q (sw (.int (if i < 0 then -i else i)))⟩) (fun ops Q => by
    revert ops
    refine ops2 rfl (fun x => ?_) (fun _ _ => rfl) (fun _ _ _ _ => rfl)
    obtain ⟨s, m, d⟩ := x
    rcases d with x | x | x | x | x | x <;> try rfl
    cases x <;> rfl) rfl as
def asInt (d : D) : Option Int := match d with
  | .w (.int i) => some i
  | .w (.bl b) => some (if b then 1 else 0)
  | _ => none
theorem asInt_int (i : Int) : asInt (.w (.int i)) = some i := rfl
theorem asInt_bl (b : Bool) : asInt (.w (.bl b)) = some (if b then 1 else 0) := rfl
theorem ev_int (as : Es) : bE T X p (.op .int as) ρ = @bAs T X p as ρ ⟨fun args ρ' => @ob _ (rds ρ' args) ⟨fun ops => @one ops ⟨fun x => @ob _ (asInt x.d) ⟨fun i => Q.k (sw (.int i)) ρ'⟩⟩⟩⟩ :=
  prim_one T X p ρ Q (g := fun x q => @ob _ (asInt x.d) ⟨fun i => q (sw (.int i))⟩) (fun ops Q => by
    revert ops
    refine ops2 rfl (fun x => ?_) (fun _ _ => rfl) (fun _ _ _ _ => rfl)
    obtain ⟨s, m, d⟩ := x
    rcases d with x | x | x | x | x | x <;> try rfl
    cases x <;> rfl) rfl as
theorem ev_slF (as : Es) : bE T X p (.op (.slice false true) as) ρ = @bAs T X p as ρ ⟨fun args ρ' => @ob _ (rds ρ' args) ⟨fun ops => @two ops ⟨fun x y => @ob _ (asI y.d) ⟨fun i => @qFlat (fun l => cutL l none (some i)) x.d ⟨fun s => Q.k s ρ'⟩⟩⟩⟩⟩ :=
  prim_two T X p ρ Q (g := fun x y q => @ob _ (asI y.d) ⟨fun i => pFlat (fun l => cutL l none (some i)) x.d q⟩) (fun ops Q => by
    revert ops
    refine ops2 rfl (fun x => rfl) (fun x y => ?_) (fun _ _ _ _ => rfl)
    obtain ⟨s, m, d⟩ := y
    rcases d with x | x | x | x | x | x <;> try rfl
    cases x <;> rfl) rfl as
theorem ev_slT (as : Es) : bE T X p (.op (.slice true false) as) ρ = @bAs T X p as ρ ⟨fun args ρ' => @ob _ (rds ρ' args) ⟨fun ops => @two ops ⟨fun x y => @ob _ (asI y.d) ⟨fun i => @qFlat (fun l => cutL l (some i) none) x.d ⟨fun s => Q.k s ρ'⟩⟩⟩⟩⟩ :=
  prim_two T X p ρ Q (g := fun x y q => @ob _ (asI y.d) ⟨fun i => pFlat (fun l => cutL l (some i) none) x.d q⟩) (fun ops Q => by
    revert ops
    refine ops2 rfl (fun x => rfl) (fun x y => ?_) (fun _ _ _ _ => rfl)
    obtain ⟨s, m, d⟩ := y
    rcases d with x | x | x | x | x | x <;> try rfl
    cases x <;> rfl) rfl as
end
section
variable (Q : Kn (List Arg → REnv → Prop))
theorem as_nil : bAs T X p .nil ρ = Q.k [] ρ := propext ⟨id, id⟩
def lvWp (o : Option (Option SV)) [q : Kn Prop] : Prop := match o with
  | some (some _) => q.k
  | _ => False
theorem lv_mk (s : SV) (q : Kn Prop) : lvWp (some (some s)) = q.k := propext ⟨id, id⟩
theorem as_var (i : Nat) (es : Es) : bAs T X p (.cons (.var i) es) ρ = @lvWp ρ[i]? ⟨@bAs T X p es ρ ⟨fun as ρ' => Q.k (.late i :: as) ρ'⟩⟩ := by
  show (match ρ[i]? with | some (some _) => wpAs T X p es ρ fun as ρ' => Q.k (.late i :: as) ρ' | _ => False) = _
  rcases ρ[i]? with _ | _ | x <;> rfl
theorem as_cst (w : W) (es : Es) : bAs T X p (.cons (.cst w) es) ρ = @bE T X p (.cst w) ρ ⟨fun s ρ' => @bAs T X (p || heldB ⟨none, s.m, s.d⟩) es ρ' ⟨fun as ρ2 => Q.k (.tmp s.m s.d :: as) ρ2⟩⟩ := propext ⟨id, id⟩
theorem as_glob (x : Str) (n : Int) (es : Es) : bAs T X p (.cons (.glob x n) es) ρ = @bE T X p (.glob x n) ρ ⟨fun s ρ' => @bAs T X (p || heldB ⟨none, s.m, s.d⟩) es ρ' ⟨fun as ρ2 => Q.k (.tmp s.m s.d :: as) ρ2⟩⟩ := propext ⟨id, id⟩
theorem as_op (o : Prim) (as : Es) (es : Es) : bAs T X p (.cons (.op o as) es) ρ = @bE T X p (.op o as) ρ ⟨fun s ρ' => @bAs T X (p || heldB ⟨none, s.m, s.d⟩) es ρ' ⟨fun as ρ2 => Q.k (.tmp s.m s.d :: as) ρ2⟩⟩ := propext ⟨id, id⟩
theorem as_and (a b : E) (es : Es) : bAs T X p (.cons (.and a b) es) ρ = @bE T X p (.and a b) ρ ⟨fun s ρ' => @bAs T X (p || heldB ⟨none, s.m, s.d⟩) es ρ' ⟨fun as ρ2 => Q.k (.tmp s.m s.d :: as) ρ2⟩⟩ := propext ⟨id, id⟩
theorem as_or (a b : E) (es : Es) : bAs T X p (.cons (.or a b) es) ρ = @bE T X p (.or a b) ρ ⟨fun s ρ' => @bAs T X (p || heldB ⟨none, s.m, s.d⟩) es ρ' ⟨fun as ρ2 => Q.k (.tmp s.m s.d :: as) ρ2⟩⟩ := propext ⟨id, id⟩
theorem as_not (a : E) (es : Es) : bAs T X p (.cons (.not a) es) ρ = @bE T X p (.not a) ρ ⟨fun s ρ' => @bAs T X (p || heldB ⟨none, s.m, s.d⟩) es ρ' ⟨fun as ρ2 => Q.k (.tmp s.m s.d :: as) ρ2⟩⟩ := propext ⟨id, id⟩
theorem as_ite (c a b : E) (es : Es) : bAs T X p (.cons (.ite c a b) es) ρ = @bE T X p (.ite c a b) ρ ⟨fun s ρ' => @bAs T X (p || heldB ⟨none, s.m, s.d⟩) es ρ' ⟨fun as ρ2 => Q.k (.tmp s.m s.d :: as) ρ2⟩⟩ := propext ⟨id, id⟩
theorem as_chain (o1 o2 : Cmp) (a b c : E) (es : Es) : bAs T X p (.cons (.chain o1 o2 a b c) es) ρ = @bE T X p (.chain o1 o2 a b c) ρ ⟨fun s ρ' => @bAs T X (p || heldB ⟨none, s.m, s.d⟩) es ρ' ⟨fun as ρ2 => Q.k (.tmp s.m s.d :: as) ρ2⟩⟩ := propext ⟨id, id⟩
theorem as_call (f : Str) (as : Es) (es : Es) : bAs T X p (.cons (.call f as) es) ρ = @bE T X p (.call f as) ρ ⟨fun s ρ' => @bAs T X (p || heldB ⟨none, s.m, s.d⟩) es ρ' ⟨fun as ρ2 => Q.k (.tmp s.m s.d :: as) ρ2⟩⟩ := propext ⟨id, id⟩
theorem as_mth (m : Mth) (i : Nat) (as : Es) (es : Es) : bAs T X p (.cons (.mth m i as) es) ρ = @bE T X p (.mth m i as) ρ ⟨fun s ρ' => @bAs T X (p || heldB ⟨none, s.m, s.d⟩) es ρ' ⟨fun as ρ2 => Q.k (.tmp s.m s.d :: as) ρ2⟩⟩ := propext ⟨id, id⟩
theorem as_lc (tg : Tg) (it : Itr) (e : E) (own : List (Str × Nat)) (es : Es) : bAs T X p (.cons (.lc tg it e own) es) ρ = @bE T X p (.lc tg it e own) ρ ⟨fun s ρ' => @bAs T X (p || heldB ⟨none, s.m, s.d⟩) es ρ' ⟨fun as ρ2 => Q.k (.tmp s.m s.d :: as) ρ2⟩⟩ := propext ⟨id, id⟩
theorem as_lcIf (tg : Tg) (it : Itr) (c e : E) (own : List (Str × Nat)) (es : Es) : bAs T X p (.cons (.lcIf tg it c e own) es) ρ = @bE T X p (.lcIf tg it c e own) ρ ⟨fun s ρ' => @bAs T X (p || heldB ⟨none, s.m, s.d⟩) es ρ' ⟨fun as ρ2 => Q.k (.tmp s.m s.d :: as) ρ2⟩⟩ := propext ⟨id, id⟩
end
section
variable (Q : Kn (Rows → REnv → Prop))
theorem it_rng (as : Es) : bI T X p (.rng as) ρ = @bAs T X p as ρ ⟨fun args ρ' => @ob _ (rds ρ' args) ⟨fun ops => @qRng ops ⟨fun R => Q.k R ρ'⟩⟩⟩ := by
  show wpAs T X p as ρ (fun args ρ' => match rds ρ' args with | some ops => rngWp ops fun R => Q.k R ρ' | none => False) = wpAs T X p as ρ _
  congr 1
  funext args ρ'
  show _ = obf (rds ρ' args) _
  cases rds ρ' args <;> rfl
theorem it_seq (as : Es) : bI T X p (.seq as) ρ = @bAs T X p as ρ ⟨fun args ρ' => lateIn args as.vars = true ∧ @ob _ (rds ρ' args) ⟨fun ops => @one ops ⟨fun o => @ob _ (rowsSeq o) ⟨fun R => Q.k R ρ'⟩⟩⟩⟩ := by
  show wpAs T X p as ρ (fun args ρ' => lateIn args as.vars = true ∧ match rds ρ' args with | some [o] => (match rowsSeq o with | some R => Q.k R ρ' | none => False) | _ => False) = wpAs T X p as ρ _
  congr 1
  funext args ρ'
  show (_ ∧ _) = (_ ∧ obf (rds ρ' args) _)
  congr 1
  rcases rds ρ' args with _ | ops
  · rfl
  · revert ops
    refine ops2 rfl (fun o => ?_) (fun _ _ => rfl) (fun _ _ _ _ => rfl)
    show (match rowsSeq o with | some R => Q.k R ρ' | none => False) = @ob _ (rowsSeq o) ⟨fun R => Q.k R ρ'⟩
    cases rowsSeq o <;> rfl
theorem it_enum (as : Es) : bI T X p (.enum as) ρ = @bAs T X p as ρ ⟨fun args ρ' => lateIn args as.vars = true ∧ @ob _ (rds ρ' args) ⟨fun ops => @one ops ⟨fun o => isLst o.d = true ∧ @ob _ (rowsEnum o) ⟨fun R => Q.k R ρ'⟩⟩⟩⟩ := by
  show wpAs T X p as ρ (fun args ρ' => lateIn args as.vars = true ∧ match rds ρ' args with | some [o] => (isLst o.d = true ∧ match rowsEnum o with | some R => Q.k R ρ' | none => False) | _ => False) = wpAs T X p as ρ _
  congr 1
  funext args ρ'
  show (_ ∧ _) = (_ ∧ obf (rds ρ' args) _)
  congr 1
  rcases rds ρ' args with _ | ops
  · rfl
  · revert ops
    refine ops2 rfl (fun o => ?_) (fun _ _ => rfl) (fun _ _ _ _ => rfl)
    show (_ ∧ match rowsEnum o with | some R => Q.k R ρ' | none => False) = (_ ∧ @ob _ (rowsEnum o) ⟨fun R => Q.k R ρ'⟩)
    cases rowsEnum o <;> rfl
theorem it_zip (as : Es) : bI T X p (.zip as) ρ = @bAs T X p as ρ ⟨fun args ρ' => lateIn args as.vars = true ∧ @ob _ (rds ρ' args) ⟨fun ops => @two ops ⟨fun x y => sameKind x.d y.d = true ∧ @ob _ (rowsZip x y) ⟨fun R => Q.k R ρ'⟩⟩⟩⟩ := by
  show wpAs T X p as ρ (fun args ρ' => lateIn args as.vars = true ∧ match rds ρ' args with | some [x, y] => (sameKind x.d y.d = true ∧ match rowsZip x y with | some R => Q.k R ρ' | none => False) | _ => False) = wpAs T X p as ρ _
  congr 1
  funext args ρ'
  show (_ ∧ _) = (_ ∧ obf (rds ρ' args) _)
  congr 1
  rcases rds ρ' args with _ | ops
  · rfl
  · revert ops
    refine ops2 rfl (fun o => rfl) (fun x y => ?_) (fun _ _ _ _ => rfl)
    show (_ ∧ match rowsZip x y with | some R => Q.k R ρ' | none => False) = (_ ∧ @ob _ (rowsZip x y) ⟨fun R => Q.k R ρ'⟩)
    cases rowsZip x y <;> rfl
end
section
variable (Q : Kn (SV → REnv → Prop))
def lcB (wt : List (Nat × SV)) (rows : List (List SV)) (ρ : REnv) [turn : Kn (List SV → REnv → (Option D → REnv → Prop) → Prop)] [Q : Kn (List D → REnv → Prop)] : Prop := lcW wt turn.k rows [] ρ Q.k
def turnL (T : Tab) (p : Bool) (tg : Tg) (elt : E) (own : List Nat) (r : List SV) (ρ1 : REnv) (k : Option D → REnv → Prop) : Prop := @ob _ (tg.set r ρ1) ⟨fun ρ2 => @bE T (fun _ _ => False) p elt ρ2 ⟨fun s ρ3 => @ob _ (ownD s) ⟨fun d => k (some d) (wipeR ρ3 own)⟩⟩⟩
theorem ev_lc (tg : Tg) (it : Itr) (elt : E) (own : List (Str × Nat)) : bE T X p (.lc tg it elt own) ρ = @bI T X p it ρ ⟨fun R ρ' => @lcB R.watch R.rows (wipeR ρ' (own.map (·.2))) ⟨turnL T (p || R.held) tg elt (own.map (·.2))⟩ ⟨fun ds ρ1 => Q.k ⟨.own, .lst ds⟩ ρ1⟩⟩ := by
  show wpI T X p it ρ (fun R ρ' => lcW R.watch (fun r ρ1 k => match tg.set r ρ1 with
      | some ρ2 => wpE T (fun _ _ => False) (p || R.held) elt ρ2 fun s ρ3 => match ownD s with
        | some d => k (some d) (wipeR ρ3 (own.map (·.2)))
        | none => False
      | none => False) R.rows [] (wipeR ρ' (own.map (·.2))) fun ds ρ1 => Q.k ⟨.own, .lst ds⟩ ρ1) = wpI T X p it ρ _
  congr 1
  funext R ρ'
  show lcW _ _ _ _ _ _ = lcW _ _ _ _ _ _
  congr 1
  funext r ρ1 k
  show _ = turnL T (p || R.held) tg elt (own.map (·.2)) r ρ1 k
  unfold turnL
  cases tg.set r ρ1 with
  | none => rfl
  | some ρ2 =>
    show wpE _ _ _ _ _ _ = wpE _ _ _ _ _ _
    congr 1
    funext s ρ3
    show _ = obf (ownD s) _
    cases ownD s <;> rfl
def turnI (T : Tab) (p : Bool) (tg : Tg) (c elt : E) (own : List Nat) (r : List SV) (ρ1 : REnv) (k : Option D → REnv → Prop) : Prop := @ob _ (tg.set r ρ1) ⟨fun ρ2 => @bE T (fun _ _ => False) p c ρ2 ⟨fun b ρ3 => @bcs b ⟨@bE T (fun _ _ => False) p elt ρ3 ⟨fun s ρ4 => @ob _ (ownD s) ⟨fun d => k (some d) (wipeR ρ4 own)⟩⟩⟩ ⟨k none (wipeR ρ3 own)⟩⟩⟩
theorem ev_lcIf (tg : Tg) (it : Itr) (c elt : E) (own : List (Str × Nat)) : bE T X p (.lcIf tg it c elt own) ρ = @bI T X p it ρ ⟨fun R ρ' => @lcB R.watch R.rows (wipeR ρ' (own.map (·.2))) ⟨turnI T (p || R.held) tg c elt (own.map (·.2))⟩ ⟨fun ds ρ1 => Q.k ⟨.own, .lst ds⟩ ρ1⟩⟩ := by
  show wpI T X p it ρ (fun R ρ' => lcW R.watch (fun r ρ1 k => match tg.set r ρ1 with
      | some ρ2 => wpE T (fun _ _ => False) (p || R.held) c ρ2 fun b ρ3 => match boolOf b with
        | some true => wpE T (fun _ _ => False) (p || R.held) elt ρ3 fun s ρ4 => match ownD s with
          | some d => k (some d) (wipeR ρ4 (own.map (·.2)))
          | none => False
        | some false => k none (wipeR ρ3 (own.map (·.2)))
        | none => False
      | none => False) R.rows [] (wipeR ρ' (own.map (·.2))) fun ds ρ1 => Q.k ⟨.own, .lst ds⟩ ρ1) = wpI T X p it ρ _
  congr 1
  funext R ρ'
  show lcW _ _ _ _ _ _ = lcW _ _ _ _ _ _
  congr 1
  funext r ρ1 k
  show _ = turnI T (p || R.held) tg c elt (own.map (·.2)) r ρ1 k
  unfold turnI
  cases tg.set r ρ1 with
  | none => rfl
  | some ρ2 =>
    show wpE _ _ _ _ _ _ = wpE _ _ _ _ _ _
    congr 1
    funext s ρ3
    show _ = bc (boolOf s) _ _
    rcases boolOf s with _ | _ | _
    · rfl
    · rfl
    · show wpE _ _ _ _ _ _ = wpE _ _ _ _ _ _
      congr 1
      funext s ρ4
      show _ = obf (ownD s) _
      cases ownD s <;> rfl
def lsWp (o : Option (Option SV)) [f : Kn (List D → Prop)] : Prop := match o with
  | some (some ⟨.own, .lst ds⟩) => f.k ds
  | _ => False
theorem ls_mk (ds : List D) (f : Kn (List D → Prop)) : lsWp (some (some ⟨.own, .lst ds⟩)) = f.k ds := propext ⟨id, id⟩
theorem ls_eq (o : Option (Option SV)) (f : List D → Prop) : (match o with | some (some ⟨.own, .lst ds⟩) => f ds | _ => False) = @lsWp o ⟨f⟩ := by
  rcases o with _ | _ | ⟨m, d⟩ <;> rfl
theorem m_append (i : Nat) (x : Arg) : qMth .append i [x] p ρ = @ob _ (putIn ρ x) ⟨fun z => @lsWp z.2[i]? ⟨fun ds => ds.length < sizeLine ∧ Q.k (sw .non) (z.2.set i (some ⟨.own, .lst (ds ++ [z.1])⟩))⟩⟩ := by
  show (match putIn ρ x with | some (d, ρ1) => (match ρ1[i]? with | some (some ⟨.own, .lst ds⟩) => ds.length < sizeLine ∧ Q.k (sw .non) (ρ1.set i (some ⟨.own, .lst (ds ++ [d])⟩)) | _ => False) | none => False) = _
  rcases putIn ρ x with _ | ⟨d, ρ1⟩
  · rfl
  · exact ls_eq ρ1[i]? fun ds => ds.length < sizeLine ∧ Q.k (sw .non) (ρ1.set i (some ⟨.own, .lst (ds ++ [d])⟩))
theorem m_extend (i : Nat) (es : List D) : qMth .extend i [.tmp .own (.lst es)] p ρ = @lsWp ρ[i]? ⟨fun ds => ds.length + es.length ≤ sizeLine ∧ Q.k (sw .non) (ρ.set i (some ⟨.own, .lst (ds ++ es)⟩))⟩ :=
  ls_eq ρ[i]? fun ds => ds.length + es.length ≤ sizeLine ∧ Q.k (sw .non) (ρ.set i (some ⟨.own, .lst (ds ++ es)⟩))
theorem m_insert (i : Nat) (k x : Arg) : qMth .insert i [k, x] p ρ = @ob _ (rd ρ k) ⟨fun o => @ob _ (asI o.d) ⟨fun j => @ob _ (putIn ρ x) ⟨fun z => @lsWp z.2[i]? ⟨fun ds => ds.length < sizeLine ∧ 0 ≤ j ∧ j < 2 ^ 63 ∧ Q.k (sw .non) (z.2.set i (some ⟨.own, .lst (ds.take j.toNat ++ z.1 :: ds.drop j.toNat)⟩))⟩⟩⟩⟩ := by
  show (match rd ρ k, putIn ρ x with | some ⟨_, _, .w (.int k)⟩, some (d, ρ1) => (match ρ1[i]? with | some (some ⟨.own, .lst ds⟩) => ds.length < sizeLine ∧ 0 ≤ k ∧ k < 2 ^ 63 ∧ Q.k (sw .non) (ρ1.set i (some ⟨.own, .lst (ds.take k.toNat ++ d :: ds.drop k.toNat)⟩)) | _ => False) | _, _ => False) = _
  rcases rd ρ k with _ | ⟨s, m, d⟩
  · rfl
  · rcases d with y | y | y | y | y | y <;> try rfl
    cases y <;> try rfl
    rename_i j
    rcases putIn ρ x with _ | ⟨d, ρ1⟩
    · rfl
    · exact ls_eq ρ1[i]? fun ds => ds.length < sizeLine ∧ 0 ≤ j ∧ j < 2 ^ 63 ∧ Q.k (sw .non) (ρ1.set i (some ⟨.own, .lst (ds.take j.toNat ++ d :: ds.drop j.toNat)⟩))
theorem m_clear (i : Nat) : qMth .clear i [] p ρ = @lsWp ρ[i]? ⟨fun ds => Q.k (sw .non) (ρ.set i (some ⟨.own, .lst []⟩))⟩ := by
  show (match ([] : List Arg), ρ[i]? with | [], some (some ⟨.own, .lst ds⟩) => Q.k (sw .non) (ρ.set i (some ⟨.own, .lst []⟩)) | _, _ => False) = _
  rcases ρ[i]? with _ | _ | ⟨m, d⟩ <;> try rfl
  cases m <;> cases d <;> rfl
theorem m_reverse (i : Nat) : qMth .reverse i [] p ρ = @lsWp ρ[i]? ⟨fun ds => Q.k (sw .non) (ρ.set i (some ⟨.own, .lst ds.reverse⟩))⟩ := by
  show (match ([] : List Arg), ρ[i]? with | [], some (some ⟨.own, .lst ds⟩) => Q.k (sw .non) (ρ.set i (some ⟨.own, .lst ds.reverse⟩)) | _, _ => False) = _
  rcases ρ[i]? with _ | _ | ⟨m, d⟩ <;> try rfl
  cases m <;> cases d <;> rfl
theorem m_pop0 (i : Nat) : qMth .pop0 i [] p ρ = @lsWp ρ[i]? ⟨fun ds => @ob _ ds.getLast? ⟨fun d => Q.k (mkSV .brw d) (ρ.set i (some ⟨.own, .lst ds.dropLast⟩))⟩⟩ := by
  show (match ([] : List Arg), ρ[i]? with | [], some (some ⟨.own, .lst ds⟩) => (match ds.getLast? with | some d => Q.k (mkSV .brw d) (ρ.set i (some ⟨.own, .lst ds.dropLast⟩)) | none => False) | _, _ => False) = _
  rcases ρ[i]? with _ | _ | ⟨m, d⟩ <;> try rfl
  cases m <;> cases d <;> try rfl
  rename_i ds
  show (match ds.getLast? with | some d => Q.k (mkSV .brw d) (ρ.set i (some ⟨.own, .lst ds.dropLast⟩)) | none => False) = obf ds.getLast? _
  cases ds.getLast? <;> rfl
end
def callB (b : Bool) (p : Bool) (f : Fn) (args : List Arg) (ds : List D) (is : List Nat) (ρ : REnv) (X : Ex → REnv → Prop) [Q : Kn (SV → REnv → Prop)] : Prop := match b with
  | true => f.spec ds (fun r outs => Q.k (mkSV .own r) (putOuts ρ is outs)) (fun x outs => X x (putOuts ρ is outs))
  | false => p = false ∧ noBrw ρ args = true ∧ f.spec ds (fun r outs => Q.k (mkSV .own r) (putOuts (killB ρ) is outs)) (fun x outs => X x (putOuts (killB ρ) is outs))
/-- a spec, shut -/
def sB (s : FSpec) (ds : List D) [Q : Kn (D → List D → Prop)] [X : Kn (Ex → List D → Prop)] : Prop := s ds Q.k X.k
theorem callB_t (f : Fn) (args : List Arg) (ds : List D) (is : List Nat) (Q : Kn (SV → REnv → Prop)) : callB true p f args ds is ρ X = @sB f.spec ds ⟨fun r outs => Q.k (mkSV .own r) (putOuts ρ is outs)⟩ ⟨fun x outs => X x (putOuts ρ is outs)⟩ := propext ⟨id, id⟩
def qCall (f : Fn) (args : List Arg) (p : Bool) (ρ : REnv) (X : Ex → REnv → Prop) [Q : Kn (SV → REnv → Prop)] : Prop := callWp f args p ρ X Q.k
theorem call_q (f : Fn) (args : List Arg) (Q : SV → REnv → Prop) : callWp f args p ρ X Q = @qCall f args p ρ X ⟨Q⟩ := propext ⟨id, id⟩
theorem call_eq (f : Fn) (args : List Arg) (Q : Kn (SV → REnv → Prop)) : qCall f args p ρ X = @ob _ (cArgs ρ f.sig args) ⟨fun z => apartArgs f.sig args z.2 = true ∧ @callB ((outDs ρ z.2).all shallow) p f args z.1 z.2 ρ X Q⟩ := by
  show callWp f args p ρ X Q.k = _
  unfold callWp
  rcases cArgs ρ f.sig args with _ | ⟨ds, is⟩
  · rfl
  · show (_ ∧ _) = (_ ∧ _)
    congr 1
end
theorem mkSV_w (m : Mode) (x : W) : mkSV m (.w x) = sw x := rfl
theorem mkSV_lst (m : Mode) (x : List D) : mkSV m (.lst x) = ⟨m, .lst x⟩ := rfl
theorem mkSV_tup (m : Mode) (x : List D) : mkSV m (.tup x) = ⟨m, .tup x⟩ := rfl
theorem mkSV_fz (m : Mode) (x : List W) : mkSV m (.fz x) = ⟨m, .fz x⟩ := rfl
theorem mkSV_dK (m : Mode) (x : List (L2.Key × D)) : mkSV m (.dK x) = ⟨m, .dK x⟩ := rfl
theorem mkSV_dT (m : Mode) (x : List (List L2.Key × D)) : mkSV m (.dT x) = ⟨m, .dT x⟩ := rfl
theorem boolOf_bl (m : Mode) (b : Bool) : boolOf ⟨m, .w (.bl b)⟩ = some b := rfl
theorem ownD_w (m : Mode) (x : W) : ownD ⟨m, .w x⟩ = some (.w x) := rfl
theorem ownD_lst (x : List D) : ownD ⟨.own, .lst x⟩ = some (.lst x) := rfl
theorem ownD_tup (x : List D) : ownD ⟨.own, .tup x⟩ = some (.tup x) := rfl
theorem ownD_dK (x : List (L2.Key × D)) : ownD ⟨.own, .dK x⟩ = some (.dK x) := rfl
theorem ownD_dT (x : List (List L2.Key × D)) : ownD ⟨.own, .dT x⟩ = some (.dT x) := rfl
theorem ix_at {n : Nat} {i : Int} (h0 : 0 ≤ i) (h1 : i < n) : ixN n i = some i.toNat := by
  unfold ixN
  rw [if_pos h0, if_pos h1]
theorem ix_neg {n : Nat} {i : Int} (h0 : i < 0) (h1 : -(n : Int) ≤ i) : ixN n i = some (i + n).toNat := by
  unfold ixN
  rw [if_neg (by omega), if_pos h1]
theorem at_nat {α : Type} {xs : List α} {i : Nat} (h : i < xs.length) : atI xs (i : Int) = some xs[i] := by
  unfold atI
  rw [ix_at (by omega) (by omega)]
  simp [h]
theorem at_int {α : Type} {xs : List α} {i : Int} (h0 : 0 ≤ i) (h : i < xs.length) : atI xs i = some (xs[i.toNat]'(by omega)) := by
  unfold atI
  rw [ix_at h0 h]
  show xs[i.toNat]? = _
  rw [List.getElem?_eq_getElem (by omega)]
theorem at_none {α : Type} {xs : List α} {i : Int} {x : α} (h : atI xs i = some x) : x ∈ xs := by
  obtain ⟨j, e, _⟩ := atI_ex h
  exact List.mem_of_getElem? e
theorem atI_0 {α : Type} (a : α) (r : List α) : atI (a :: r) 0 = some a := by
  rw [at_int (by decide) (by simp <;> omega)]; rfl
theorem atI_1 {α : Type} (a b : α) (r : List α) : atI (a :: b :: r) 1 = some b := by
  rw [at_int (by decide) (by simp <;> omega)]; rfl
theorem atI_2 {α : Type} (a b c : α) (r : List α) : atI (a :: b :: c :: r) 2 = some c := by
  rw [at_int (by decide) (by simp <;> omega)]; rfl
theorem atI_3 {α : Type} (a b c d : α) (r : List α) : atI (a :: b :: c :: d :: r) 3 = some d := by
  rw [at_int (by decide) (by simp <;> omega)]; rfl
theorem atI_4 {α : Type} (a b c d e : α) (r : List α) : atI (a :: b :: c :: d :: e :: r) 4 = some e := by
  rw [at_int (by decide) (by simp <;> omega)]; rfl
theorem ix_0 (n : Nat) : ixN (n + 1) 0 = some 0 := ix_at (by decide) (by omega)
theorem ix_1 (n : Nat) : ixN (n + 1 + 1) 1 = some 1 := ix_at (by decide) (by omega)
theorem ix_2 (n : Nat) : ixN (n + 1 + 1 + 1) 2 = some 2 := ix_at (by decide) (by omega)
theorem cmul_l {i j : Int} (h : -(2 ^ 64) < i) (h2 : i < 2 ^ 64) : CMul i j := .inl ⟨h, h2⟩
theorem cmul_r {i j : Int} (h : -(2 ^ 64) < j) (h2 : j < 2 ^ 64) : CMul i j := .inr ⟨h, h2⟩
theorem cdiv {i j : Int} (h : 0 < j) (h2 : j < 2 ^ 64) : CDivW i j := ⟨h, by
  have : j.natAbs < 2 ^ 64 := by omega
  by_cases hz : j.natAbs = 0
  · rw [hz]; decide
  · exact Nat.lt_of_lt_of_le ((Nat.log2_lt hz).mpr this) (by decide)⟩
theorem r_1 (s : Option Nat) (m : Mode) (j : Int) (Q : Kn (Rows → Prop)) : qRng [⟨s, m, dI j⟩] = (small62 j ∧ Q.k (rangeRows 0 j.toNat 1)) := propext ⟨id, id⟩
theorem r_2 (s s' : Option Nat) (m m' : Mode) (i j : Int) (Q : Kn (Rows → Prop)) : qRng [⟨s, m, dI i⟩, ⟨s', m', dI j⟩] = (small62 i ∧ small62 j ∧ Q.k (rangeRows i (j - i).toNat 1)) := propext ⟨id, id⟩
theorem s62 {i : Int} (h1 : -(2 ^ 62) ≤ i) (h2 : i < 2 ^ 62) : small62 i := ⟨h1, h2⟩
theorem ob_of {α : Type} {o : Option α} {f : Kn (α → Prop)} {a : α} (h : o = some a) (k : f.k a) : ob o := by
  rw [h]
  exact k
theorem cdivB {i j : Int} (h : 0 < j) (h2 : j < 2 ^ 200) : CDivW i j := ⟨h, by
  have : j.natAbs < 2 ^ 200 := by omega
  by_cases hz : j.natAbs = 0
  · rw [hz]; decide
  · exact Nat.lt_of_lt_of_le ((Nat.log2_lt hz).mpr this) (by decide)⟩
theorem whl_rule {T : Tab} {X : Ex → REnv → Prop} {p : Bool} {c : E} {b : Ss} {ρ : REnv} {k : WK} (I : Nat → REnv → Prop) (m0 : Nat) (h0 : I m0 ρ)
    (h : ∀ m ρ, I m ρ → @bE T X p c ρ ⟨fun s ρ1 => @bcs s ⟨@bSs T X p b ρ1 ⟨loopK (fun ρ' => ∃ m', m' < m ∧ I m' ρ') k⟩⟩ ⟨@knx ρ1 ⟨k⟩⟩⟩) : @bS T X p (.whl c b) ρ ⟨k⟩ :=
  ⟨I, ⟨m0, h0⟩, h⟩
end Wm
namespace Wm
open PySem PySem.Spec PyProof.Rows L2
def Ver (T : Tab) (f : Def) (sp : FSpec) : Prop := ∀ ds Q X, sp ds Q X → wpFn T f ds Q X
section
variable {P : Program} {w : World} {K : PySem.W.Frag} {mg : Str → Option Value} {base : Heap}
def Has (P : Program) (w : World) (K : PySem.W.Frag) (mg : Str → Option Value) (base : Heap) (fn : Fn) : Prop := ∃ ad fd ps, mg fn.name = some (.ref ad) ∧ FnOk P w K mg base (L2.CX P w) fn.lvl ad fd ps (spOf K mg fn) ∧ PySem.W.keepIn K (.ref ad) = true ∧ Binds K fd ps []
theorem tab_nil {R : Nat} : TabOk P w K mg base [] R := fun f fn h => nomatch h
theorem tab_cons {R : Nat} {fn : Fn} {T : Tab} (l : fn.lvl ≤ R) (h : Has P w K mg base fn) (t : TabOk P w K mg base T R) : TabOk P w K mg base (fn :: T) R := fun f g e => by
  unfold Tab.find at e
  rw [List.find?_cons] at e
  by_cases c : fn.name = f
  · rw [decide_eq_true c] at e
    have e : some fn = some g := e
    cases e
    rw [← c]
    exact ⟨l, h⟩
  · rw [decide_eq_false c] at e
    exact t f g e
theorem has_mk {x qual : Str} {st : Stmt} {ad : Addr} {fd : FuncData} (F : L2.Fun K x qual st ad fd) {f : Def} {fn : Fn} {T : Tab} {CS : CkT} {k : Nat} (hm : mg fn.name = some (.ref ad)) (hk : PySem.W.keepIn K (.ref ad) = true) (hb : Binds K fd f.ps []) (lv : fn.lvl = k + 1)
    (sig : f.sig = fn.sig) (len : f.ps.length = f.sig.length) (scp : FnScope f.N f.ps (defScope st)) (chk : chkSs { CS with pr := prSlots f.sig 0 } f.N (defScope st) f.body (defBody st) = true) (ver : Ver T f fn.spec)
    (tab : TabOk P w K mg base T k) (fs : CS.fs.all (fun g => (T.find g).isSome) = true)
    (blt : ∀ x ∈ bltNames, mg x = none) (cst : ∀ x n, CS.cs.lookup x = some n → ∃ t, mg x = some (.int n t)) : Has P w K mg base fn :=
  ⟨ad, fd, f.ps, hm, by rw [lv]; exact fn_ok F ⟨sig, len, scp, chk, fun ds Q X _ => ver ds Q X⟩ tab (fun g hg => List.all_eq_true.mp fs g (by simpa using hg)) blt cst, hk, hb⟩
theorem has_dead {x qual : Str} {st : Stmt} {ad : Addr} {fd : FuncData} {fn : Fn} {ps : List Str} (h : ∀ ds Q X, ¬ fn.spec ds Q X) (hm : mg fn.name = some (.ref ad)) (hk : PySem.W.keepIn K (.ref ad) = true) (hb : Binds K fd ps []) : Has P w K mg base fn :=
  ⟨ad, fd, ps, hm, ⟨fun _ _ _ _ z => by obtain ⟨_, _, _, _, _, s, _⟩ := z; exact (h _ _ _ s).elim, fun _ _ _ _ _ _ _ _ _ _ _ _ _ z => by obtain ⟨_, _, _, _, _, s, _⟩ := z; exact (h _ _ _ s).elim⟩, hk, hb⟩
theorem law_sp {fn : Fn} {n : Nat} (hs : fn.sig = [false]) (h : ∀ ns : List Int, ns.length ≤ n → fn.spec [.fz (ns.map .int)] (fun r _ => r = .w (.bl true)) (fun _ _ => False)) (H : Hp) (a : Addr) (ns : List Int) (hl : ns.length ≤ n) (o : Only H) (s : SqL K H a (ns.map V.int)) :
    spOf K mg fn [.ref a] H (fun v _ => v = .bl true) fun _ _ _ => False := by
  have fz : FzL K H a (ns.map V.int) := by
    rcases s with (s | s) | s
    · rcases o a with z | ⟨_, _, z⟩ <;> (rw [z] at s; cases s)
    · exact .inl s
    · exact .inr s
  have rws : ∀ ns : List Int, RWs K H (ns.map .int) (ns.map V.int) := fun ns => by
    induction ns with
    | nil => rfl
    | cons x r ih => exact ⟨_, _, rfl, rfl, ih⟩
  refine ⟨[.fz (ns.map .int)], fun _ => [], ⟨by rw [hs]; rfl, by rw [hs]; rfl, fun i d v e1 e2 => ?_, fun i e => ?_, fun i j _ _ _ _ b hb => nomatch hb⟩, _, _, h ns hl, fun r outs v H' q _ _ g => ?_, fun _ _ _ _ _ q => q.elim⟩
  · match i with
    | 0 =>
      cases e1
      cases e2
      exact ⟨a, _, rfl, fz, rws ns, rfl⟩
    | i + 1 => simp at e1
  · exact List.nodup_nil
  · obtain ⟨FP, g⟩ := g
    subst q
    exact (g.rep (k := .inr 0) rfl).1
def spEnd (K : PySem.W.Frag) (fn : Fn) : Sp := fun vs H Q E => ∀ mg : Str → Option Value, spOf K mg fn vs H Q E
theorem cx_end (P : Program) (w : World) (H : Hp) (s : Shared) (e : Value) (s' : Shared) (h : L2.CX P w [] H s (fun _ _ _ => False) e s') : False := by
  obtain ⟨_, _, _, _, _, _, _, _, _, _, _, _, z⟩ := h
  exact z
theorem cst_nil {cs : List (Str × Int)} (h : cs = []) : ∀ x n, cs.lookup x = some n → ∃ t, mg x = some (.int n t) := fun x n e => by
  subst h
  cases e
theorem cst_all {cs : List (Str × Int)} (h : ∀ p ∈ cs, ∃ t, mg p.1 = some (.int p.2 t)) : ∀ x n, cs.lookup x = some n → ∃ t, mg x = some (.int n t) := by
  induction cs with
  | nil => intro x n e; cases e
  | cons q r ih =>
    intro x n e
    obtain ⟨y, m⟩ := q
    rw [List.lookup_cons] at e
    by_cases c : x == y
    · rw [c] at e
      cases e
      have := h (y, n) List.mem_cons_self
      rwa [← eq_of_beq c] at this
    · rw [Bool.not_eq_true] at c
      rw [c] at e
      exact ih (fun p hp => h p (List.mem_cons_of_mem _ hp)) x n e
end
theorem walk_end {l : PySem.W.OpenLaw} {q : Program} {loose : List Str} {XP : (Str → Option Value) → Heap → Prop} {YP : World → Heap → Prop} {d : DefRec} {K : Params → PySem.W.Frag} {k : Nat} (fn : Fn)
    (hs : fn.sig = [false]) (h : ∀ ns : List Int, ns.length ≤ 63 → fn.spec [.fz (ns.map .int)] (fun r _ => r = .w (.bl true)) (fun _ _ => False))
    (hn : l.most = some 63) (hdf : d.params.defaults = []) (hr : Room k callerA) (hY : ∀ (w : World) (h : Heap), YP w h → (K w.params).In h)
    (F : ∀ (w : World) (mg : Str → Option Value) (fa : Addr) (h : Heap), (K w.params).In h → h.Ns mainGlobals mg → mg d.name = some (.ref fa) →
      ∃ fd : FuncData, (∀ (s : Shared) (u : Value), BindsTo s fd ⟨[u], []⟩ [("script", u)]) ∧ ∀ base : Heap, (K w.params).In base → base.Ns mainGlobals mg → FnOk l.prog w (K w.params) mg base (L2.CX l.prog w) k fa fd ["script"] (spEnd (K w.params) fn)) :
    PySem.W.WalkO q loose XP YP l.row.toRowW d [] (fun f vs => PySem.call f vs) :=
  L2.walk_of (n := 63) (k := k) (x := "script") (CX := fun w => L2.CX l.prog w) (sp := fun w => spEnd (K w.params) fn) hn (by decide) hdf hr hY F (fun w H a ns hl ho hS mg => law_sp hs h H a ns hl ho hS) fun w => cx_end _ w
end Wm
namespace Wm
open PySem PySem.Spec PyProof.Rows L2
section
variable {α : Type} (f : α → W)
def dl (l : List α) : List D := l.map fun a => .w (f a)
theorem dl_nil : dl f [] = [] := rfl
theorem dl_cons (a : α) (l : List α) : dl f (a :: l) = .w (f a) :: dl f l := rfl
theorem dl_app (a b : List α) : dl f (a ++ b) = dl f a ++ dl f b := List.map_append
theorem dl_len (l : List α) : (dl f l).length = l.length := List.length_map _
theorem dl_w (l : List α) : (l.map f).map D.w = dl f l := by
  unfold dl
  rw [List.map_map]
  rfl
theorem dl_allW (l : List α) : allW (dl f l) = some (l.map f) := by
  induction l with
  | nil => rfl
  | cons a l ih =>
    show (match allW (dl f l) with | some xs => some (f a :: xs) | none => none) = _
    rw [ih]
    rfl
theorem dl_isW (l : List α) : (dl f l).all isW = true := by
  unfold dl
  rw [List.all_map, List.all_eq_true]
  exact fun _ _ => rfl
theorem dl_shallow (l : List α) : shallow (.lst (dl f l)) = true := dl_isW f l
theorem dl_seqT (l : List α) : seqOf (.w (.tup (l.map f))) = some (dl f l) := by
  show some ((l.map f).map D.w) = _
  rw [dl_w]
theorem dl_seqL (l : List D) : seqOf (.lst l) = some l := rfl
theorem dl_seqF (l : List α) : seqOf (.fz (l.map f)) = some (dl f l) := by
  show some ((l.map f).map D.w) = _
  rw [dl_w]
theorem dl_at {l : List α} {i : Int} {a : α} (h : atI l i = some a) : atI (dl f l) i = some (.w (f a)) := by
  obtain ⟨j, e, k⟩ := atI_ex h
  exact k (dl f l) _ (dl_len f l) (by unfold dl; rw [List.getElem?_map, e]; rfl)
theorem map_at {β : Type} (g : α → β) {l : List α} {i : Int} {a : α} (h : atI l i = some a) : atI (l.map g) i = some (g a) := by
  obtain ⟨j, e, k⟩ := atI_ex h
  exact k (l.map g) _ (List.length_map _) (by rw [List.getElem?_map, e]; rfl)
theorem dl_set (l : List α) (n : Nat) (a : α) : (dl f l).set n (.w (f a)) = dl f (l.set n a) := by
  unfold dl
  rw [List.map_set]
theorem dl_rows (m : Mode) (l : List α) : (dl f l).map (fun d => [mkSV m d]) = l.map fun a => [sw (f a)] := by
  unfold dl
  rw [List.map_map]
  rfl
theorem dl_one (a : α) : [D.w (f a)] = dl f [a] := rfl
end
theorem rs_tup {α : Type} (f : α → W) (s : Option Nat) (m : Mode) (l : List α) : rowsSeq ⟨s, m, .w (.tup (l.map f))⟩ = some ⟨l.map fun a => [sw (f a)], Op.watch ⟨s, m, .w (.tup (l.map f))⟩, heldB ⟨s, m, .w (.tup (l.map f))⟩⟩ := by
  unfold rowsSeq
  rw [dl_seqT]
  show some _ = some _
  rw [dl_rows]
theorem rs_lst {α : Type} (f : α → W) (s : Option Nat) (m : Mode) (l : List α) : rowsSeq ⟨s, m, .lst (dl f l)⟩ = some ⟨l.map fun a => [sw (f a)], Op.watch ⟨s, m, .lst (dl f l)⟩, heldB ⟨s, m, .lst (dl f l)⟩⟩ := by
  unfold rowsSeq
  rw [dl_seqL]
  show some _ = some _
  rw [dl_rows]
theorem rs_fz {α : Type} (f : α → W) (s : Option Nat) (m : Mode) (l : List α) : rowsSeq ⟨s, m, .fz (l.map f)⟩ = some ⟨l.map fun a => [sw (f a)], Op.watch ⟨s, m, .fz (l.map f)⟩, heldB ⟨s, m, .fz (l.map f)⟩⟩ := by
  unfold rowsSeq
  rw [dl_seqF]
  show some _ = some _
  rw [dl_rows]
theorem range_rows (lo : Int) (n : Nat) : rangeRows lo n 1 = ⟨(List.range n).map fun (k : Nat) => [sw (.int (lo + (k : Int)))], [], false⟩ := by
  unfold rangeRows
  simp
def srt {α : Type} (f : α → List Int) : List α → List α
  | [] => []
  | x :: r => ins x (srt f r)
where ins (x : α) : List α → List α
  | [] => [x]
  | y :: r => if HT.lexLt (f y) (f x) then y :: ins x r else x :: y :: r
theorem ins_map {α : Type} (f : α → List Int) (x : α) : ∀ l : List α, insT (f x) (l.map f) = (srt.ins f x l).map f
  | [] => rfl
  | y :: l => by
    rw [List.map_cons]
    unfold insT srt.ins
    split
    · rw [List.map_cons, ins_map f x l]
    · rfl
theorem srt_map {α : Type} (f : α → List Int) : ∀ l : List α, sortT (l.map f) = (srt f l).map f
  | [] => rfl
  | x :: l => by
    rw [List.map_cons]
    show insT (f x) (sortT (l.map f)) = _
    rw [srt_map f l, ins_map]
    rfl
theorem ins_perm {α : Type} (f : α → List Int) (x : α) : ∀ l : List α, (srt.ins f x l).Perm (x :: l)
  | [] => .refl _
  | y :: l => by
    unfold srt.ins
    split
    · exact ((ins_perm f x l).cons y).trans (List.Perm.swap x y l)
    · exact .refl _
theorem srt_perm {α : Type} (f : α → List Int) : ∀ l : List α, (srt f l).Perm l
  | [] => .refl _
  | x :: l => (ins_perm f x _).trans ((srt_perm f l).cons x)
/-- rising, by the key -/
def Ris {α : Type} (f : α → List Int) (l : List α) : Prop := l.Pairwise fun a b => HT.lexLt (f b) (f a) = false
theorem srt_ris {α : Type} (f : α → List Int) (l : List α) : Ris f (srt f l) := by
  have := sortT_srt (l.map f)
  rw [srt_map] at this
  exact List.pairwise_map.mp this
theorem ris_eq {α : Type} {f : α → List Int} (hf : ∀ a b, f a = f b → a = b) {l m : List α} (p : m.Perm l) (s : Ris f m) : m = srt f l :=
  List.Perm.eq_of_pairwise (fun a b _ _ h1 h2 => hf _ _ (lex_antisymm h1 h2)) s (srt_ris f l) (p.trans (srt_perm f l).symm)
theorem srt_of_ris {α : Type} {f : α → List Int} (hf : ∀ a b, f a = f b → a = b) {l : List α} (s : Ris f l) : srt f l = l := (ris_eq hf (.refl l) s).symm
theorem srt_congr {α : Type} {f : α → List Int} (hf : ∀ a b, f a = f b → a = b) {l m : List α} (p : l.Perm m) : srt f l = srt f m := ris_eq hf ((srt_perm f l).trans p) (srt_ris f l)
theorem srt_len {α : Type} (f : α → List Int) (l : List α) : (srt f l).length = l.length := (srt_perm f l).length_eq
theorem intsOf_mk (l : List Int) : intsOf (l.map W.int) = some l := by
  induction l with
  | nil => rfl
  | cons a l ih =>
    show (match intsOf (l.map W.int) with | some is => some (a :: is) | none => none) = _
    rw [ih]
theorem boolsOf_mk (l : List Bool) : boolsOf (l.map W.bl) = some l := by
  induction l with
  | nil => rfl
  | cons a l ih =>
    show (match boolsOf (l.map W.bl) with | some is => some (a :: is) | none => none) = _
    rw [ih]
theorem tupsN_mk {α : Type} (f : α → List Int) (n : Nat) (l : List α) (h : ∀ a ∈ l, (f a).length = n) : tupsN n (l.map fun a => wT (f a)) = some (l.map f) := by
  induction l with
  | nil => rfl
  | cons a l ih =>
    show (match intsOf ((f a).map .int), tupsN n (l.map fun a => wT (f a)) with | some is, some rs => if is.length = n then some (is :: rs) else none | _, _ => none) = _
    rw [ih fun b hb => h b (List.mem_cons_of_mem _ hb), intsOf_mk]
    show (if (f a).length = n then some (f a :: l.map f) else none) = _
    rw [if_pos (h a List.mem_cons_self)]
    rfl
theorem sorted_gen3 {α : Type} (f : α → List Int) (n : Nat) (hn : 0 < n) (hl : ∀ a, (f a).length = n) {d : D} {l : List α} (hd : itemsW d = some (l.map fun a => wT (f a))) (Q : Kn (SV → Prop)) : qSorted d = (l.length < 64 ∧ Q.k ⟨.own, .lst (dl (fun a => wT (f a)) (srt f l))⟩) := by
  unfold qSorted pSorted
  rw [hd]
  cases l with
  | nil => rfl
  | cons a l =>
    show (match tupsN ((f a).map W.int).length (wT (f a) :: l.map fun a => wT (f a)) with | some ts => 0 < ((f a).map W.int).length ∧ ts.length < 64 ∧ Q.k ⟨.own, .lst ((sortT ts).map fun t => .w (wT t))⟩ | none => False) = _
    rw [← List.map_cons (f := fun a => wT (f a)), List.length_map, hl, tupsN_mk f n _ fun a _ => hl a]
    show (0 < n ∧ ((a :: l).map f).length < 64 ∧ Q.k ⟨.own, .lst ((sortT ((a :: l).map f)).map fun t => .w (wT t))⟩) = _
    rw [srt_map, List.length_map, List.map_map]
    have : (0 < n) = True := by simp [hn]
    rw [this, true_and]
    rfl
theorem sorted_ints {d : D} {l : List Int} (hd : itemsW d = some (l.map W.int)) (Q : Kn (SV → Prop)) : qSorted d = (l.length < 64 ∧ Q.k ⟨.own, .lst (dl W.int (sortI l))⟩) := by
  unfold qSorted pSorted
  rw [hd]
  show (match intsOf (l.map W.int) with | some is => is.length < 64 ∧ Q.k ⟨.own, .lst ((sortI is).map fun i => .w (.int i))⟩ | none => _) = _
  rw [intsOf_mk]
  rfl
theorem items_lst {α : Type} (f : α → W) (l : List α) : itemsW (.lst (dl f l)) = some (l.map f) := dl_allW f l
theorem items_tup (l : List W) : itemsW (.w (.tup l)) = some l := rfl
theorem items_fz (l : List W) : itemsW (.fz l) = some l := rfl
theorem p_tuple {α : Type} (f : α → W) (l : List α) (Q : Kn (SV → Prop)) : qTuple (.lst (dl f l)) = Q.k (sw (.tup (l.map f))) := by
  unfold qTuple pTuple
  simp only [dl_allW]
theorem p_bools (g : List Bool → Bool) (l : List Bool) (Q : Kn (SV → Prop)) : qBools g (.lst (dl W.bl l)) = Q.k (sw (.bl (g l))) := by
  unfold qBools pBools flatOf
  simp only [dl_allW, boolsOf_mk]
theorem p_flatL {α : Type} (f : α → W) (g : ∀ {β : Type}, List β → List β) (hg : ∀ l : List α, g (l.map f) = (g l).map f) (l : List α) (Q : Kn (SV → Prop)) : qFlat g (.lst (dl f l)) = Q.k ⟨.own, .lst (dl f (g l))⟩ := by
  unfold qFlat pFlat
  simp only [dl_allW, hg, dl_w]
theorem p_revT {α : Type} (f : α → W) (l : List α) (Q : Kn (SV → Prop)) : qFlat List.reverse (.w (.tup (l.map f))) = Q.k (sw (.tup (l.reverse.map f))) := by
  unfold qFlat pFlat
  simp only [List.map_reverse]
theorem p_revL {α : Type} (f : α → W) (l : List α) (Q : Kn (SV → Prop)) : qFlat List.reverse (.lst (dl f l)) = Q.k ⟨.own, .lst (dl f l.reverse)⟩ := p_flatL f List.reverse (fun l => (List.map_reverse).symm) l Q
theorem cutL_map {α β : Type} (f : α → β) (l : List α) (a b : Option Int) : cutL (l.map f) a b = (cutL l a b).map f := by
  unfold cutL
  rw [List.length_map, List.map_take, List.map_drop]
theorem p_cutT {α : Type} (f : α → W) (a b : Option Int) (l : List α) (Q : Kn (SV → Prop)) : qFlat (fun l => cutL l a b) (.w (.tup (l.map f))) = Q.k (sw (.tup ((cutL l a b).map f))) := by
  unfold qFlat pFlat
  simp only [cutL_map]
theorem p_cutF {α : Type} (f : α → W) (a b : Option Int) (l : List α) (Q : Kn (SV → Prop)) : qFlat (fun l => cutL l a b) (.fz (l.map f)) = Q.k ⟨.own, .lst (dl f (cutL l a b))⟩ := by
  unfold qFlat pFlat
  simp only [cutL_map, dl_w]
theorem p_cutL {α : Type} (f : α → W) (a b : Option Int) (l : List α) (Q : Kn (SV → Prop)) : qFlat (fun l => cutL l a b) (.lst (dl f l)) = Q.k ⟨.own, .lst (dl f (cutL l a b))⟩ := by
  unfold qFlat pFlat
  simp only [dl_allW, cutL_map, dl_w]
theorem cutL_hi {α : Type} (l : List α) (n : Nat) : cutL l none (some (n : Int)) = l.take n := by
  unfold cutL
  rw [HT.sIx_none, HT.sIx_nat, List.drop_zero, Nat.sub_zero]
  by_cases h : n ≤ l.length
  · rw [Nat.min_eq_left h]
  · rw [Nat.min_eq_right (by omega), List.take_length, List.take_of_length_le (by omega)]
theorem cutL_lo {α : Type} (l : List α) (n : Nat) : cutL l (some (n : Int)) none = l.drop n := by
  unfold cutL
  rw [HT.sIx_none, HT.sIx_nat]
  by_cases h : n ≤ l.length
  · rw [Nat.min_eq_left h, List.take_of_length_le (by rw [List.length_drop]; omega)]
  · rw [Nat.min_eq_right (by omega), List.drop_of_length_le (Nat.le_refl _), List.drop_of_length_le (by omega)]
    simp
theorem stays_nil (ρ : REnv) : stays [] ρ := fun _ h => nomatch h
theorem for_aux {α : Type} {wt : List (Nat × SV)} {turn : List SV → REnv → (REnv → Prop) → Prop} {Q : REnv → Prop} {g : α → List SV} {all : List α} (I : List α → REnv → Prop)
    (hs : ∀ pre x post ρ k, all = pre ++ x :: post → I pre ρ → (∀ ρ', I (pre ++ [x]) ρ' → k ρ') → stays wt ρ ∧ turn (g x) ρ k) (hq : ∀ ρ, I all ρ → stays wt ρ ∧ Q ρ) : ∀ (l pre : List α) {ρ : REnv}, all = pre ++ l → I pre ρ → forW wt turn (l.map g) ρ Q
  | [], pre, ρ, e, h => by
    rw [List.append_nil] at e
    exact hq ρ (by rw [e]; exact h)
  | x :: l, pre, ρ, e, h => hs pre x l ρ _ e h fun ρ' h' => for_aux I hs hq l (pre ++ [x]) (by rw [e, List.append_assoc]; rfl) h'
/-- a for over a list, by what holds behind the part gone through -/
theorem for_rule {α : Type} {wt : List (Nat × SV)} {turn : List SV → REnv → (REnv → Prop) → Prop} {Q : REnv → Prop} {g : α → List SV} {all : List α} {ρ : REnv} (I : List α → REnv → Prop) (h0 : I [] ρ)
    (hs : ∀ pre x post ρ k, all = pre ++ x :: post → I pre ρ → (∀ ρ', I (pre ++ [x]) ρ' → k ρ') → stays wt ρ ∧ turn (g x) ρ k) (hq : ∀ ρ, I all ρ → stays wt ρ ∧ Q ρ) : @forB wt (all.map g) ρ ⟨turn⟩ ⟨Q⟩ := for_aux I hs hq all [] rfl h0
/-- the same, by the number of turns -/
theorem for_range {wt : List (Nat × SV)} {turn : List SV → REnv → (REnv → Prop) → Prop} {Q : REnv → Prop} {g : Nat → List SV} {n : Nat} {ρ : REnv} (I : Nat → REnv → Prop) (h0 : I 0 ρ)
    (hs : ∀ i ρ k, i < n → I i ρ → (∀ ρ', I (i + 1) ρ' → k ρ') → stays wt ρ ∧ turn (g i) ρ k) (hq : ∀ ρ, I n ρ → stays wt ρ ∧ Q ρ) : @forB wt ((List.range n).map g) ρ ⟨turn⟩ ⟨Q⟩ := by
  refine for_rule (fun pre ρ => I pre.length ρ) h0 (fun pre x post ρ k e h hk => ?_) fun ρ h => hq ρ (by rw [List.length_range] at h; exact h)
  have hx : x = pre.length := by
    have := congrArg (fun l => l[pre.length]?) e
    simp only [List.getElem?_append_right (Nat.le_refl _), Nat.sub_self, List.getElem?_cons_zero] at this
    rw [List.getElem?_eq_some_iff] at this
    obtain ⟨_, h⟩ := this
    rw [List.getElem_range] at h
    exact h.symm
  have hl : pre.length < n := by
    have := congrArg List.length e
    rw [List.length_range, List.length_append, List.length_cons] at this
    omega
  subst hx
  exact hs pre.length ρ k hl h fun ρ' h' => hk ρ' (by rw [List.length_append]; exact h')
/-- a comprehension whose turns leave the slots as they are -/
theorem lc_map {α : Type} {wt : List (Nat × SV)} {turn : List SV → REnv → (Option D → REnv → Prop) → Prop} {Q : List D → REnv → Prop} {ρ : REnv} {g : α → List SV} (h : α → Option D) (l : List α) (st : stays wt ρ) (hl : l.length ≤ sizeLine) (ht : ∀ a ∈ l, ∀ k : Option D → REnv → Prop, k (h a) ρ → turn (g a) ρ k) (q : Q (l.filterMap h) ρ) : @lcB wt (l.map g) ρ ⟨turn⟩ ⟨Q⟩ := by
  have gen : ∀ (l : List α) (acc : List D), acc.length + l.length ≤ sizeLine → (∀ a ∈ l, ∀ k : Option D → REnv → Prop, k (h a) ρ → turn (g a) ρ k) → Q (acc ++ l.filterMap h) ρ → lcW wt turn (l.map g) acc ρ Q := by
    intro l
    induction l with
    | nil => intro acc _ _ q; exact ⟨st, by simpa using q⟩
    | cons a l ih =>
      intro acc hl ht q
      refine ⟨st, ht a List.mem_cons_self _ ?_⟩
      rw [List.length_cons] at hl
      rw [List.filterMap_cons] at q
      cases hg : h a with
      | none =>
        rw [hg] at q
        exact ih acc (by omega) (fun b hb => ht b (List.mem_cons_of_mem _ hb)) q
      | some d =>
        rw [hg] at q
        refine ⟨by omega, ih _ (by rw [List.length_append, List.length_singleton]; omega) (fun b hb => ht b (List.mem_cons_of_mem _ hb)) ?_⟩
        rw [List.append_assoc]
        exact q
  exact gen l [] (by simpa using hl) ht (by simpa using q)
theorem lc_dl {α β : Type} {wt : List (Nat × SV)} {turn : List SV → REnv → (Option D → REnv → Prop) → Prop} {Q : List D → REnv → Prop} {ρ : REnv} {g : α → List SV} (f : β → W) (h : α → β) (l : List α) (st : stays wt ρ) (hl : l.length ≤ sizeLine) (ht : ∀ a ∈ l, ∀ k : Option D → REnv → Prop, k (some (.w (f (h a)))) ρ → turn (g a) ρ k) (q : Q (dl f (l.map h)) ρ) : @lcB wt (l.map g) ρ ⟨turn⟩ ⟨Q⟩ := by
  refine lc_map (fun a => some (.w (f (h a)))) l st hl ht ?_
  rw [List.filterMap_eq_map']
  unfold dl at q
  rw [List.map_map] at q
  exact q
theorem lc_filter {α β : Type} {wt : List (Nat × SV)} {turn : List SV → REnv → (Option D → REnv → Prop) → Prop} {Q : List D → REnv → Prop} {ρ : REnv} {g : α → List SV} (f : β → W) (c : α → Bool) (h : α → β) (l : List α) (st : stays wt ρ) (hl : l.length ≤ sizeLine) (ht : ∀ a ∈ l, ∀ k : Option D → REnv → Prop, k (if c a then some (.w (f (h a))) else none) ρ → turn (g a) ρ k) (q : Q (dl f ((l.filter c).map h)) ρ) : @lcB wt (l.map g) ρ ⟨turn⟩ ⟨Q⟩ := by
  refine lc_map (fun a => if c a then some (.w (f (h a))) else none) l st hl ht ?_
  have e : l.filterMap (fun a => if c a then some (D.w (f (h a))) else none) = dl f ((l.filter c).map h) := by
    clear ht hl q
    induction l with
    | nil => rfl
    | cons a l ih =>
      rw [List.filterMap_cons, List.filter_cons]
      cases c a <;> simp [ih, dl]
  rw [e]
  exact q
theorem ob_at {α : Type} {xs : List α} {i : Int} {F : Kn (α → Prop)} (h0 : 0 ≤ i) (h1 : i < xs.length) (k : ∀ x ∈ xs, F.k x) : ob (atI xs i) := by
  rw [at_int h0 h1]
  exact k _ (List.getElem_mem _)
theorem ob_dl {α : Type} {f : α → W} {xs : List α} {i : Int} {F : Kn (D → Prop)} (h0 : 0 ≤ i) (h1 : i < xs.length) (k : ∀ x ∈ xs, F.k (.w (f x))) : ob (atI (dl f xs) i) := by
  refine ob_at h0 (by rw [dl_len]; exact h1) fun x hx => ?_
  obtain ⟨a, ha, rfl⟩ := List.mem_map.mp hx
  exact k a ha
theorem len_tup (xs : List W) : lenOf (.w (.tup xs)) = some xs.length := by
  show Option.map (·.length) (some (xs.map D.w)) = _
  rw [Option.map_some, List.length_map]
theorem len_lst (xs : List D) : lenOf (.lst xs) = some xs.length := rfl
theorem len_fz (xs : List W) : lenOf (.fz xs) = some xs.length := by
  show Option.map (·.length) (some (xs.map D.w)) = _
  rw [Option.map_some, List.length_map]
theorem len_dK (xs : List (L2.Key × D)) : lenOf (.dK xs) = some xs.length := rfl
theorem len_dT (xs : List (List L2.Key × D)) : lenOf (.dT xs) = some xs.length := rfl
theorem seq_tup0 : seqOf (.w (.tup [])) = some [] := rfl
theorem seq_tup1 (x : W) (r : List W) : seqOf (.w (.tup (x :: r))) = some ((x :: r).map D.w) := rfl
theorem seq_tupD (r : List D) : seqOf (.tup r) = some r := rfl
theorem mkSV_d (m : Mode) (d : D) : (mkSV m d).d = d := mkSV_m.1
theorem eqOk_w (b : Bool) : eqOk (.w (.bl b)) := ⟨rfl, by cases b <;> rfl⟩
theorem p_eqB (a b : Bool) (Q : Kn (SV → Prop)) : qCmp .eq (dB a) (dB b) = Q.k (sw (.bl (a == b))) := by
  show (eqOk _ ∧ eqOk _ ∧ Q.k (sw (.bl (PyData.eqv (.bool a) (.bool b))))) = _
  have e : PyData.eqv (.bool a) (.bool b) = (a == b) := by cases a <;> cases b <;> rfl
  rw [e]
  exact propext ⟨fun h => h.2.2, fun h => ⟨eqOk_w _, eqOk_w _, h⟩⟩
theorem p_neB (a b : Bool) (Q : Kn (SV → Prop)) : qCmp .ne (dB a) (dB b) = Q.k (sw (.bl (!(a == b)))) := by
  show (eqOk _ ∧ eqOk _ ∧ Q.k (sw (.bl (!PyData.eqv (.bool a) (.bool b))))) = _
  have e : PyData.eqv (.bool a) (.bool b) = (a == b) := by cases a <;> cases b <;> rfl
  rw [e]
  exact propext ⟨fun h => h.2.2, fun h => ⟨eqOk_w _, eqOk_w _, h⟩⟩
theorem io_NoneType_int : isOne "NoneType" "int" = false := by decide
theorem io_NoneType_bool : isOne "NoneType" "bool" = false := by decide
theorem io_NoneType_str : isOne "NoneType" "str" = false := by decide
theorem io_NoneType_list : isOne "NoneType" "list" = false := by decide
theorem io_NoneType_tuple : isOne "NoneType" "tuple" = false := by decide
theorem io_NoneType_dict : isOne "NoneType" "dict" = false := by decide
theorem io_bool_int : isOne "bool" "int" = true := by decide
theorem io_bool_bool : isOne "bool" "bool" = true := by decide
theorem io_bool_str : isOne "bool" "str" = false := by decide
theorem io_bool_list : isOne "bool" "list" = false := by decide
theorem io_bool_tuple : isOne "bool" "tuple" = false := by decide
theorem io_bool_dict : isOne "bool" "dict" = false := by decide
theorem io_int_int : isOne "int" "int" = true := by decide
theorem io_int_bool : isOne "int" "bool" = false := by decide
theorem io_int_str : isOne "int" "str" = false := by decide
theorem io_int_list : isOne "int" "list" = false := by decide
theorem io_int_tuple : isOne "int" "tuple" = false := by decide
theorem io_int_dict : isOne "int" "dict" = false := by decide
theorem io_str_int : isOne "str" "int" = false := by decide
theorem io_str_bool : isOne "str" "bool" = false := by decide
theorem io_str_str : isOne "str" "str" = true := by decide
theorem io_str_list : isOne "str" "list" = false := by decide
theorem io_str_tuple : isOne "str" "tuple" = false := by decide
theorem io_str_dict : isOne "str" "dict" = false := by decide
theorem io_tuple_int : isOne "tuple" "int" = false := by decide
theorem io_tuple_bool : isOne "tuple" "bool" = false := by decide
theorem io_tuple_str : isOne "tuple" "str" = false := by decide
theorem io_tuple_list : isOne "tuple" "list" = false := by decide
theorem io_tuple_tuple : isOne "tuple" "tuple" = true := by decide
theorem io_tuple_dict : isOne "tuple" "dict" = false := by decide
theorem io_list_int : isOne "list" "int" = false := by decide
theorem io_list_bool : isOne "list" "bool" = false := by decide
theorem io_list_str : isOne "list" "str" = false := by decide
theorem io_list_list : isOne "list" "list" = true := by decide
theorem io_list_tuple : isOne "list" "tuple" = false := by decide
theorem io_list_dict : isOne "list" "dict" = false := by decide
theorem io_dict_int : isOne "dict" "int" = false := by decide
theorem io_dict_bool : isOne "dict" "bool" = false := by decide
theorem io_dict_str : isOne "dict" "str" = false := by decide
theorem io_dict_list : isOne "dict" "list" = false := by decide
theorem io_dict_tuple : isOne "dict" "tuple" = false := by decide
theorem io_dict_dict : isOne "dict" "dict" = true := by decide
theorem ty_non : tyD (.w .non) = "NoneType" := rfl
theorem ty_bl (b : Bool) : tyD (.w (.bl b)) = "bool" := rfl
theorem ty_int (i : Int) : tyD (.w (.int i)) = "int" := rfl
theorem ty_str (s : Str) : tyD (.w (.str s)) = "str" := rfl
theorem ty_tupW (x : List W) : tyD (.w (.tup x)) = "tuple" := rfl
theorem ty_tup (x : List D) : tyD (.tup x) = "tuple" := rfl
theorem ty_lst (x : List D) : tyD (.lst x) = "list" := rfl
theorem ty_fz (x : List W) : tyD (.fz x) = "list" := rfl
theorem ty_dK (x : List (L2.Key × D)) : tyD (.dK x) = "dict" := rfl
theorem ty_dT (x : List (List L2.Key × D)) : tyD (.dT x) = "dict" := rfl
theorem len_seq {d : D} {xs : List D} (h : seqOf d = some xs) : lenOf d = some xs.length := by
  cases d with
  | w x => exact congrArg (Option.map fun l : List D => l.length) h
  | tup x => exact congrArg (Option.map fun l : List D => l.length) h
  | lst x => exact congrArg (Option.map fun l : List D => l.length) h
  | fz x => exact congrArg (Option.map fun l : List D => l.length) h
  | dK x => cases h
  | dT x => cases h
theorem mkSV_eta (m : Mode) (d : D) : (⟨(mkSV m d).m, d⟩ : SV) = mkSV m d := by
  have := mkSV_d m d
  cases h : mkSV m d
  rw [h] at this
  cases this
  rfl
theorem zip_self {α : Type} (l : List α) : l.zip l = l.map fun x => (x, x) := by
  induction l with
  | nil => rfl
  | cons a l ih => rw [List.zip_cons_cons, ih]; rfl
theorem rows_zip {a b : Op} {ds es : List D} (h1 : seqOf a.d = some ds) (h2 : seqOf b.d = some es) : rowsZip a b = some ⟨(ds.zip es).map fun de => [mkSV (a.wm) de.1, mkSV (b.wm) de.2], a.watch ++ b.watch, heldB a || heldB b⟩ := by
  unfold rowsZip
  rw [h1, h2]
theorem parts_w (m : Mode) (ws : List W) : parts ⟨m, .w (.tup ws)⟩ = some (ws.map sw) := rfl
theorem parts_d (m : Mode) (ds : List D) : parts ⟨m, .tup ds⟩ = some (ds.map (mkSV m)) := rfl
theorem partsL_w (m : Mode) (ws : List W) : partsL ⟨m, .w (.tup ws)⟩ = some (ws.map sw) := rfl
theorem partsL_d (m : Mode) (ds : List D) : partsL ⟨m, .tup ds⟩ = some (ds.map (mkSV m)) := rfl
theorem partsL_dl {α : Type} (f : α → W) (m : Mode) (l : List α) : partsL ⟨m, .lst (dl f l)⟩ = some ((l.map f).map sw) := by
  unfold partsL
  simp only [dl_allW]
theorem stays_one {i : Nat} {s : SV} {ρ : REnv} (h : ρ[i]? = some (some s)) : stays [(i, s)] ρ := fun q hq => by
  rw [List.mem_singleton] at hq
  subst hq
  exact h
theorem sz {n : Nat} (h : n ≤ 1000) : n ≤ sizeLine := Nat.le_trans h (by decide)
theorem szl {n : Nat} (h : n ≤ 1000) : n < sizeLine := Nat.lt_of_le_of_lt h (by decide)
theorem dl_snoc {α : Type} (f : α → W) (l : List α) (a : α) : dl f l ++ [D.w (f a)] = dl f (l ++ [a]) := by rw [dl_app]; rfl
theorem dl_cat {α : Type} (f : α → W) (l m : List α) : dl f l ++ dl f m = dl f (l ++ m) := (dl_app f l m).symm
theorem dl_put {α : Type} (f : α → W) (a : α) (l : List α) : D.w (f a) :: dl f l = dl f (a :: l) := rfl
theorem map_snoc {α : Type} (f : α → W) (l : List α) (a : α) : l.map f ++ [f a] = (l ++ [a]).map f := by rw [List.map_append]; rfl
theorem map_cat {α : Type} (f : α → W) (l m : List α) : l.map f ++ m.map f = (l ++ m).map f := List.map_append.symm
theorem ob_map {α β : Type} {f : α → β} {xs : List α} {i : Int} {F : Kn (β → Prop)} (h0 : 0 ≤ i) (h1 : i < xs.length) (k : ∀ x ∈ xs, F.k (f x)) : ob (atI (xs.map f) i) := by
  refine ob_at h0 (by rw [List.length_map]; exact h1) fun x hx => ?_
  obtain ⟨a, ha, rfl⟩ := List.mem_map.mp hx
  exact k a ha
theorem rs_tup1 (s : Option Nat) (m : Mode) (x : W) (r : List W) : rowsSeq ⟨s, m, .w (.tup (x :: r))⟩ = some ⟨(x :: r).map fun w => [sw w], Op.watch ⟨s, m, .w (.tup (x :: r))⟩, heldB ⟨s, m, .w (.tup (x :: r))⟩⟩ := by
  unfold rowsSeq
  rw [seq_tup1]
  show some _ = some _
  rw [List.map_map]
  rfl
theorem for_two {ρ : REnv} {r1 r2 : List SV} {turn : Kn (List SV → REnv → (REnv → Prop) → Prop)} {Q : Kn (REnv → Prop)} (h : turn.k r1 ρ fun ρ' => turn.k r2 ρ' Q.k) : forB [] [r1, r2] ρ := by
  refine ⟨stays_nil _, ?_⟩
  show turn.k r1 ρ fun ρ' => (stays [] ρ' ∧ turn.k r2 ρ' fun ρ'' => (stays [] ρ'' ∧ Q.k ρ''))
  have e : (fun ρ'' : REnv => (stays [] ρ'' ∧ Q.k ρ'')) = Q.k := funext fun _ => propext ⟨fun h => h.2, fun h => ⟨stays_nil _, h⟩⟩
  have e2 : (fun ρ' : REnv => (stays [] ρ' ∧ turn.k r2 ρ' fun ρ'' => (stays [] ρ'' ∧ Q.k ρ''))) = fun ρ' => turn.k r2 ρ' Q.k := funext fun _ => propext ⟨fun h => by rw [e] at h; exact h.2, fun h => ⟨stays_nil _, by rw [e]; exact h⟩⟩
  rw [e2]
  exact h
theorem rs_lst1 (s : Option Nat) (m : Mode) (x : D) (r : List D) : rowsSeq ⟨s, m, .lst (x :: r)⟩ = some ⟨(x :: r).map fun d => [mkSV (Op.wm ⟨s, m, .lst (x :: r)⟩) d], Op.watch ⟨s, m, .lst (x :: r)⟩, heldB ⟨s, m, .lst (x :: r)⟩⟩ := rfl
end Wm
namespace Wm
open PySem PySem.Spec PyProof.Rows L2
abbrev M3 := Int × Int × Int
def t3 (m : M3) : List Int := [m.1, m.2.1, m.2.2]
def w3 (m : M3) : W := .tup [.int m.1, .int m.2.1, .int m.2.2]
theorem w3_mk (a b c : Int) : W.tup [.int a, .int b, .int c] = w3 (a, b, c) := rfl
theorem w3_t (m : M3) : w3 m = wT (t3 m) := rfl
theorem t3_inj (a b : M3) (h : t3 a = t3 b) : a = b := by
  obtain ⟨a1, a2, a3⟩ := a
  obtain ⟨b1, b2, b3⟩ := b
  simp only [t3, List.cons.injEq, and_true] at h
  obtain ⟨rfl, rfl, rfl⟩ := h
  rfl
structure Web where
  n : Int
  ms : List M3
def wWeb (g : Web) : W := .tup [.int g.n, .tup (g.ms.map w3)]
abbrev dWeb (g : Web) : D := .w (wWeb g)
def MeetOk (n : Int) (m : M3) : Prop := -(10 ^ 9) ≤ m.1 ∧ m.1 ≤ 10 ^ 9 ∧ 0 ≤ m.2.1 ∧ m.2.1 < m.2.2 ∧ m.2.2 < n
/-- strictly rising -/
def Sris (l : List M3) : Prop := l.Pairwise fun a b => HT.lexLt (t3 a) (t3 b) = true
structure WebOk (g : Web) : Prop where
  n1 : 1 ≤ g.n
  n7 : g.n ≤ 7
  len : g.ms.length ≤ 24
  ok : ∀ m ∈ g.ms, MeetOk g.n m
  ris : Sris g.ms
abbrev srt3 (l : List M3) : List M3 := srt t3 l
theorem lexLt_irrefl : ∀ x : List Int, HT.lexLt x x = false
  | [] => rfl
  | x :: r => by rw [HT.lexLt_cons, if_pos rfl, lexLt_irrefl r]
theorem lexLt_total {x y : List Int} (h : x ≠ y) : HT.lexLt x y = true ∨ HT.lexLt y x = true := by
  cases e : HT.lexLt x y with
  | true => exact .inl rfl
  | false =>
    cases e' : HT.lexLt y x with
    | true => exact .inr rfl
    | false => exact absurd (lex_antisymm e' e) h
theorem lexLt_trans {x y z : List Int} (h1 : HT.lexLt x y = true) (h2 : HT.lexLt y z = true) : HT.lexLt x z = true := by
  cases e : HT.lexLt x z with
  | true => rfl
  | false =>
    have a := lex_asymm h1
    have := lex_le_trans (lex_asymm h2) e
    rw [h1] at this
    cases this
theorem sris_ris {l : List M3} (h : Sris l) : Ris t3 l := h.imp fun h => lex_asymm h
theorem sris_nodup {l : List M3} (h : Sris l) : l.Nodup := h.imp fun {a b} h e => by
  rw [e, lexLt_irrefl] at h
  cases h
theorem ris_sris {l : List M3} (h : Ris t3 l) (n : l.Nodup) : Sris l := by
  unfold Ris at h
  unfold Sris
  unfold List.Nodup at n
  exact (h.and n).imp fun ⟨h, n⟩ => (lexLt_total fun e => n (t3_inj _ _ e)).resolve_right (by rw [h]; exact Bool.noConfusion)
theorem srt3_srt {l : List M3} (n : l.Nodup) : Sris (srt3 l) := ris_sris (srt_ris t3 l) ((srt_perm t3 l).nodup_iff.mpr n)
theorem p_sorted3 (l : List M3) (Q : Kn (SV → Prop)) : qSorted (.lst (dl w3 l)) = (l.length < 64 ∧ Q.k ⟨.own, .lst (dl w3 (srt3 l))⟩) := sorted_gen3 t3 3 (by decide) (fun _ => rfl) (items_lst w3 l) Q
theorem p_sorted3T (l : List M3) (Q : Kn (SV → Prop)) : qSorted (.w (.tup (l.map w3))) = (l.length < 64 ∧ Q.k ⟨.own, .lst (dl w3 (srt3 l))⟩) := sorted_gen3 t3 3 (by decide) (fun _ => rfl) (items_tup _) Q
theorem p_sortedI (l : List Int) (Q : Kn (SV → Prop)) : qSorted (.lst (dl W.int l)) = (l.length < 64 ∧ Q.k ⟨.own, .lst (dl W.int (sortI l))⟩) := sorted_ints (items_lst W.int l) Q
theorem keyW_int (i : Int) : keyW (.inl i) = .int i := rfl
/-- a dict whose keys are meetings -/
def kd (d : W) (l : List M3) : List (List L2.Key × D) := l.map fun m => ([.inl m.1, .inl m.2.1, .inl m.2.2], .w d)
theorem p_sortedK (d : W) (l : List M3) (Q : Kn (SV → Prop)) : qSorted (.dT (kd d l)) = (l.length < 64 ∧ Q.k ⟨.own, .lst (dl w3 (srt3 l))⟩) := sorted_gen3 t3 3 (by decide) (fun _ => rfl) (by
  show some ((kd d l).map fun kv => W.tup (kv.1.map keyW)) = _
  unfold kd
  rw [List.map_map]
  rfl) Q
theorem kd_len (d : W) (l : List M3) : (kd d l).length = l.length := List.length_map _
theorem kd_put (d : W) (l : List M3) (a b c : Int) : dPut (kd d l) [.inl a, .inl b, .inl c] (.w d) = kd d (if (a, b, c) ∈ l then l else l ++ [(a, b, c)]) := by
  unfold dPut
  have e : (kd d l).any (fun kv => decide (kv.1 = [Sum.inl a, .inl b, .inl c])) = decide ((a, b, c) ∈ l) := by
    unfold kd
    rw [List.any_map, Bool.eq_iff_iff, List.any_eq_true, decide_eq_true_iff]
    constructor
    · rintro ⟨m, hm, h⟩
      have h := of_decide_eq_true h
      obtain ⟨m1, m2, m3⟩ := m
      injection h with h1 h
      injection h with h2 h
      injection h with h3 h
      injection h1 with h1
      injection h2 with h2
      injection h3 with h3
      subst h1 h2 h3
      exact hm
    · intro h
      exact ⟨_, h, decide_eq_true rfl⟩
  rw [e]
  by_cases h : (a, b, c) ∈ l
  · rw [decide_eq_true h, if_pos rfl, if_pos h]
    unfold kd
    rw [List.map_map]
    refine List.map_congr_left fun m _ => ?_
    show (if _ then _ else _) = _
    split <;> rfl
  · rw [decide_eq_false h, if_neg Bool.false_ne_true, if_neg h]
    unfold kd
    rw [List.map_append]
    rfl
theorem wWeb_mk (n : Int) (l : List M3) : W.tup [.int n, .tup (l.map w3)] = wWeb ⟨n, l⟩ := rfl
theorem pw_0 (s : Option Nat) (m : Mode) (g : Web) (Q : Kn (SV → Prop)) : qIdx ⟨s, m, .w (wWeb g)⟩ (.w (.int 0)) = Q.k (sw (.int g.n)) := by
  unfold wWeb
  rw [p_idxT, atI_0]
  rfl
theorem pw_1 (s : Option Nat) (m : Mode) (g : Web) (Q : Kn (SV → Prop)) : qIdx ⟨s, m, .w (wWeb g)⟩ (.w (.int 1)) = Q.k (sw (.tup (g.ms.map w3))) := by
  unfold wWeb
  rw [p_idxT, atI_1]
  rfl
theorem p3_0 (s : Option Nat) (m : Mode) (g : M3) (Q : Kn (SV → Prop)) : qIdx ⟨s, m, .w (w3 g)⟩ (.w (.int 0)) = Q.k (sw (.int g.1)) := by
  unfold w3
  rw [p_idxT, atI_0]
  rfl
theorem p3_1 (s : Option Nat) (m : Mode) (g : M3) (Q : Kn (SV → Prop)) : qIdx ⟨s, m, .w (w3 g)⟩ (.w (.int 1)) = Q.k (sw (.int g.2.1)) := by
  unfold w3
  rw [p_idxT, atI_1]
  rfl
theorem p3_2 (s : Option Nat) (m : Mode) (g : M3) (Q : Kn (SV → Prop)) : qIdx ⟨s, m, .w (w3 g)⟩ (.w (.int 2)) = Q.k (sw (.int g.2.2)) := by
  unfold w3
  rw [p_idxT, atI_2]
  rfl
theorem parts_3 (m : Mode) (g : M3) : parts ⟨m, .w (w3 g)⟩ = some [sw (.int g.1), sw (.int g.2.1), sw (.int g.2.2)] := rfl
theorem partsL_3 (m : Mode) (g : M3) : partsL ⟨m, .w (w3 g)⟩ = some [sw (.int g.1), sw (.int g.2.1), sw (.int g.2.2)] := rfl
theorem partsL_web (m : Mode) (g : Web) : partsL ⟨m, .w (wWeb g)⟩ = some [sw (.int g.n), sw (.tup (g.ms.map w3))] := rfl
theorem isNon_3 (g : M3) : isNon (.w (w3 g)) = false := rfl
theorem ty_3 (g : M3) : tyD (.w (w3 g)) = "tuple" := rfl
theorem ty_web (g : Web) : tyD (.w (wWeb g)) = "tuple" := rfl
theorem len_3 (g : M3) : lenOf (.w (w3 g)) = some 3 := rfl
theorem m3_eta (m : M3) : (m.1, m.2.1, m.2.2) = m := rfl
theorem sw_dT3 (ρ : REnv) (i : Nat) (d : D) (ds : List (List L2.Key × D)) (a : M3) (Q : Kn (REnv → Prop)) : setW i d (.w (w3 a)) ρ (some (some ⟨.own, .dT ds⟩)) = (isW d = true ∧ ds.length < sizeLine ∧ Q.k (ρ.set i (some ⟨.own, .dT (dPut ds [.inl a.1, .inl a.2.1, .inl a.2.2] d)⟩))) := propext ⟨id, id⟩
theorem kd_find (d : W) (l : List M3) (a : M3) : (dFind (kd d l) [Sum.inl a.1, .inl a.2.1, .inl a.2.2]).isSome = decide (a ∈ l) := by
  have e : ((kd d l).find? fun kv => decide (kv.1 = [Sum.inl a.1, .inl a.2.1, .inl a.2.2])).isSome = decide (a ∈ l) := by
    unfold kd
    rw [Bool.eq_iff_iff, List.find?_isSome, decide_eq_true_iff]
    constructor
    · rintro ⟨x, hx, h⟩
      obtain ⟨m, hm, rfl⟩ := List.mem_map.mp hx
      have h := of_decide_eq_true h
      obtain ⟨m1, m2, m3⟩ := m
      obtain ⟨a1, a2, a3⟩ := a
      injection h with h1 h
      injection h with h2 h
      injection h with h3 h
      injection h1 with h1
      injection h2 with h2
      injection h3 with h3
      have h1 : m1 = a1 := h1
      have h2 : m2 = a2 := h2
      have h3 : m3 = a3 := h3
      subst h1 h2 h3
      exact hm
    · intro h
      exact ⟨_, List.mem_map.mpr ⟨a, h, rfl⟩, decide_eq_true rfl⟩
  unfold dFind
  rw [Option.isSome_map]
  exact e
theorem p_inK (d : W) (a : M3) (l : List M3) (Q : Kn (SV → Prop)) : qCmp .inn (.w (w3 a)) (.dT (kd d l)) = Q.k (sw (.bl (decide (a ∈ l)))) := by
  show Q.k (sw (.bl (dFind (kd d l) [Sum.inl a.1, .inl a.2.1, .inl a.2.2]).isSome)) = _
  rw [kd_find]
theorem p_ninK (d : W) (a : M3) (l : List M3) (Q : Kn (SV → Prop)) : qCmp .notin (.w (w3 a)) (.dT (kd d l)) = Q.k (sw (.bl (!decide (a ∈ l)))) := by
  show Q.k (sw (.bl (!(dFind (kd d l) [Sum.inl a.1, .inl a.2.1, .inl a.2.2]).isSome))) = _
  rw [kd_find]
theorem w3_inj {a b : M3} : w3 a = w3 b ↔ a = b := by
  constructor
  · intro h
    obtain ⟨a1, a2, a3⟩ := a
    obtain ⟨b1, b2, b3⟩ := b
    simp only [w3, W.tup.injEq, List.cons.injEq, W.int.injEq, and_true] at h
    obtain ⟨rfl, rfl, rfl⟩ := h
    rfl
  · rintro rfl
    rfl
theorem map_inj' {α β : Type} {f : α → β} (hf : ∀ a b, f a = f b → a = b) : ∀ {l m : List α}, l.map f = m.map f → l = m
  | [], [], _ => rfl
  | [], _ :: _, h => by cases h
  | _ :: _, [], h => by cases h
  | a :: l, b :: m, h => by
    injection h with h1 h2
    rw [hf a b h1, map_inj' hf h2]
theorem dl_inj {α : Type} {f : α → W} (hf : ∀ a b, f a = f b → a = b) {l m : List α} : dl f l = dl f m ↔ l = m :=
  ⟨fun h => map_inj' (fun a b h => hf a b (D.w.inj h)) h, fun h => by rw [h]⟩
theorem dl_inj3 {l m : List M3} : dl w3 l = dl w3 m ↔ l = m := dl_inj fun _ _ => w3_inj.mp
theorem dl_injI {l m : List Int} : dl W.int l = dl W.int m ↔ l = m := dl_inj fun _ _ => W.int.inj
theorem map_inj3 {l m : List M3} : l.map w3 = m.map w3 ↔ l = m := ⟨map_inj' fun _ _ => w3_inj.mp, fun h => by rw [h]⟩
theorem map_injI {l m : List Int} : l.map W.int = m.map W.int ↔ l = m := ⟨map_inj' fun _ _ => W.int.inj, fun h => by rw [h]⟩
theorem wWeb_inj {g h : Web} : wWeb g = wWeb h ↔ g = h := by
  constructor
  · intro e
    obtain ⟨n, ms⟩ := g
    obtain ⟨n', ms'⟩ := h
    simp only [wWeb, W.tup.injEq, List.cons.injEq, W.int.injEq, and_true] at e
    obtain ⟨rfl, e⟩ := e
    rw [map_inj3.mp e]
  · rintro rfl
    rfl
def wpA1 := And.intro @and_self (And.intro @false_implies (And.intro @imp_false (And.intro @not_false_eq_true (And.intro @st_nil (And.intro @st_cons (And.intro @st_for (And.intro @k_nx (And.intro @k_rt (And.intro @k_bk (And.intro @k_ct (And.intro @l_nx (And.intro @l_rt (And.intro @l_bk (And.intro @l_ct (And.intro @f_nx (And.intro @f_rt (And.intro @fn_eq (And.intro @st_asg (And.intro @st_expr (And.intro @st_ret (And.intro @st_retN (And.intro @st_if (And.intro @st_brk (And.intro @st_cnt (And.intro @st_pass (And.intro @st_stuck (And.intro @st_setI (And.intro @setK_mk (And.intro @st_unpV (And.intro @st_unp_op (And.intro @st_unp_call (And.intro @st_unp_ite (And.intro @st_unp_mth (And.intro @ob_some (And.intro @bcs_mk (And.intro @bc_and (And.intro @bc_or (And.intro @bc_same (And.intro @ev_cst (And.intro @ev_glob (And.intro @ev_var (And.intro @vw_w (And.intro @vw_lst (@vw_tup))))))))))))))))))))))))))))))))))))))))))))
def wpA2 := And.intro @vw_dK (And.intro @vw_dT (And.intro @ev_and (And.intro @ev_or (And.intro @ev_not (And.intro @ev_ite (And.intro @ev_chain (And.intro @ev_call (And.intro @ev_mth (And.intro @ev_lst (And.intro @ev_tup (And.intro @ev_dK (And.intro @ev_dT (And.intro @two_mk (And.intro @one_mk (And.intro @ev_bin (And.intro @ev_cmp (And.intro @ev_idx (And.intro @ev_len (And.intro @ev_sorted (And.intro @ev_sum (And.intro @ev_min1 (And.intro @ev_max1 (And.intro @ev_abs (And.intro @ev_int (And.intro @asInt_int (And.intro @asInt_bl (And.intro @ev_sl00 (And.intro @p_bor (And.intro @m_pop0 (And.intro @m_clear (And.intro @m_reverse (And.intro @ev_list (And.intro @ev_tuple (And.intro @ev_all (And.intro @ev_any (And.intro @ev_rev (And.intro @ev_isi (And.intro @ev_min2 (And.intro @ev_max2 (And.intro @p_i2 (And.intro @ev_neg (And.intro @ev_slF (And.intro @ev_slT (@asI_int))))))))))))))))))))))))))))))))))))))))))))
def wpA3 := And.intro @as_nil (And.intro @lv_mk (And.intro @as_var (And.intro @as_cst (And.intro @as_glob (And.intro @as_op (And.intro @as_and (And.intro @as_or (And.intro @as_not (And.intro @as_ite (And.intro @as_chain (And.intro @as_call (And.intro @as_mth (And.intro @as_lc (And.intro @as_lcIf (And.intro @it_rng (And.intro @it_seq (And.intro @it_enum (And.intro @it_zip (And.intro @ev_lc (And.intro @ev_lcIf (And.intro @ls_mk (And.intro @m_append (And.intro @m_extend (And.intro @m_insert (And.intro @call_q (And.intro @call_eq (And.intro @callB_t (And.intro @p_add (And.intro @p_addT (And.intro @p_addL (And.intro @p_sub (And.intro @p_mul (And.intro @p_mulL (And.intro @p_div (And.intro @p_mod (And.intro @p_pow (And.intro @p_eq (And.intro @p_ne (And.intro @p_lt (And.intro @p_le (And.intro @p_gt (And.intro @p_ge (And.intro @p_isN (@p_notN))))))))))))))))))))))))))))))))))))))))))))
def wpA4 := And.intro @p_isB (And.intro @p_notB (And.intro @p_idxT (And.intro @p_idxD (And.intro @p_idxL (And.intro @p_idxF (And.intro @isNon_non (And.intro @isNon_int (And.intro @isNon_bl (And.intro @isNon_tup (And.intro @isNon_lst (And.intro @boolOf_bl (And.intro @ownD_w (And.intro @ownD_lst (And.intro @ownD_tup (And.intro @ownD_dK (And.intro @ownD_dT (And.intro @mkSV_w (And.intro @mkSV_lst (And.intro @mkSV_tup (And.intro @mkSV_fz (And.intro @mkSV_dK (And.intro @mkSV_dT (And.intro @Bool.or_false (And.intro @Bool.false_or (And.intro @Bool.or_true (And.intro @Bool.true_or (And.intro @atI_0 (And.intro @atI_1 (And.intro @atI_2 (And.intro @atI_3 (And.intro @atI_4 (And.intro @parts_3 (And.intro @partsL_3 (And.intro @partsL_web (And.intro @parts_w (And.intro @parts_d (And.intro @partsL_w (And.intro @partsL_d (And.intro @partsL_dl (And.intro @len_tup (And.intro @len_lst (And.intro @len_fz (And.intro @len_dK (@len_dT))))))))))))))))))))))))))))))))))))))))))))
def wpA5 := And.intro @dl_seqT (And.intro @dl_seqL (And.intro @dl_seqF (And.intro @seq_tup0 (And.intro @seq_tup1 (And.intro @seq_tupD (And.intro @Bool.and_self (And.intro @Bool.and_true (And.intro @Bool.true_and (And.intro @true_and (And.intro @and_true (And.intro @not_true (And.intro @Bool.not_true (And.intro @Bool.not_false (And.intro @decide_true (And.intro @decide_false (And.intro @Nat.succ_ne_zero (And.intro @sw_lst (And.intro @sw_dK (And.intro @sw_dT (And.intro @ix_0 (And.intro @ix_1 (And.intro @ix_2 (And.intro @dl_len (And.intro @dl_allW (And.intro @dl_isW (And.intro @dl_shallow (And.intro @rs_tup (And.intro @rs_tup1 (And.intro @rs_lst1 (And.intro @rs_lst (And.intro @rs_fz (And.intro @range_rows (And.intro @p_sorted3 (And.intro @p_sorted3T (And.intro @p_sortedI (And.intro @p_tuple (And.intro @p_bools (And.intro @p_revT (And.intro @p_revL (And.intro @p_cutT (And.intro @p_cutF (And.intro @p_cutL (And.intro @items_lst (@items_tup))))))))))))))))))))))))))))))))))))))))))))
def wpA6 := And.intro @items_fz (And.intro @dl_w (And.intro @mkSV_d (And.intro @p_eqB (And.intro @p_neB (And.intro @dl_set (And.intro @dl_snoc (And.intro @dl_cat (And.intro @dl_put (And.intro @map_snoc (And.intro @map_cat (And.intro @r_1 (And.intro @r_2 (And.intro @w3_mk (And.intro @wWeb_mk (And.intro @pw_0 (And.intro @pw_1 (And.intro @p3_0 (And.intro @p3_1 (And.intro @p3_2 (And.intro @isNon_3 (And.intro @m3_eta (And.intro @sw_dT3 (And.intro @p_inK (And.intro @p_ninK (And.intro @len_3 (And.intro @List.getElem?_cons_zero.{0} (And.intro @List.getElem?_cons_succ.{0} (And.intro @List.set_cons_zero.{0} (And.intro @List.set_cons_succ.{0} (And.intro @List.length_cons.{0} (And.intro @List.length_nil.{0} (And.intro @List.any_cons.{0} (And.intro @List.any_nil.{0} (And.intro @List.all_cons.{0} (And.intro @List.all_nil.{0} (And.intro @List.contains_cons.{0} (And.intro @List.contains_nil.{0} (And.intro @List.replicate_succ.{0} (And.intro @List.replicate_zero.{0} (And.intro @List.cons_append.{0} (And.intro @List.nil_append.{0} (And.intro @List.append_nil.{0} (And.intro @List.not_mem_nil.{0} (@List.take_zero.{0}))))))))))))))))))))))))))))))))))))))))))))
def wpA7 := And.intro @List.drop_zero.{0} (And.intro @beq_self_eq_true.{0} (And.intro @List.length_map.{0, 0} (And.intro @List.map_cons.{0, 0} (And.intro @List.map_nil.{0, 0} (And.intro @List.filterMap_cons.{0, 0} (And.intro @List.filterMap_nil.{0, 0} (And.intro @Option.map_some.{0, 0} (@Option.map_none.{0, 0}))))))))
end Wm
namespace Wm
open PySem PySem.Spec PyProof.Rows L2
structure EqG {α : Type} [DecidableEq α] (n : Nat) (f : α → D) : Prop where
  nd : ∀ a, noDict (f a) = true
  cl : ∀ a, (pyD (f a)).canLay0 = true
  dp : ∀ a, (pyD (f a)).depth ≤ n
  eq : ∀ a b, PyData.eqv (pyD (f a)) (pyD (f b)) = decide (a = b)
section
variable {α : Type} [DecidableEq α] {n : Nat} {f : α → D}
theorem EqG.ok (h : EqG n f) (hn : n ≤ 64) (a : α) : eqOk (f a) := ⟨h.nd a, by
  show (_ && _) = true
  rw [h.cl, decide_eq_true (Nat.le_trans (h.dp a) hn)]
  rfl⟩
theorem eq_gen (neg : Bool) (a b : D) (Q : SV → Prop) (ha : eqOk a) (hb : eqOk b) : pEq neg a b Q = Q (sw (.bl (if neg then !PyData.eqv (pyD a) (pyD b) else PyData.eqv (pyD a) (pyD b)))) := by
  have gen : (eqOk a ∧ eqOk b ∧ Q (sw (.bl (if neg then !PyData.eqv (pyD a) (pyD b) else PyData.eqv (pyD a) (pyD b))))) = Q (sw (.bl (if neg then !PyData.eqv (pyD a) (pyD b) else PyData.eqv (pyD a) (pyD b)))) := propext ⟨fun h => h.2.2, fun h => ⟨ha, hb, h⟩⟩
  unfold pEq
  split
  · have e : ∀ i j : Int, PyData.eqv (.int i) (.int j) = decide (i = j) := fun i j => rfl
    show Q (sw (.bl (if neg then !decide (_ = _) else decide (_ = _)))) = Q (sw (.bl (if neg then !PyData.eqv (.int _) (.int _) else PyData.eqv (.int _) (.int _))))
    rw [e]
  · exact gen
theorem EqG.p_eq (h : EqG n f) (hn : n ≤ 64) (a b : α) (Q : Kn (SV → Prop)) : qCmp .eq (f a) (f b) = Q.k (sw (.bl (decide (a = b)))) := by
  show pEq false _ _ Q.k = _
  rw [eq_gen false _ _ Q.k (h.ok hn a) (h.ok hn b), h.eq]
  rfl
theorem EqG.p_ne (h : EqG n f) (hn : n ≤ 64) (a b : α) (Q : Kn (SV → Prop)) : qCmp .ne (f a) (f b) = Q.k (sw (.bl (!decide (a = b)))) := by
  show pEq true _ _ Q.k = _
  rw [eq_gen true _ _ Q.k (h.ok hn a) (h.ok hn b), h.eq]
  rfl
theorem all_cl {l : List D} (h : ∀ x ∈ l, (pyD x).canLay0 = true) : PyData.canLayAll0 (pyDs l) = true := by
  induction l with
  | nil => rfl
  | cons a l ih =>
    show (_ && _) = true
    rw [h a List.mem_cons_self, ih fun x hx => h x (List.mem_cons_of_mem _ hx)]
    rfl
theorem all_dp {l : List D} (h : ∀ x ∈ l, (pyD x).depth ≤ n) : PyData.depthAll (pyDs l) ≤ n := by
  induction l with
  | nil => exact Nat.zero_le _
  | cons a l ih => exact Nat.max_le.mpr ⟨h a List.mem_cons_self, ih fun x hx => h x (List.mem_cons_of_mem _ hx)⟩
theorem all_nd {l : List D} (h : ∀ x ∈ l, noDict x = true) : noDicts l = true := by
  induction l with
  | nil => rfl
  | cons a l ih =>
    show (_ && _) = true
    rw [h a List.mem_cons_self, ih fun x hx => h x (List.mem_cons_of_mem _ hx)]
    rfl
theorem eqvAll_map (h : EqG n f) : ∀ l m : List α, PyData.eqvAll (pyDs (l.map f)) (pyDs (m.map f)) = decide (l = m)
  | [], [] => rfl
  | [], _ :: _ => rfl
  | _ :: _, [] => rfl
  | a :: l, b :: m => by
    show (PyData.eqv (pyD (f a)) (pyD (f b)) && PyData.eqvAll (pyDs (l.map f)) (pyDs (m.map f))) = _
    rw [h.eq, eqvAll_map h l m]
    by_cases e1 : a = b <;> by_cases e2 : l = m <;> simp [e1, e2]
theorem EqG.lst (h : EqG n f) : EqG (n + 1) (fun l : List α => D.lst (l.map f)) := by
  have mem : ∀ {l : List α} {P : D → Prop}, (∀ a, P (f a)) → ∀ x ∈ l.map f, P x := fun hp x hx => by
    obtain ⟨a, _, rfl⟩ := List.mem_map.mp hx
    exact hp a
  refine ⟨fun l => all_nd (mem h.nd), fun l => all_cl (mem h.cl), fun l => ?_, fun l m => eqvAll_map h l m⟩
  have := all_dp (l := l.map f) (mem h.dp)
  show PyData.depthAll _ + 1 ≤ _
  omega
theorem EqG.tupD (h : EqG n f) : EqG (n + 1) (fun l : List α => D.tup (l.map f)) := by
  have mem : ∀ {l : List α} {P : D → Prop}, (∀ a, P (f a)) → ∀ x ∈ l.map f, P x := fun hp x hx => by
    obtain ⟨a, _, rfl⟩ := List.mem_map.mp hx
    exact hp a
  refine ⟨fun l => all_nd (mem h.nd), fun l => all_cl (mem h.cl), fun l => ?_, fun l m => eqvAll_map h l m⟩
  have := all_dp (l := l.map f) (mem h.dp)
  show PyData.depthAll _ + 1 ≤ _
  omega
end
theorem pyWs_ds : ∀ ws : List W, pyWs ws = pyDs (ws.map D.w)
  | [] => rfl
  | w :: ws => by
    show pyW w :: pyWs ws = pyD (D.w w) :: pyDs (ws.map D.w)
    rw [pyWs_ds ws]
    rfl
section
variable {α : Type} [DecidableEq α] {n : Nat} {f : α → W}
theorem EqG.dl (h : EqG n (fun a => D.w (f a))) : EqG (n + 1) (fun l : List α => D.lst (Wm.dl f l)) := h.lst
theorem EqG.tup (h : EqG n (fun a => D.w (f a))) : EqG (n + 1) (fun l : List α => D.w (.tup (l.map f))) := by
  have e : ∀ l : List α, pyD (D.w (.tup (l.map f))) = pyD (D.tup (l.map fun a => D.w (f a))) := fun l => by
    show PyData.tuple (pyWs (l.map f)) = PyData.tuple (pyDs _)
    rw [pyWs_ds, List.map_map]
    rfl
  have t := h.tupD
  exact ⟨fun _ => rfl, fun l => by rw [e]; exact t.cl l, fun l => by rw [e]; exact t.dp l, fun l m => by rw [e, e]; exact t.eq l m⟩
end
theorem eg_int : EqG 1 dI := ⟨fun _ => rfl, fun _ => rfl, fun _ => Nat.zero_le _, fun _ _ => rfl⟩
def wO : Option Int → W
  | none => .non
  | some i => .int i
theorem eg_opt : EqG 1 (fun o => D.w (wO o)) := ⟨fun _ => rfl, fun a => by cases a <;> rfl, fun a => by cases a <;> exact Nat.zero_le _, fun a b => by
  cases a with
  | none => cases b <;> rfl
  | some i =>
    cases b with
    | none => rfl
    | some j =>
      show decide (i = j) = _
      by_cases e : i = j <;> simp [e]⟩
theorem eg_3 : EqG 2 (fun m : M3 => D.w (w3 m)) := by
  have t := EqG.tup (f := W.int) eg_int
  have e : ∀ m : M3, D.w (w3 m) = D.w (.tup ((t3 m).map W.int)) := fun m => rfl
  refine ⟨fun _ => rfl, fun m => t.cl (t3 m), fun m => t.dp (t3 m), fun a b => ?_⟩
  rw [e, e, t.eq]
  by_cases h : a = b
  · rw [h]; simp
  · rw [decide_eq_false h, decide_eq_false fun z => h (t3_inj _ _ z)]
theorem eg_3s : EqG 3 (fun l : List M3 => D.lst (dl w3 l)) := eg_3.dl
theorem eg_3t : EqG 3 (fun l : List M3 => D.w (.tup (l.map w3))) := eg_3.tup
theorem eg_ints : EqG 2 (fun l : List Int => D.lst (dl W.int l)) := EqG.dl (f := W.int) eg_int
theorem p_ne3s (a b : List M3) (Q : Kn (SV → Prop)) : qCmp .ne (.lst (dl w3 a)) (.lst (dl w3 b)) = Q.k (sw (.bl (!decide (a = b)))) := eg_3s.p_ne (by decide) a b Q
theorem p_eq3s (a b : List M3) (Q : Kn (SV → Prop)) : qCmp .eq (.lst (dl w3 a)) (.lst (dl w3 b)) = Q.k (sw (.bl (decide (a = b)))) := eg_3s.p_eq (by decide) a b Q
theorem p_ne3n (a : List M3) (Q : Kn (SV → Prop)) : qCmp .ne (.lst (dl w3 a)) (.lst []) = Q.k (sw (.bl (!decide (a = [])))) := p_ne3s a [] Q
theorem p_eq3n (a : List M3) (Q : Kn (SV → Prop)) : qCmp .eq (.lst (dl w3 a)) (.lst []) = Q.k (sw (.bl (decide (a = [])))) := p_eq3s a [] Q
theorem p_ne3t (a b : List M3) (Q : Kn (SV → Prop)) : qCmp .ne (.w (.tup (a.map w3))) (.w (.tup (b.map w3))) = Q.k (sw (.bl (!decide (a = b)))) := eg_3t.p_ne (by decide) a b Q
theorem p_eq3t (a b : List M3) (Q : Kn (SV → Prop)) : qCmp .eq (.w (.tup (a.map w3))) (.w (.tup (b.map w3))) = Q.k (sw (.bl (decide (a = b)))) := eg_3t.p_eq (by decide) a b Q
theorem p_eq3 (a b : M3) (Q : Kn (SV → Prop)) : qCmp .eq (.w (w3 a)) (.w (w3 b)) = Q.k (sw (.bl (decide (a = b)))) := eg_3.p_eq (by decide) a b Q
theorem p_ne3 (a b : M3) (Q : Kn (SV → Prop)) : qCmp .ne (.w (w3 a)) (.w (w3 b)) = Q.k (sw (.bl (!decide (a = b)))) := eg_3.p_ne (by decide) a b Q
section
variable {α : Type} [DecidableEq α] {n : Nat} {f : α → D}
theorem any_in (h : EqG n f) (a : α) : ∀ l : List α, (pyDs (l.map f)).any (fun z => PyData.eqv z (pyD (f a))) = decide (a ∈ l)
  | [] => by simp [pyDs]
  | b :: l => by
    show (pyD (f b) :: pyDs (l.map f)).any _ = _
    rw [List.any_cons, any_in h a l, h.eq]
    by_cases e1 : b = a
    · subst e1; simp
    · have e3 : ¬a = b := fun z => e1 z.symm
      by_cases e2 : a ∈ l <;> simp [e1, e2, e3]
theorem in_gen {neg : Bool} {x b : D} {ds : List D} (hs : seqOf b = some ds) (Q : SV → Prop) (ha : eqOk x) (hb : eqOk b) : pIn neg x b Q = Q (sw (.bl (if neg then !(pyDs ds).any (fun z => PyData.eqv z (pyD x)) else (pyDs ds).any fun z => PyData.eqv z (pyD x)))) := by
  have gen : ∀ P : Prop, (eqOk x ∧ eqOk b ∧ P) = P := fun P => propext ⟨fun h => h.2.2, fun h => ⟨ha, hb, h⟩⟩
  cases b with
  | dK x => cases hs
  | dT x => cases hs
  | w y =>
    show (match seqOf (D.w y) with | some ds => eqOk x ∧ eqOk (D.w y) ∧ Q (sw (.bl (if neg then !(pyDs ds).any (fun z => PyData.eqv z (pyD x)) else (pyDs ds).any fun z => PyData.eqv z (pyD x)))) | none => False) = _
    rw [hs]
    exact gen _
  | tup y =>
    show (match seqOf (D.tup y) with | some ds => eqOk x ∧ eqOk (D.tup y) ∧ Q (sw (.bl (if neg then !(pyDs ds).any (fun z => PyData.eqv z (pyD x)) else (pyDs ds).any fun z => PyData.eqv z (pyD x)))) | none => False) = _
    rw [hs]
    exact gen _
  | lst y =>
    show (match seqOf (D.lst y) with | some ds => eqOk x ∧ eqOk (D.lst y) ∧ Q (sw (.bl (if neg then !(pyDs ds).any (fun z => PyData.eqv z (pyD x)) else (pyDs ds).any fun z => PyData.eqv z (pyD x)))) | none => False) = _
    rw [hs]
    exact gen _
  | fz y =>
    show (match seqOf (D.fz y) with | some ds => eqOk x ∧ eqOk (D.fz y) ∧ Q (sw (.bl (if neg then !(pyDs ds).any (fun z => PyData.eqv z (pyD x)) else (pyDs ds).any fun z => PyData.eqv z (pyD x)))) | none => False) = _
    rw [hs]
    exact gen _
end
section
variable {α : Type} [DecidableEq α] {n : Nat} {f : α → W}
theorem EqG.p_inT (h : EqG n (fun a => D.w (f a))) (hn : n < 64) (a : α) (l : List α) (Q : Kn (SV → Prop)) : qCmp .inn (.w (f a)) (.w (.tup (l.map f))) = Q.k (sw (.bl (decide (a ∈ l)))) := by
  show pIn false (.w (f a)) (.w (.tup (l.map f))) Q.k = _
  rw [in_gen (dl_seqT f l) Q.k (h.ok (by omega) a) (h.tup.ok (by omega) l)]
  show Q.k (sw (.bl ((pyDs (l.map fun a => D.w (f a))).any _))) = _
  rw [any_in h a l]
theorem EqG.p_ninT (h : EqG n (fun a => D.w (f a))) (hn : n < 64) (a : α) (l : List α) (Q : Kn (SV → Prop)) : qCmp .notin (.w (f a)) (.w (.tup (l.map f))) = Q.k (sw (.bl (!decide (a ∈ l)))) := by
  show pIn true (.w (f a)) (.w (.tup (l.map f))) Q.k = _
  rw [in_gen (dl_seqT f l) Q.k (h.ok (by omega) a) (h.tup.ok (by omega) l)]
  show Q.k (sw (.bl (!(pyDs (l.map fun a => D.w (f a))).any _))) = _
  rw [any_in h a l]
theorem EqG.p_inL (h : EqG n (fun a => D.w (f a))) (hn : n < 64) (a : α) (l : List α) (Q : Kn (SV → Prop)) : qCmp .inn (.w (f a)) (.lst (Wm.dl f l)) = Q.k (sw (.bl (decide (a ∈ l)))) := by
  show pIn false (.w (f a)) (.lst (Wm.dl f l)) Q.k = _
  rw [in_gen (dl_seqL _) Q.k (h.ok (by omega) a) (h.dl.ok (by omega) l)]
  show Q.k (sw (.bl ((pyDs (l.map fun a => D.w (f a))).any _))) = _
  rw [any_in h a l]
theorem EqG.p_ninL (h : EqG n (fun a => D.w (f a))) (hn : n < 64) (a : α) (l : List α) (Q : Kn (SV → Prop)) : qCmp .notin (.w (f a)) (.lst (Wm.dl f l)) = Q.k (sw (.bl (!decide (a ∈ l)))) := by
  show pIn true (.w (f a)) (.lst (Wm.dl f l)) Q.k = _
  rw [in_gen (dl_seqL _) Q.k (h.ok (by omega) a) (h.dl.ok (by omega) l)]
  show Q.k (sw (.bl (!(pyDs (l.map fun a => D.w (f a))).any _))) = _
  rw [any_in h a l]
end
theorem p_in3t (a : M3) (l : List M3) (Q : Kn (SV → Prop)) : qCmp .inn (.w (w3 a)) (.w (.tup (l.map w3))) = Q.k (sw (.bl (decide (a ∈ l)))) := by rw [eg_3.p_inT (by decide) a l Q]; exact congrArg (fun b => Q.k (sw (.bl b))) (decide_eq_decide.mpr Iff.rfl)
theorem p_nin3t (a : M3) (l : List M3) (Q : Kn (SV → Prop)) : qCmp .notin (.w (w3 a)) (.w (.tup (l.map w3))) = Q.k (sw (.bl (!decide (a ∈ l)))) := by rw [eg_3.p_ninT (by decide) a l Q]; exact congrArg (fun b => Q.k (sw (.bl (!b)))) (decide_eq_decide.mpr Iff.rfl)
theorem p_in3s (a : M3) (l : List M3) (Q : Kn (SV → Prop)) : qCmp .inn (.w (w3 a)) (.lst (dl w3 l)) = Q.k (sw (.bl (decide (a ∈ l)))) := by rw [eg_3.p_inL (by decide) a l Q]; exact congrArg (fun b => Q.k (sw (.bl b))) (decide_eq_decide.mpr Iff.rfl)
theorem p_nin3s (a : M3) (l : List M3) (Q : Kn (SV → Prop)) : qCmp .notin (.w (w3 a)) (.lst (dl w3 l)) = Q.k (sw (.bl (!decide (a ∈ l)))) := by rw [eg_3.p_ninL (by decide) a l Q]; exact congrArg (fun b => Q.k (sw (.bl (!b)))) (decide_eq_decide.mpr Iff.rfl)
theorem p_inIs (a : Int) (l : List Int) (Q : Kn (SV → Prop)) : qCmp .inn (dI a) (.lst (dl W.int l)) = Q.k (sw (.bl (decide (a ∈ l)))) := EqG.p_inL (f := W.int) eg_int (by decide) a l Q
theorem p_ninIs (a : Int) (l : List Int) (Q : Kn (SV → Prop)) : qCmp .notin (dI a) (.lst (dl W.int l)) = Q.k (sw (.bl (!decide (a ∈ l)))) := EqG.p_ninL (f := W.int) eg_int (by decide) a l Q
theorem p_ne3tn (a : List M3) (Q : Kn (SV → Prop)) : qCmp .ne (.w (.tup (a.map w3))) (.w (.tup [])) = Q.k (sw (.bl (!decide (a = [])))) := p_ne3t a [] Q
theorem p_eq3tn (a : List M3) (Q : Kn (SV → Prop)) : qCmp .eq (.w (.tup (a.map w3))) (.w (.tup [])) = Q.k (sw (.bl (decide (a = [])))) := p_eq3t a [] Q
theorem q_ints (f : List Int → (Int → Prop) → Prop) (l : List Int) (Q : Kn (SV → Prop)) : qInts f (.lst (dl W.int l)) = f l fun i => Q.k (sw (.int i)) := by
  unfold qInts pInts flatOf
  simp only [dl_allW, intsOf_mk]
def wS : Option M3 → W
  | none => .non
  | some m => w3 m
theorem wO_inj {a b : Option Int} : wO a = wO b ↔ a = b := by
  constructor
  · intro h
    cases a <;> cases b <;> first | rfl | cases h | skip
    rfl
  · rintro rfl
    rfl
theorem wS_inj {a b : Option M3} : wS a = wS b ↔ a = b := by
  constructor
  · intro h
    cases a <;> cases b <;> first | rfl | (cases h; done) | (rw [w3_inj.mp h])
  · rintro rfl
    rfl
theorem dl_injO {l m : List (Option Int)} : dl wO l = dl wO m ↔ l = m := dl_inj fun _ _ => wO_inj.mp
theorem dl_injS {l m : List (Option M3)} : dl wS l = dl wS m ↔ l = m := dl_inj fun _ _ => wS_inj.mp
theorem dl_setO (l : List (Option Int)) (n : Nat) (i : Int) : (dl wO l).set n (D.w (.int i)) = dl wO (l.set n (some i)) := dl_set wO l n (some i)
theorem dl_setN (l : List (Option Int)) (n : Nat) : (dl wO l).set n (D.w .non) = dl wO (l.set n none) := dl_set wO l n none
theorem dl_setS (l : List (Option M3)) (n : Nat) (m : M3) : (dl wS l).set n (D.w (w3 m)) = dl wS (l.set n (some m)) := dl_set wS l n (some m)
theorem rep_flat {α : Type} (n : Nat) (a : α) : (List.replicate n [a]).flatten = List.replicate n a := by
  induction n with
  | zero => rfl
  | succ n ih => rw [List.replicate_succ, List.flatten_cons, ih, List.replicate_succ]; rfl
theorem repO (n : Nat) : List.replicate n (D.w .non) = dl wO (List.replicate n none) := by
  unfold dl
  rw [List.map_replicate]
  rfl
theorem repS (n : Nat) : List.replicate n (D.w .non) = dl wS (List.replicate n none) := by
  unfold dl
  rw [List.map_replicate]
  rfl
theorem isNon_O (o : Option Int) : isNon (.w (wO o)) = o.isNone := by cases o <;> rfl
theorem isNon_S (o : Option M3) : isNon (.w (wS o)) = o.isNone := by cases o <;> rfl
theorem wO_some (i : Int) : wO (some i) = .int i := rfl
theorem wO_none : wO none = .non := rfl
theorem wS_some (i : M3) : wS (some i) = w3 i := rfl
theorem wS_none : wS none = .non := rfl
theorem repI (n : Nat) (i : Int) : List.replicate n (D.w (.int i)) = dl W.int (List.replicate n i) := by
  unfold dl
  rw [List.map_replicate]
abbrev P2 := Int × Int
def t2 (m : P2) : List Int := [m.1, m.2]
def w2 (m : P2) : W := .tup [.int m.1, .int m.2]
theorem w2_mk (a b : Int) : W.tup [.int a, .int b] = w2 (a, b) := rfl
theorem t2_inj (a b : P2) (h : t2 a = t2 b) : a = b := by
  obtain ⟨a1, a2⟩ := a
  obtain ⟨b1, b2⟩ := b
  simp only [t2, List.cons.injEq, and_true] at h
  obtain ⟨rfl, rfl⟩ := h
  rfl
theorem w2_inj {a b : P2} : w2 a = w2 b ↔ a = b := by
  constructor
  · intro h
    obtain ⟨a1, a2⟩ := a
    obtain ⟨b1, b2⟩ := b
    simp only [w2, W.tup.injEq, List.cons.injEq, W.int.injEq, and_true] at h
    obtain ⟨rfl, rfl⟩ := h
    rfl
  · rintro rfl
    rfl
theorem dl_inj2 {l m : List P2} : dl w2 l = dl w2 m ↔ l = m := dl_inj fun _ _ => w2_inj.mp
abbrev srt2 (l : List P2) : List P2 := srt t2 l
theorem p_sorted2 (l : List P2) (Q : Kn (SV → Prop)) : qSorted (.lst (dl w2 l)) = (l.length < 64 ∧ Q.k ⟨.own, .lst (dl w2 (srt2 l))⟩) := sorted_gen3 t2 2 (by decide) (fun _ => rfl) (items_lst w2 l) Q
theorem eg_2 : EqG 2 (fun m : P2 => D.w (w2 m)) := by
  have t := EqG.tup (f := W.int) eg_int
  have e : ∀ m : P2, D.w (w2 m) = D.w (.tup ((t2 m).map W.int)) := fun m => rfl
  refine ⟨fun _ => rfl, fun m => t.cl (t2 m), fun m => t.dp (t2 m), fun a b => ?_⟩
  rw [e, e, t.eq]
  by_cases h : a = b
  · rw [h]; simp
  · rw [decide_eq_false h, decide_eq_false fun z => h (t2_inj _ _ z)]
theorem eg_2s : EqG 3 (fun l : List P2 => D.lst (dl w2 l)) := eg_2.dl
theorem p_ne2s (a b : List P2) (Q : Kn (SV → Prop)) : qCmp .ne (.lst (dl w2 a)) (.lst (dl w2 b)) = Q.k (sw (.bl (!decide (a = b)))) := eg_2s.p_ne (by decide) a b Q
theorem p_eq2s (a b : List P2) (Q : Kn (SV → Prop)) : qCmp .eq (.lst (dl w2 a)) (.lst (dl w2 b)) = Q.k (sw (.bl (decide (a = b)))) := eg_2s.p_eq (by decide) a b Q
theorem p_in2s (a : P2) (l : List P2) (Q : Kn (SV → Prop)) : qCmp .inn (.w (w2 a)) (.lst (dl w2 l)) = Q.k (sw (.bl (decide (a ∈ l)))) := by rw [eg_2.p_inL (by decide) a l Q]; exact congrArg (fun b => Q.k (sw (.bl b))) (decide_eq_decide.mpr Iff.rfl)
theorem p_nin2s (a : P2) (l : List P2) (Q : Kn (SV → Prop)) : qCmp .notin (.w (w2 a)) (.lst (dl w2 l)) = Q.k (sw (.bl (!decide (a ∈ l)))) := by rw [eg_2.p_ninL (by decide) a l Q]; exact congrArg (fun b => Q.k (sw (.bl (!b)))) (decide_eq_decide.mpr Iff.rfl)
theorem parts_2 (m : Mode) (g : P2) : parts ⟨m, .w (w2 g)⟩ = some [sw (.int g.1), sw (.int g.2)] := rfl
theorem partsL_2 (m : Mode) (g : P2) : partsL ⟨m, .w (w2 g)⟩ = some [sw (.int g.1), sw (.int g.2)] := rfl
theorem p2_0 (s : Option Nat) (m : Mode) (g : P2) (Q : Kn (SV → Prop)) : qIdx ⟨s, m, .w (w2 g)⟩ (.w (.int 0)) = Q.k (sw (.int g.1)) := by
  unfold w2
  rw [p_idxT, atI_0]
  rfl
theorem p2_1 (s : Option Nat) (m : Mode) (g : P2) (Q : Kn (SV → Prop)) : qIdx ⟨s, m, .w (w2 g)⟩ (.w (.int 1)) = Q.k (sw (.int g.2)) := by
  unfold w2
  rw [p_idxT, atI_1]
  rfl
theorem ty_2 (g : P2) : tyD (.w (w2 g)) = "tuple" := rfl
theorem isNon_2 (g : P2) : isNon (.w (w2 g)) = false := rfl
theorem m2_eta (m : P2) : (m.1, m.2) = m := rfl
theorem enum_map {α β : Type} (f : α → β) : ∀ (n : Nat) (l : List α), enumFrom n (l.map f) = (enumFrom n l).map fun na => (na.1, f na.2)
  | _, [] => rfl
  | n, a :: l => by
    show (n, f a) :: enumFrom (n + 1) (l.map f) = _
    rw [enum_map f (n + 1) l]
    rfl
theorem re_lst {α : Type} (f : α → W) (s : Option Nat) (m : Mode) (l : List α) : rowsEnum ⟨s, m, .lst (dl f l)⟩ = some ⟨(enumFrom 0 l).map fun na => [sw (.int na.1), sw (f na.2)], Op.watch ⟨s, m, .lst (dl f l)⟩, heldB ⟨s, m, .lst (dl f l)⟩⟩ := by
  unfold rowsEnum
  rw [dl_seqL]
  show some _ = some _
  unfold dl
  rw [enum_map, List.map_map]
  rfl
theorem isLst_lst (l : List D) : isLst (.lst l) = true := rfl
theorem isLst_fz (l : List W) : isLst (.fz l) = true := rfl
theorem lc_fm {α β : Type} {wt : List (Nat × SV)} {turn : List SV → REnv → (Option D → REnv → Prop) → Prop} {Q : List D → REnv → Prop} {ρ : REnv} {g : α → List SV} (f : β → W) (h : α → Option β) (l : List α) (st : stays wt ρ) (hl : l.length ≤ sizeLine) (ht : ∀ a ∈ l, ∀ k : Option D → REnv → Prop, k ((h a).map fun b => .w (f b)) ρ → turn (g a) ρ k) (q : Q (dl f (l.filterMap h)) ρ) : @lcB wt (l.map g) ρ ⟨turn⟩ ⟨Q⟩ := by
  refine lc_map (fun a => (h a).map fun b => .w (f b)) l st hl ht ?_
  have e : l.filterMap (fun a => (h a).map fun b => D.w (f b)) = dl f (l.filterMap h) := by
    clear ht hl q
    induction l with
    | nil => rfl
    | cons a l ih =>
      rw [List.filterMap_cons, List.filterMap_cons]
      cases h a <;> simp [ih, dl]
  rw [e]
  exact q
theorem p_neIs (a b : List Int) (Q : Kn (SV → Prop)) : qCmp .ne (.lst (dl W.int a)) (.lst (dl W.int b)) = Q.k (sw (.bl (!decide (a = b)))) := eg_ints.p_ne (by decide) a b Q
theorem p_eqIs (a b : List Int) (Q : Kn (SV → Prop)) : qCmp .eq (.lst (dl W.int a)) (.lst (dl W.int b)) = Q.k (sw (.bl (decide (a = b)))) := eg_ints.p_eq (by decide) a b Q
theorem rz_dl {α β : Type} (f : α → W) (h : β → W) (s s' : Option Nat) (m m' : Mode) (a : List α) (b : List β) : rowsZip ⟨s, m, .lst (dl f a)⟩ ⟨s', m', .lst (dl h b)⟩ = some ⟨(a.zip b).map fun q => [sw (f q.1), sw (h q.2)], Op.watch ⟨s, m, .lst (dl f a)⟩ ++ Op.watch ⟨s', m', .lst (dl h b)⟩, heldB ⟨s, m, .lst (dl f a)⟩ || heldB ⟨s', m', .lst (dl h b)⟩⟩ := by
  rw [rows_zip (dl_seqL _) (dl_seqL _)]
  show some _ = some _
  unfold dl
  rw [List.zip_map, List.map_map]
  rfl
theorem sk_lst (a b : List D) : sameKind (.lst a) (.lst b) = true := rfl
theorem p_neO (a b : Option Int) (Q : Kn (SV → Prop)) : qCmp .ne (.w (wO a)) (.w (wO b)) = Q.k (sw (.bl (!decide (a = b)))) := eg_opt.p_ne (by decide) a b Q
theorem p_neOI (a : Option Int) (i : Int) (Q : Kn (SV → Prop)) : qCmp .ne (.w (wO a)) (dI i) = Q.k (sw (.bl (!decide (a = some i)))) := p_neO a (some i) Q
theorem p_neON (a : Option Int) (Q : Kn (SV → Prop)) : qCmp .ne (.w (wO a)) (.w .non) = Q.k (sw (.bl (!decide (a = none)))) := p_neO a none Q
theorem p_neNN (Q : Kn (SV → Prop)) : qCmp .ne (.w .non) (.w .non) = Q.k (sw (.bl false)) := p_neO none none Q
theorem p_neNI (i : Int) (Q : Kn (SV → Prop)) : qCmp .ne (.w .non) (dI i) = Q.k (sw (.bl true)) := p_neO none (some i) Q
theorem p_neIN (i : Int) (Q : Kn (SV → Prop)) : qCmp .ne (dI i) (.w .non) = Q.k (sw (.bl true)) := p_neO (some i) none Q
theorem p_eqO (a b : Option Int) (Q : Kn (SV → Prop)) : qCmp .eq (.w (wO a)) (.w (wO b)) = Q.k (sw (.bl (decide (a = b)))) := eg_opt.p_eq (by decide) a b Q
theorem p_eqOs (a b : List (Option Int)) (Q : Kn (SV → Prop)) : qCmp .eq (.lst (dl wO a)) (.lst (dl wO b)) = Q.k (sw (.bl (decide (a = b)))) := eg_opt.dl.p_eq (by decide) a b Q
theorem p_neOs (a b : List (Option Int)) (Q : Kn (SV → Prop)) : qCmp .ne (.lst (dl wO a)) (.lst (dl wO b)) = Q.k (sw (.bl (!decide (a = b)))) := eg_opt.dl.p_ne (by decide) a b Q
def dL {α : Type} (f : α → D) (l : List α) : List D := l.map f
theorem dL_len {α : Type} (f : α → D) (l : List α) : (dL f l).length = l.length := List.length_map _
theorem dL_nil {α : Type} (f : α → D) : dL f [] = [] := rfl
theorem dL_snoc {α : Type} (f : α → D) (l : List α) (a : α) : dL f l ++ [f a] = dL f (l ++ [a]) := by
  unfold dL
  rw [List.map_append]
  rfl
theorem rs_dL {α : Type} (f : α → D) (s : Option Nat) (m : Mode) (l : List α) : rowsSeq ⟨s, m, .lst (dL f l)⟩ = some ⟨l.map fun a => [mkSV (Op.wm ⟨s, m, .lst (dL f l)⟩) (f a)], Op.watch ⟨s, m, .lst (dL f l)⟩, heldB ⟨s, m, .lst (dL f l)⟩⟩ := by
  unfold rowsSeq
  rw [dl_seqL]
  show some _ = some _
  unfold dL
  rw [List.map_map]
  rfl
theorem rz_dL {α β : Type} (f : α → D) (h : β → W) (s s' : Option Nat) (m m' : Mode) (a : List α) (b : List β) : rowsZip ⟨s, m, .lst (dL f a)⟩ ⟨s', m', .lst (dl h b)⟩ = some ⟨(a.zip b).map fun q => [mkSV (Op.wm ⟨s, m, .lst (dL f a)⟩) (f q.1), sw (h q.2)], Op.watch ⟨s, m, .lst (dL f a)⟩ ++ Op.watch ⟨s', m', .lst (dl h b)⟩, heldB ⟨s, m, .lst (dL f a)⟩ || heldB ⟨s', m', .lst (dl h b)⟩⟩ := by
  rw [rows_zip (dl_seqL _) (dl_seqL _)]
  show some _ = some _
  unfold dl dL
  rw [List.zip_map, List.map_map]
  rfl
theorem lc_dL {α β : Type} {wt : List (Nat × SV)} {turn : List SV → REnv → (Option D → REnv → Prop) → Prop} {Q : List D → REnv → Prop} {ρ : REnv} {g : α → List SV} (f : β → D) (h : α → β) (l : List α) (st : stays wt ρ) (hl : l.length ≤ sizeLine) (ht : ∀ a ∈ l, ∀ k : Option D → REnv → Prop, k (some (f (h a))) ρ → turn (g a) ρ k) (q : Q (dL f (l.map h)) ρ) : @lcB wt (l.map g) ρ ⟨turn⟩ ⟨Q⟩ := by
  refine lc_map (fun a => some (f (h a))) l st hl ht ?_
  rw [List.filterMap_eq_map']
  unfold dL at q
  rw [List.map_map] at q
  exact q
abbrev SG := Int × Int × Bool
def wG (s : SG) : W := .tup [.int s.1, .int s.2.1, .bl s.2.2]
theorem wG_mk (a b : Int) (c : Bool) : W.tup [.int a, .int b, .bl c] = wG (a, b, c) := rfl
theorem wG_inj {a b : SG} : wG a = wG b ↔ a = b := by
  constructor
  · intro h
    obtain ⟨a1, a2, a3⟩ := a
    obtain ⟨b1, b2, b3⟩ := b
    simp only [wG, W.tup.injEq, List.cons.injEq, W.int.injEq, W.bl.injEq, and_true] at h
    obtain ⟨rfl, rfl, rfl⟩ := h
    rfl
  · rintro rfl
    rfl
theorem dl_injG {l m : List SG} : dl wG l = dl wG m ↔ l = m := dl_inj fun _ _ => wG_inj.mp
theorem parts_G (m : Mode) (g : SG) : parts ⟨m, .w (wG g)⟩ = some [sw (.int g.1), sw (.int g.2.1), sw (.bl g.2.2)] := rfl
theorem partsL_G (m : Mode) (g : SG) : partsL ⟨m, .w (wG g)⟩ = some [sw (.int g.1), sw (.int g.2.1), sw (.bl g.2.2)] := rfl
theorem eg_G : EqG 2 (fun s : SG => D.w (wG s)) := by
  refine ⟨fun _ => rfl, fun m => rfl, fun m => ?_, fun a b => ?_⟩
  · show max 0 (max 0 (max 0 0)) + 1 ≤ 2
    decide
  · obtain ⟨a1, a2, a3⟩ := a
    obtain ⟨b1, b2, b3⟩ := b
    show ((a1 == b1) && ((a2 == b2) && ((a3 == b3) && true))) = _
    rw [Bool.eq_iff_iff]
    simp
theorem eg_Gs : EqG 3 (fun l : List SG => D.lst (dl wG l)) := eg_G.dl
theorem p_neGs (a b : List SG) (Q : Kn (SV → Prop)) : qCmp .ne (.lst (dl wG a)) (.lst (dl wG b)) = Q.k (sw (.bl (!decide (a = b)))) := eg_Gs.p_ne (by decide) a b Q
theorem p_neGn (a : List SG) (Q : Kn (SV → Prop)) : qCmp .ne (.lst (dl wG a)) (.lst []) = Q.k (sw (.bl (!decide (a = [])))) := p_neGs a [] Q
theorem isNon_G (g : SG) : isNon (.w (wG g)) = false := rfl
theorem pG_0 (s : Option Nat) (m : Mode) (g : SG) (Q : Kn (SV → Prop)) : qIdx ⟨s, m, .w (wG g)⟩ (.w (.int 0)) = Q.k (sw (.int g.1)) := by
  unfold wG
  rw [p_idxT, atI_0]
  rfl
theorem pG_1 (s : Option Nat) (m : Mode) (g : SG) (Q : Kn (SV → Prop)) : qIdx ⟨s, m, .w (wG g)⟩ (.w (.int 1)) = Q.k (sw (.int g.2.1)) := by
  unfold wG
  rw [p_idxT, atI_1]
  rfl
theorem pG_2 (s : Option Nat) (m : Mode) (g : SG) (Q : Kn (SV → Prop)) : qIdx ⟨s, m, .w (wG g)⟩ (.w (.int 2)) = Q.k (sw (.bl g.2.2)) := by
  unfold wG
  rw [p_idxT, atI_2]
  rfl
theorem gl_dl {α : Type} (f : α → W) (l : List α) (h : l ≠ []) : (dl f l).getLast? = some (.w (f (l.getLast h))) := by
  unfold dl
  rw [List.getLast?_map, List.getLast?_eq_some_getLast h]
  rfl
theorem dropLast_dl {α : Type} (f : α → W) (l : List α) : (dl f l).dropLast = dl f l.dropLast := by
  unfold dl
  rw [List.map_dropLast]
def eqA1 := And.intro @p_ne3s (And.intro @p_eq3s (And.intro @p_ne3n (And.intro @p_eq3n (And.intro @p_ne3t (And.intro @p_eq3t (And.intro @p_eq3 (And.intro @p_ne3 (And.intro @p_in3t (And.intro @p_nin3t (And.intro @p_in3s (And.intro @p_nin3s (And.intro @p_inIs (And.intro @p_ninIs (And.intro @p_ne3tn (And.intro @p_eq3tn (And.intro @q_ints (And.intro @dl_setO (And.intro @dl_setN (And.intro @dl_setS (And.intro @rep_flat (And.intro @isNon_O (And.intro @isNon_S (And.intro @wO_some (And.intro @wO_none (And.intro @wS_some (And.intro @wS_none (And.intro @repI (And.intro @w2_mk (And.intro @p_sorted2 (And.intro @p_ne2s (And.intro @p_eq2s (And.intro @p_in2s (And.intro @p_nin2s (And.intro @parts_2 (And.intro @partsL_2 (And.intro @p2_0 (And.intro @p2_1 (And.intro @isNon_2 (And.intro @m2_eta (And.intro @re_lst (And.intro @isLst_lst (And.intro @isLst_fz (And.intro @p_neIs (@p_eqIs))))))))))))))))))))))))))))))))))))))))))))
def eqA2 := And.intro @wG_mk (And.intro @parts_G (And.intro @partsL_G (And.intro @p_neGs (And.intro @p_neGn (And.intro @isNon_G (And.intro @pG_0 (And.intro @pG_1 (And.intro @pG_2 (And.intro @dropLast_dl (And.intro @rz_dl (And.intro @sk_lst (And.intro @p_neO (And.intro @p_neOI (And.intro @p_neON (And.intro @p_neNN (And.intro @p_neNI (And.intro @p_neIN (And.intro @p_eqO (And.intro @p_eqOs (And.intro @p_neOs (And.intro @dL_len (And.intro @dL_snoc (And.intro @rs_dL (And.intro @rz_dL (And.intro @List.length_replicate.{0} (And.intro @Option.isNone_some.{0} (@Option.isNone_none.{0})))))))))))))))))))))))))))
def isoA1 := And.intro @io_NoneType_int (And.intro @io_NoneType_bool (And.intro @io_NoneType_str (And.intro @io_NoneType_list (And.intro @io_NoneType_tuple (And.intro @io_NoneType_dict (And.intro @io_bool_int (And.intro @io_bool_bool (And.intro @io_bool_str (And.intro @io_bool_list (And.intro @io_bool_tuple (And.intro @io_bool_dict (And.intro @io_int_int (And.intro @io_int_bool (And.intro @io_int_str (And.intro @io_int_list (And.intro @io_int_tuple (And.intro @io_int_dict (And.intro @io_str_int (And.intro @io_str_bool (And.intro @io_str_str (And.intro @io_str_list (And.intro @io_str_tuple (And.intro @io_str_dict (And.intro @io_tuple_int (And.intro @io_tuple_bool (And.intro @io_tuple_str (And.intro @io_tuple_list (And.intro @io_tuple_tuple (And.intro @io_tuple_dict (And.intro @io_list_int (And.intro @io_list_bool (And.intro @io_list_str (And.intro @io_list_list (And.intro @io_list_tuple (And.intro @io_list_dict (And.intro @io_dict_int (And.intro @io_dict_bool (And.intro @io_dict_str (And.intro @io_dict_list (And.intro @io_dict_tuple (And.intro @io_dict_dict (And.intro @ty_non (And.intro @ty_bl (@ty_int))))))))))))))))))))))))))))))))))))))))))))
def isoA2 := And.intro @ty_str (And.intro @ty_tupW (And.intro @ty_tup (And.intro @ty_lst (And.intro @ty_fz (And.intro @ty_dK (And.intro @ty_dT (And.intro @ty_3 (And.intro @ty_web (@ty_2)))))))))
end Wm
namespace Wm
open PySem PySem.Spec PyProof.Rows L2
def both (m : M3) : List M3 := [m, (m.1, m.2.2, m.2.1)]
def stepsOf (g : Web) : List M3 := srt3 (g.ms.flatMap both)
theorem both_len (l : List M3) : (l.flatMap both).length = 2 * l.length := by
  induction l with
  | nil => rfl
  | cons a l ih =>
    rw [List.flatMap_cons, List.length_append, ih, List.length_cons]
    show 2 + _ = _
    omega
def d_steps_of : Def := ⟨["web"], ["web", "found", "moment", "one", "other"], [false],
 (.cons (.asg 1 (.op .lst .nil))
 (.cons (.forS (.tup [2, 3, 4]) (.seq (.cons (.op .idx (.cons (.var 0) (.cons (.cst (.int 1)) .nil))) .nil))
 (.cons (.expr (.mth .extend 1 (.cons (.op .lst (.cons (.op .tup (.cons (.var 2) (.cons (.var 3) (.cons (.var 4) .nil)))) (.cons (.op .tup (.cons (.var 2) (.cons (.var 4) (.cons (.var 3) .nil)))) .nil))) .nil)))
 .nil))
 (.cons (.ret (.op .sorted (.cons (.var 1) .nil)))
 .nil)))⟩
def T_steps_of : Tab := []
def sp_steps_of : FSpec := fun ds Q X => ∃ (g : Web), ds = [dWeb g] ∧ (g.ms.length ≤ 31 ∧ Q (.lst (dl w3 (stepsOf g))) [])
def F_steps_of : Fn := ⟨"steps_of", [false], 1, sp_steps_of⟩
theorem fs_steps_of : F_steps_of.sig = [false] := rfl
theorem fp_steps_of : F_steps_of.spec = sp_steps_of := rfl
theorem mk_steps_of (g : Web) (Q : Kn (D → List D → Prop)) (X : Kn (Ex → List D → Prop)) : sB sp_steps_of [dWeb g] = (g.ms.length ≤ 31 ∧ Q.k (.lst (dl w3 (stepsOf g))) []) := by
  refine propext ⟨fun h => ?_, fun h => ⟨g, rfl, h⟩⟩
  obtain ⟨g', e, h⟩ := h
  simp only [and_assoc, List.cons.injEq, and_true, true_and, D.w.injEq, D.lst.injEq, D.tup.injEq, D.fz.injEq, D.dK.injEq, D.dT.injEq, W.int.injEq, W.bl.injEq, W.tup.injEq, W.str.injEq, wWeb_inj, dl_inj3, dl_injI, map_inj3, map_injI, w3_inj, dl_injO, dl_injS, wO_inj, wS_inj, w2_inj, dl_inj2, wG_inj, dl_injG] at e
  obtain rfl := e
  exact h
theorem v_steps_of : Ver T_steps_of d_steps_of sp_steps_of := by
  intro ds Q1 X1 h
  obtain ⟨g, rfl, hl, k⟩ := h
  try simp only [d_steps_of, st_for, wpA1, wpA2, wpA3, wpA4, wpA5, wpA6, wpA7, implies_true, forall_const, ↓bc_t, ↓bc_f, rds, rd, tks, tks1, tk, brwArg, allW, mkTup, heldB, Op.pm, Op.wm, Op.watch, putIn, live, ownL, cArgs, apartArgs, outDs, putOuts, noBrw, takeSlot, shallow, isW, lateIn, Es.vars, Tg.set, setAll, wipeR, startE, initE, outsOf, if_true, if_false, reduceIte, Nat.reduceEqDiff, Nat.reduceLT, Nat.reduceLeDiff, Nat.reduceAdd, Nat.reduceSub, ne_eq, reduceCtorEq, wKeys, wKey, Int.reduceToNat, Nat.reduceBEq]
  refine for_rule (fun pre ρ => ∃ x2 x3 x4, ρ = [some (sw (wWeb g)), some ⟨.own, .lst (dl w3 (pre.flatMap both))⟩, x2, x3, x4]) ⟨_, _, _, rfl⟩ (fun pre x post ρ k e h0 hk => ⟨stays_nil _, ?_⟩) fun ρ h0 => ⟨stays_nil _, ?_⟩
  · obtain ⟨x2, x3, x4, rfl⟩ := h0
    have hl2 : pre.length < g.ms.length := by
      rw [e, List.length_append, List.length_cons]
      omega
    try simp only [turnF, wpA1, wpA2, wpA3, wpA4, wpA5, wpA6, wpA7, implies_true, forall_const, ↓bc_t, ↓bc_f, rds, rd, tks, tks1, tk, brwArg, allW, mkTup, heldB, Op.pm, Op.wm, Op.watch, putIn, live, ownL, cArgs, apartArgs, outDs, putOuts, noBrw, takeSlot, shallow, isW, lateIn, Es.vars, Tg.set, setAll, wipeR, startE, initE, outsOf, if_true, if_false, reduceIte, Nat.reduceEqDiff, Nat.reduceLT, Nat.reduceLeDiff, Nat.reduceAdd, Nat.reduceSub, ne_eq, reduceCtorEq, wKeys, wKey, Int.reduceToNat, Nat.reduceBEq, both_len]
    refine ⟨Nat.le_of_lt (Nat.lt_of_lt_of_le (show 2 * pre.length + 2 < 100 by omega) (by decide)), hk _ ⟨some (sw (.int x.1)), some (sw (.int x.2.1)), some (sw (.int x.2.2)), ?_⟩⟩
    rw [List.flatMap_append, dl_app]
    rfl
  · obtain ⟨x2, x3, x4, rfl⟩ := h0
    try simp only [wpA1, wpA2, wpA3, wpA4, wpA5, wpA6, wpA7, implies_true, forall_const, ↓bc_t, ↓bc_f, rds, rd, tks, tks1, tk, brwArg, allW, mkTup, heldB, Op.pm, Op.wm, Op.watch, putIn, live, ownL, cArgs, apartArgs, outDs, putOuts, noBrw, takeSlot, shallow, isW, lateIn, Es.vars, Tg.set, setAll, wipeR, startE, initE, outsOf, if_true, if_false, reduceIte, Nat.reduceEqDiff, Nat.reduceLT, Nat.reduceLeDiff, Nat.reduceAdd, Nat.reduceSub, ne_eq, reduceCtorEq, wKeys, wKey, Int.reduceToNat, Nat.reduceBEq, both_len]
    exact ⟨by omega, k⟩
def turn3 (m : M3) : M3 := (0 - m.1, m.2.2, m.2.1)
def turnedWalk (l : List M3) : List M3 := l.reverse.map turn3
def d_turned_walk : Def := ⟨["walk"], ["walk", "moment", "begin", "to"], [false],
 (.cons (.ret (.op .tuple (.cons (.lc (.tup [1, 2, 3]) (.seq (.cons (.op .rev (.cons (.var 0) .nil)) .nil)) (.op .tup (.cons (.op (.bin .sub) (.cons (.cst (.int 0)) (.cons (.var 1) .nil))) (.cons (.var 3) (.cons (.var 2) .nil)))) [("moment", 1), ("begin", 2), ("to", 3)]) .nil)))
 .nil)⟩
def T_turned_walk : Tab := []
def sp_turned_walk : FSpec := fun ds Q X => ∃ (l : List M3), ds = [.w (.tup (l.map w3))] ∧ (l.length ≤ 1000 ∧ Q (.w (.tup ((turnedWalk l).map w3))) [])
def F_turned_walk : Fn := ⟨"turned_walk", [false], 1, sp_turned_walk⟩
theorem fs_turned_walk : F_turned_walk.sig = [false] := rfl
theorem fp_turned_walk : F_turned_walk.spec = sp_turned_walk := rfl
theorem mk_turned_walk (l : List M3) (Q : Kn (D → List D → Prop)) (X : Kn (Ex → List D → Prop)) : sB sp_turned_walk [.w (.tup (l.map w3))] = (l.length ≤ 1000 ∧ Q.k (.w (.tup ((turnedWalk l).map w3))) []) := by
  refine propext ⟨fun h => ?_, fun h => ⟨l, rfl, h⟩⟩
  obtain ⟨l', e, h⟩ := h
  simp only [and_assoc, List.cons.injEq, and_true, true_and, D.w.injEq, D.lst.injEq, D.tup.injEq, D.fz.injEq, D.dK.injEq, D.dT.injEq, W.int.injEq, W.bl.injEq, W.tup.injEq, W.str.injEq, wWeb_inj, dl_inj3, dl_injI, map_inj3, map_injI, w3_inj, dl_injO, dl_injS, wO_inj, wS_inj, w2_inj, dl_inj2, wG_inj, dl_injG] at e
  obtain rfl := e
  exact h
theorem v_turned_walk : Ver T_turned_walk d_turned_walk sp_turned_walk := by
  intro ds Q1 X1 h
  obtain ⟨l, rfl, hl, k⟩ := h
  try simp only [d_turned_walk, wpA1, wpA2, wpA3, wpA4, wpA5, wpA6, wpA7, implies_true, forall_const, ↓bc_t, ↓bc_f, rds, rd, tks, tks1, tk, brwArg, allW, mkTup, heldB, Op.pm, Op.wm, Op.watch, putIn, live, ownL, cArgs, apartArgs, outDs, putOuts, noBrw, takeSlot, shallow, isW, lateIn, Es.vars, Tg.set, setAll, wipeR, startE, initE, outsOf, if_true, if_false, reduceIte, Nat.reduceEqDiff, Nat.reduceLT, Nat.reduceLeDiff, Nat.reduceAdd, Nat.reduceSub, ne_eq, reduceCtorEq, wKeys, wKey, Int.reduceToNat, Nat.reduceBEq]
  refine lc_dl w3 turn3 l.reverse (stays_nil _) (by rw [List.length_reverse]; exact Nat.le_trans hl (by decide)) (fun x hm k hk => ?_) ?_
  · try simp only [turnL, wpA1, wpA2, wpA3, wpA4, wpA5, wpA6, wpA7, implies_true, forall_const, ↓bc_t, ↓bc_f, rds, rd, tks, tks1, tk, brwArg, allW, mkTup, heldB, Op.pm, Op.wm, Op.watch, putIn, live, ownL, cArgs, apartArgs, outDs, putOuts, noBrw, takeSlot, shallow, isW, lateIn, Es.vars, Tg.set, setAll, wipeR, startE, initE, outsOf, if_true, if_false, reduceIte, Nat.reduceEqDiff, Nat.reduceLT, Nat.reduceLeDiff, Nat.reduceAdd, Nat.reduceSub, ne_eq, reduceCtorEq, wKeys, wKey, Int.reduceToNat, Nat.reduceBEq]
    exact hk
  · try simp only [wpA1, wpA2, wpA3, wpA4, wpA5, wpA6, wpA7, implies_true, forall_const, ↓bc_t, ↓bc_f, rds, rd, tks, tks1, tk, brwArg, allW, mkTup, heldB, Op.pm, Op.wm, Op.watch, putIn, live, ownL, cArgs, apartArgs, outDs, putOuts, noBrw, takeSlot, shallow, isW, lateIn, Es.vars, Tg.set, setAll, wipeR, startE, initE, outsOf, if_true, if_false, reduceIte, Nat.reduceEqDiff, Nat.reduceLT, Nat.reduceLeDiff, Nat.reduceAdd, Nat.reduceSub, ne_eq, reduceCtorEq, wKeys, wKey, Int.reduceToNat, Nat.reduceBEq]
    exact k
theorem mk_turned_nil (Q : Kn (D → List D → Prop)) (X : Kn (Ex → List D → Prop)) : sB sp_turned_walk [.w (.tup [])] = Q.k (.w (.tup [])) [] := by
  have := mk_turned_walk [] Q X
  rw [List.map_nil] at this
  rw [this]
  exact propext ⟨fun h => h.2, fun h => ⟨Nat.zero_le _, h⟩⟩
theorem steps_len (g : Web) : (stepsOf g).length = 2 * g.ms.length := by
  unfold stepsOf
  rw [srt_len, both_len]
end Wm
namespace Wm
open PySem PySem.Spec PyProof.Rows L2
/-- a step of the web -/
def St3 (g : Web) (m : M3) : Prop := m ∈ g.ms ∨ (m.1, m.2.2, m.2.1) ∈ g.ms
theorem mem_steps {g : Web} {m : M3} : m ∈ stepsOf g ↔ St3 g m := by
  unfold stepsOf
  rw [(srt_perm t3 _).mem_iff, List.mem_flatMap]
  constructor
  · rintro ⟨a, ha, h⟩
    simp only [both, List.mem_cons, List.not_mem_nil, or_false] at h
    rcases h with rfl | rfl
    · exact .inl ha
    · exact .inr ha
  · rintro (h | h)
    · exact ⟨m, h, List.mem_cons_self⟩
    · exact ⟨_, h, List.mem_cons_of_mem _ List.mem_cons_self⟩
def ck (c : List (Option Int)) (p : Int) : Option Int := c.getD p.toNat none
inductive Arr (S : M3 → Prop) (rest start first : Int) : Int → Int → Prop
  | one {t v : Int} : S (t, start, v) → first ≤ t → Arr S rest start first v t
  | more {s u t v : Int} : Arr S rest start first u s → S (t, u, v) → s + rest ≤ t → Arr S rest start first v t
def goB (c : List (Option Int)) (rest start first : Int) (m : M3) : Bool := if m.2.1 = start then decide (first ≤ m.1) else match ck c m.2.1 with
  | none => false
  | some s => decide (s + rest ≤ m.1)
def snB (c : List (Option Int)) (start : Int) (m : M3) : Bool := if m.2.2 = start then false else match ck c m.2.2 with
  | none => true
  | some s => decide (m.1 < s)
theorem goB_iff {c : List (Option Int)} {rest start first : Int} {m : M3} : goB c rest start first m = true ↔ (m.2.1 = start ∧ first ≤ m.1) ∨ (m.2.1 ≠ start ∧ ∃ s, ck c m.2.1 = some s ∧ s + rest ≤ m.1) := by
  unfold goB
  by_cases h : m.2.1 = start
  · rw [if_pos h, decide_eq_true_iff]
    exact ⟨fun z => .inl ⟨h, z⟩, fun z => z.elim (·.2) fun z => (z.1 h).elim⟩
  · rw [if_neg h]
    cases e : ck c m.2.1 with
    | none => exact ⟨(nomatch ·), fun z => z.elim (fun z => (h z.1).elim) fun ⟨_, _, z, _⟩ => nomatch z⟩
    | some s =>
      show decide _ = true ↔ _
      rw [decide_eq_true_iff]
      exact ⟨fun z => .inr ⟨h, s, rfl, z⟩, fun z => z.elim (fun z => (h z.1).elim) fun ⟨_, _, z, k⟩ => by cases z; exact k⟩
theorem snB_false {c : List (Option Int)} {start : Int} {m : M3} (h : snB c start m = false) (hv : m.2.2 ≠ start) : ∃ s, ck c m.2.2 = some s ∧ s ≤ m.1 := by
  unfold snB at h
  rw [if_neg hv] at h
  cases e : ck c m.2.2 with
  | none => rw [e] at h; cases h
  | some s =>
    rw [e] at h
    exact ⟨s, rfl, by have := of_decide_eq_false h; omega⟩
theorem snB_true {c : List (Option Int)} {start : Int} {m : M3} (h : snB c start m = true) : m.2.2 ≠ start ∧ ∀ s, ck c m.2.2 = some s → m.1 < s := by
  unfold snB at h
  by_cases hv : m.2.2 = start
  · rw [if_pos hv] at h; cases h
  · refine ⟨hv, fun s e => ?_⟩
    rw [if_neg hv, e] at h
    exact of_decide_eq_true h
/-- a start: as many clocks as places, the moment at the start; each clock is the coming of some walk -/
structure ClkB (S : M3 → Prop) (rest start first n : Int) (c : List (Option Int)) : Prop where
  len : c.length = n.toNat
  st : ck c start = some first
  snd : ∀ p t, 0 ≤ p → p ≠ start → ck c p = some t → Arr S rest start first p t
def Closed (S : M3 → Prop) (rest start first : Int) (c : List (Option Int)) : Prop := ∀ m, S m → m.2.2 ≠ start → goB c rest start first m = true → ∃ s, ck c m.2.2 = some s ∧ s ≤ m.1
structure ClkOk (S : M3 → Prop) (rest start first n : Int) (c : List (Option Int)) : Prop extends ClkB S rest start first n c where
  cls : Closed S rest start first c
section
variable {S : M3 → Prop} {rest start first n : Int} {c : List (Option Int)}
theorem Arr.ge (hr : 0 ≤ rest) {p t : Int} (h : Arr S rest start first p t) : first ≤ t := by
  induction h with
  | one _ h => exact h
  | more _ _ h ih => omega
theorem Arr.comes (hr : 0 ≤ rest) (hc : Closed S rest start first c) {p t : Int} (h : Arr S rest start first p t) : p ≠ start → ∃ s, ck c p = some s ∧ s ≤ t := by
  induction h with
  | @one t v h h1 => exact fun hv => hc (t, start, v) h hv (goB_iff.mpr (.inl ⟨rfl, h1⟩))
  | @more s u t v h1 h2 h3 ih =>
    intro hv
    by_cases hu : u = start
    · exact hc (t, u, v) h2 hv (goB_iff.mpr (.inl ⟨hu, by have := h1.ge hr; show first ≤ t; omega⟩))
    · obtain ⟨s', e, k⟩ := ih hu
      exact hc (t, u, v) h2 hv (goB_iff.mpr (.inr ⟨hu, s', e, by show s' + rest ≤ t; omega⟩))
theorem ck_out (h : c.length = n.toNat) {p : Int} (hp : ¬ (p.toNat < n.toNat)) : ck c p = none := by
  unfold ck
  rw [List.getD_eq_getElem?_getD, List.getElem?_eq_none (by omega)]
  rfl
theorem ClkOk.uniq (hr : 0 ≤ rest) {c c' : List (Option Int)} (h : ClkOk S rest start first n c) (h' : ClkOk S rest start first n c') : c = c' := by
  have key : ∀ p, 0 ≤ p → ck c p = ck c' p := fun p h0 => by
    by_cases hp : p = start
    · rw [hp, h.st, h'.st]
    · cases e : ck c p with
      | none =>
        cases e' : ck c' p with
        | none => rfl
        | some t =>
          obtain ⟨s, k, _⟩ := (h'.snd p t h0 hp e').comes hr h.cls hp
          rw [e] at k; cases k
      | some s =>
        obtain ⟨s', e', k'⟩ := (h.snd p s h0 hp e).comes hr h'.cls hp
        obtain ⟨s2, e2, k2⟩ := (h'.snd p s' h0 hp e').comes hr h.cls hp
        rw [e] at e2
        cases e2
        rw [e', show s' = s by omega]
  refine List.ext_getElem (h.len.trans h'.len.symm) fun i h1 h2 => ?_
  have := key (i : Int) (by omega)
  unfold ck at this
  rw [Int.toNat_natCast, List.getD_eq_getElem?_getD, List.getD_eq_getElem?_getD, List.getElem?_eq_getElem h1, List.getElem?_eq_getElem h2] at this
  exact this
theorem ck_set {p q : Int} {o : Option Int} (hp : 0 ≤ p) (hq : 0 ≤ q) (hl : p < c.length) : ck (c.set p.toNat o) q = if q = p then o else ck c q := by
  unfold ck
  rw [List.getD_eq_getElem?_getD, List.getD_eq_getElem?_getD, List.getElem?_set]
  by_cases h : q = p
  · rw [if_pos h, if_pos (by rw [h]), if_pos (by omega)]
    rfl
  · rw [if_neg h, if_neg (by omega)]
theorem ck_neg {p : Int} (hp : p < 0) : ck c p = ck c 0 := by
  unfold ck
  rw [Int.toNat_of_nonpos (by omega)]
  rfl
end
section
variable (rest start first : Int)
def stC (c : List (Option Int)) (m : M3) : List (Option Int) := if (snB c start m && goB c rest start first m) = true then c.set m.2.2.toNat (some m.1) else c
end
section
variable {S : M3 → Prop} {rest start first n : Int} {c : List (Option Int)}
/-- places of steps are places -/
def InN (n : Int) (m : M3) : Prop := 0 ≤ m.2.1 ∧ m.2.1 < n ∧ 0 ≤ m.2.2 ∧ m.2.2 < n ∧ m.2.1 ≠ m.2.2
theorem ck_stC {m : M3} (hm : InN n m) (hl : c.length = n.toNat) (hb : (snB c start m && goB c rest start first m) = true) {q : Int} (hq : 0 ≤ q) : ck (stC rest start first c m) q = if q = m.2.2 then some m.1 else ck c q := by
  unfold stC
  rw [if_pos hb]
  exact ck_set hm.2.2.1 hq (by have := hm.2.2.2.1; omega)
theorem stC_len (m : M3) : (stC rest start first c m).length = c.length := by
  unfold stC
  split
  · exact List.length_set
  · rfl
theorem ClkB.step (h : ClkB S rest start first n c) (hs : 0 ≤ start) {m : M3} (hS : S m) (hm : InN n m) : ClkB S rest start first n (stC rest start first c m) := by
  by_cases hb : (snB c start m && goB c rest start first m) = true
  · obtain ⟨h1, h2⟩ := (Bool.and_eq_true _ _).mp hb
    have hv := (snB_true h1).1
    refine ⟨(stC_len m).trans h.len, ?_, fun p t h0 hp e => ?_⟩
    · rw [ck_stC hm h.len hb hs, if_neg (Ne.symm hv), h.st]
    · rw [ck_stC hm h.len hb h0] at e
      by_cases hpv : p = m.2.2
      · rw [if_pos hpv] at e
        cases e
        rw [hpv]
        rcases goB_iff.mp h2 with ⟨hu, k⟩ | ⟨hu, s, es, k⟩
        · exact .one (show S (m.1, start, m.2.2) by rw [← hu]; exact hS) k
        · exact .more (h.snd _ _ hm.1 hu es) hS k
      · rw [if_neg hpv] at e
        exact h.snd p t h0 hp e
  · have : stC rest start first c m = c := by unfold stC; rw [if_neg hb]
    rw [this]
    exact h
theorem stC_same {m : M3} (hb : (snB c start m && goB c rest start first m) = false) : stC rest start first c m = c := by
  unfold stC
  rw [if_neg (by rw [hb]; exact Bool.noConfusion)]
/-- no step lowers a clock -/
theorem closed_of {L : List M3} (hL : ∀ m, S m → m ∈ L) (h : ∀ m ∈ L, (snB c start m && goB c rest start first m) = false) : Closed S rest start first c := fun m hS hv hg => by
  have := h m (hL m hS)
  rw [hg, Bool.and_true] at this
  exact snB_false this hv
def cnt (L : List M3) : Option Int → Nat
  | none => L.length + 1
  | some s => (L.filter fun m => decide (m.1 < s)).length
def mu (L : List M3) (c : List (Option Int)) : Nat := (c.map (cnt L)).sum
theorem filt_le (L : List M3) {s s' : Int} (h : s' ≤ s) : (L.filter fun m => decide (m.1 < s')).length ≤ (L.filter fun m => decide (m.1 < s)).length := by
  induction L with
  | nil => exact Nat.le_refl _
  | cons a L ih =>
    rw [List.filter_cons, List.filter_cons]
    by_cases h1 : a.1 < s'
    · rw [decide_eq_true h1, decide_eq_true (show a.1 < s by omega)]
      simpa using ih
    · rw [decide_eq_false h1]
      simp only [Bool.false_eq_true, if_false]
      split
      · rw [List.length_cons]; omega
      · exact ih
theorem filt_lt {L : List M3} {m : M3} (hm : m ∈ L) {s : Int} (h : m.1 < s) : (L.filter fun x => decide (x.1 < m.1)).length < (L.filter fun x => decide (x.1 < s)).length := by
  induction L with
  | nil => cases hm
  | cons a L ih =>
    rw [List.filter_cons, List.filter_cons]
    rcases List.mem_cons.mp hm with rfl | hm
    · rw [decide_eq_false (show ¬ m.1 < m.1 by omega), decide_eq_true h]
      simp only [Bool.false_eq_true, if_false, if_true, List.length_cons]
      have := filt_le L (show m.1 ≤ s by omega)
      omega
    · have := ih hm
      by_cases h1 : a.1 < m.1
      · rw [decide_eq_true h1, decide_eq_true (show a.1 < s by omega)]
        simpa using this
      · rw [decide_eq_false h1]
        simp only [Bool.false_eq_true, if_false]
        split
        · rw [List.length_cons]; omega
        · exact this
theorem sum_set {l : List Nat} {i a : Nat} (h : i < l.length) (k : a < l[i]) : (l.set i a).sum < l.sum := by
  induction l generalizing i with
  | nil => exact absurd h (Nat.not_lt_zero _)
  | cons x l ih =>
    cases i with
    | zero =>
      have k : a < x := k
      simp only [List.set_cons_zero, List.sum_cons]
      omega
    | succ i =>
      have := ih (i := i) (by simpa using h) (by simpa using k)
      simp only [List.set_cons_succ, List.sum_cons]
      omega
theorem mu_lt {L : List M3} {m : M3} (hm : m ∈ L) (hn : InN n m) (hl : c.length = n.toNat) (hb : snB c start m = true) : mu L (c.set m.2.2.toNat (some m.1)) < mu L c := by
  unfold mu
  rw [List.map_set]
  have hi : m.2.2.toNat < c.length := by have := hn.2.2; omega
  refine sum_set (by rw [List.length_map]; exact hi) ?_
  rw [List.getElem_map]
  have e : ck c m.2.2 = c[m.2.2.toNat] := by
    unfold ck
    rw [List.getD_eq_getElem?_getD, List.getElem?_eq_getElem hi]
    rfl
  rw [← e]
  cases h : ck c m.2.2 with
  | none => exact Nat.lt_succ_of_le (List.length_filter_le _ _)
  | some s => exact filt_lt hm ((snB_true hb).2 s h)
structure Ps (S : M3 → Prop) (rest start first n : Int) (pre post : List M3) (c : List (Option Int)) : Prop where
  low : ∀ p s, 0 ≤ p → p ≠ start → ck c p = some s → ∀ m ∈ post, s ≤ m.1
  cls : ∀ m ∈ pre, m.2.2 ≠ start → goB c rest start first m = true → ∃ s, ck c m.2.2 = some s ∧ s ≤ m.1
theorem Ps.step (hr : 0 < rest) {pre post : List M3} {m : M3} (h : Ps S rest start first n pre (m :: post) c) (hl : c.length = n.toNat) (hn : InN n m) (hn' : ∀ x ∈ pre, InN n x) (so : ∀ x ∈ pre, x.1 ≤ m.1) (so' : ∀ x ∈ post, m.1 ≤ x.1) : Ps S rest start first n (pre ++ [m]) post (stC rest start first c m) := by
  by_cases hb : (snB c start m && goB c rest start first m) = true
  · have ckq : ∀ {q}, 0 ≤ q → ck (stC rest start first c m) q = if q = m.2.2 then some m.1 else ck c q := fun hq => ck_stC hn hl hb hq
    obtain ⟨h1, h2⟩ := (Bool.and_eq_true _ _).mp hb
    refine ⟨fun p s h0 hp e x hx => ?_, fun x hx hv hg => ?_⟩
    · rw [ckq h0] at e
      split at e
      · cases e
        exact so' x hx
      · exact h.low p s h0 hp e x (List.mem_cons_of_mem _ hx)
    · rcases List.mem_append.mp hx with hx | hx
      · have nx := hn' x hx
        have g1 : goB c rest start first x = true := by
          rcases goB_iff.mp hg with z | ⟨hu, s, e, k⟩
          · exact goB_iff.mpr (.inl z)
          · rw [ckq nx.1] at e
            split at e
            · cases e
              have := so x hx
              omega
            · exact goB_iff.mpr (.inr ⟨hu, s, e, k⟩)
        obtain ⟨s, e, k⟩ := h.cls x hx hv g1
        rw [ckq nx.2.2.1]
        split
        · rename_i z
          have := (snB_true h1).2 s (by rw [← z]; exact e)
          exact ⟨m.1, rfl, by omega⟩
        · exact ⟨s, e, k⟩
      · rw [List.mem_singleton] at hx
        subst hx
        rw [ckq hn.2.2.1, if_pos rfl]
        exact ⟨x.1, rfl, Int.le_refl _⟩
  · rw [Bool.not_eq_true] at hb
    rw [stC_same hb]
    refine ⟨fun p s h0 hp e x hx => h.low p s h0 hp e x (List.mem_cons_of_mem _ hx), fun x hx hv hg => ?_⟩
    rcases List.mem_append.mp hx with hx | hx
    · exact h.cls x hx hv hg
    · rw [List.mem_singleton] at hx
      subst hx
      rw [hg, Bool.and_true] at hb
      exact snB_false hb hv
end
theorem steps_moments (g : Web) : (stepsOf g).Pairwise fun a b => a.1 ≤ b.1 := by
  refine (srt_ris t3 (g.ms.flatMap both)).imp fun {a b} h => ?_
  obtain ⟨a1, a2, a3⟩ := a
  obtain ⟨b1, b2, b3⟩ := b
  show a1 ≤ b1
  have h : HT.lexLt [b1, b2, b3] [a1, a2, a3] = false := h
  rw [HT.lexLt_cons] at h
  split at h
  · omega
  · have := of_decide_eq_false h
    omega
theorem step_in {g : Web} (hg : ∀ m ∈ g.ms, MeetOk g.n m) {m : M3} (h : St3 g m) : InN g.n m := by
  rcases h with h | h
  · have := hg m h
    unfold MeetOk at this
    exact ⟨by omega, by omega, by omega, by omega, by omega⟩
  · have := hg _ h
    unfold MeetOk at this
    have : -(10 ^ 9) ≤ m.1 ∧ m.1 ≤ 10 ^ 9 ∧ 0 ≤ m.2.2 ∧ m.2.2 < m.2.1 ∧ m.2.1 < g.n := this
    exact ⟨by omega, by omega, by omega, by omega, by omega⟩
def tq (tr : List (Option M3)) (p : Int) : Option M3 := tr.getD p.toNat none
structure TrB (S : M3 → Prop) (rest start first n : Int) (c : List (Option Int)) (tr : List (Option M3)) : Prop where
  len : tr.length = n.toNat
  no : ∀ p, 0 ≤ p → (p = start ∨ ck c p = none) → tq tr p = none
  yes : ∀ p t, 0 ≤ p → p ≠ start → ck c p = some t → ∃ u, tq tr p = some (t, u, p) ∧ S (t, u, p) ∧ goB c rest start first (t, u, p) = true
  rk : ∃ (r : Int → Nat) (K : Nat), (∀ p, r p < K) ∧ ∀ p t u, 0 ≤ p → p ≠ start → tq tr p = some (t, u, p) → u ≠ start → ∀ s, ck c u = some s → s < t ∨ (s = t ∧ r u < r p)
section
variable {S : M3 → Prop} {rest start first n : Int} {c : List (Option Int)} {tr : List (Option M3)}
def stT (rest start first : Int) (c : List (Option Int)) (tr : List (Option M3)) (m : M3) : List (Option M3) := if (snB c start m && goB c rest start first m) = true then tr.set m.2.2.toNat (some m) else tr
theorem tq_set {p q : Int} {o : Option M3} (hp : 0 ≤ p) (hq : 0 ≤ q) (hl : p < tr.length) : tq (tr.set p.toNat o) q = if q = p then o else tq tr q := by
  unfold tq
  rw [List.getD_eq_getElem?_getD, List.getD_eq_getElem?_getD, List.getElem?_set]
  by_cases h : q = p
  · rw [if_pos h, if_pos (by rw [h]), if_pos (by omega)]
    rfl
  · rw [if_neg h, if_neg (by omega)]
theorem TrB.step (hr : 0 ≤ rest) (h : TrB S rest start first n c tr) (hb0 : ClkB S rest start first n c) (hSn : ∀ m, S m → InN n m) {m : M3} (hS : S m) : TrB S rest start first n (stC rest start first c m) (stT rest start first c tr m) := by
  have hm := hSn m hS
  by_cases hb : (snB c start m && goB c rest start first m) = true
  · have ckq : ∀ {q}, 0 ≤ q → ck (stC rest start first c m) q = if q = m.2.2 then some m.1 else ck c q := fun hq => ck_stC hm hb0.len hb hq
    have tqq : ∀ {q}, 0 ≤ q → tq (stT rest start first c tr m) q = if q = m.2.2 then some m else tq tr q := fun {q} hq => by
      unfold stT
      rw [if_pos hb]
      exact tq_set hm.2.2.1 hq (by have := h.len; have := hm.2.2.2.1; omega)
    obtain ⟨h1, h2⟩ := (Bool.and_eq_true _ _).mp hb
    obtain ⟨hv, hlow⟩ := snB_true h1
    -- a step that could be gone can be gone still
    have goK : ∀ x, S x → goB c rest start first x = true → goB (stC rest start first c m) rest start first x = true := fun x hx hg => by
      rcases goB_iff.mp hg with z | ⟨hu, s, e, k⟩
      · exact goB_iff.mpr (.inl z)
      · refine goB_iff.mpr (.inr ⟨hu, ?_⟩)
        rw [ckq (hSn x hx).1]
        split
        · rename_i z
          have := hlow s (by rw [← z]; exact e)
          exact ⟨m.1, rfl, by omega⟩
        · exact ⟨s, e, k⟩
    refine ⟨?_, fun p h0 hp => ?_, fun p t h0 hp e => ?_, ?_⟩
    · unfold stT
      rw [if_pos hb, List.length_set]
      exact h.len
    · rw [tqq h0]
      rw [ckq h0] at hp
      by_cases z : p = m.2.2
      · rw [if_pos z] at hp
        rcases hp with hp | hp
        · exact absurd (z.symm.trans hp) hv
        · cases hp
      · rw [if_neg z] at hp ⊢
        exact h.no p h0 hp
    · rw [ckq h0] at e
      rw [tqq h0]
      by_cases z : p = m.2.2
      · rw [if_pos z] at e ⊢
        injection e with e
        obtain ⟨m1, m2, m3⟩ := m
        have z : p = m3 := z
        have e : m1 = t := e
        subst z e
        exact ⟨m2, rfl, hS, goK _ hS h2⟩
      · rw [if_neg z] at e ⊢
        obtain ⟨u, e1, e2, e3⟩ := h.yes p t h0 hp e
        exact ⟨u, e1, e2, goK _ e2 e3⟩
    · obtain ⟨r, K, rK, rr⟩ := h.rk
      refine ⟨fun p => if p = m.2.2 then K else r p, K + 1, fun p => ?_, fun p t u h0 hp e hu s es => ?_⟩
      · show (if p = m.2.2 then K else r p) < K + 1
        have := rK p
        split <;> omega
      · rw [tqq h0] at e
        by_cases z : p = m.2.2
        · rw [if_pos z] at e
          injection e with e
          obtain ⟨m1, m2, m3⟩ := m
          injection e with e4 e
          injection e with e5 e6
          subst e4 e5 e6
          have nu : m2 ≠ m3 := hm.2.2.2.2
          rw [ckq hm.1, if_neg nu] at es
          rcases goB_iff.mp h2 with ⟨q, _⟩ | ⟨_, s', e', k⟩
          · exact absurd q hu
          · rw [es] at e'
            cases e'
            have := rK m2
            have k : s + rest ≤ m1 := k
            show s < m1 ∨ (s = m1 ∧ (if m2 = m3 then K else r m2) < (if m3 = m3 then K else r m3))
            rw [if_neg nu, if_pos rfl]
            omega
        · rw [if_neg z] at e
          have pc : ∃ t', ck c p = some t' := by
            cases q : ck c p with
            | none => rw [h.no p h0 (.inr q)] at e; cases e
            | some t' => exact ⟨t', rfl⟩
          obtain ⟨t', pc⟩ := pc
          obtain ⟨u', e1, e2, e3⟩ := h.yes p t' h0 hp pc
          rw [e] at e1
          cases e1
          have hu0 := (hSn _ e2).1
          have hu0 : 0 ≤ u := hu0
          rcases goB_iff.mp e3 with ⟨q, _⟩ | ⟨_, s0, e0, k0⟩
          · exact absurd q hu
          · have k0 : s0 + rest ≤ t := k0
            rw [ckq hu0] at es
            by_cases zu : u = m.2.2
            · rw [if_pos zu] at es
              cases es
              have e0 : ck c u = some s0 := e0
              have := hlow s0 (by rw [← zu]; exact e0)
              exact .inl (by omega)
            · rw [if_neg zu] at es
              rcases rr p t u h0 hp e hu s es with q | ⟨q, q'⟩
              · exact .inl q
              · refine .inr ⟨q, ?_⟩
                show (if u = m.2.2 then K else r u) < (if p = m.2.2 then K else r p)
                rw [if_neg zu, if_neg z]
                exact q'
  · rw [Bool.not_eq_true] at hb
    have e : stT rest start first c tr m = tr := by
      unfold stT
      rw [if_neg (by rw [hb]; exact Bool.noConfusion)]
    rw [stC_same hb, e]
    exact h
end
end Wm
namespace Wm
open PySem PySem.Spec PyProof.Rows L2
theorem at_ck {c : List (Option Int)} {p : Int} (h0 : 0 ≤ p) (h1 : p < c.length) : atI (dl wO c) p = some (.w (wO (ck c p))) := by
  refine dl_at wO ?_
  rw [at_int h0 h1]
  unfold ck
  rw [List.getD_eq_getElem?_getD, List.getElem?_eq_getElem (by omega)]
  rfl
theorem at_tq {c : List (Option M3)} {p : Int} (h0 : 0 ≤ p) (h1 : p < c.length) : atI (dl wS c) p = some (.w (wS (tq c p))) := by
  refine dl_at wS ?_
  rw [at_int h0 h1]
  unfold tq
  rw [List.getD_eq_getElem?_getD, List.getElem?_eq_getElem (by omega)]
  rfl
def d_can_go : Def := ⟨["clocks", "rest", "start", "first", "step"], ["clocks", "rest", "start", "first", "step"], [false, false, false, false, false],
 (.cons (.ifS (.op (.cmp .eq) (.cons (.op .idx (.cons (.var 4) (.cons (.cst (.int 1)) .nil))) (.cons (.var 2) .nil)))
 (.cons (.ret (.op (.cmp .ge) (.cons (.op .idx (.cons (.var 4) (.cons (.cst (.int 0)) .nil))) (.cons (.var 3) .nil))))
 .nil)
 .nil)
 (.cons (.ret (.and (.op (.cmp .notN) (.cons (.op .idx (.cons (.var 0) (.cons (.op .idx (.cons (.var 4) (.cons (.cst (.int 1)) .nil))) .nil))) (.cons (.cst .non) .nil))) (.op (.cmp .le) (.cons (.op (.bin .add) (.cons (.op .idx (.cons (.var 0) (.cons (.op .idx (.cons (.var 4) (.cons (.cst (.int 1)) .nil))) .nil))) (.cons (.var 1) .nil))) (.cons (.op .idx (.cons (.var 4) (.cons (.cst (.int 0)) .nil))) .nil)))))
 .nil))⟩
def T_can_go : Tab := []
def sp_can_go : FSpec := fun ds Q X => ∃ (c : List (Option Int)) (rest start first : Int) (m : M3), ds = [.lst (dl wO c), dI rest, dI start, dI first, .w (w3 m)] ∧ (0 ≤ m.2.1 ∧ m.2.1 < c.length ∧ Q (dB (goB c rest start first m)) [])
def F_can_go : Fn := ⟨"can_go", [false, false, false, false, false], 1, sp_can_go⟩
theorem fs_can_go : F_can_go.sig = [false, false, false, false, false] := rfl
theorem fp_can_go : F_can_go.spec = sp_can_go := rfl
theorem mk_can_go (c : List (Option Int)) (rest start first : Int) (m : M3) (Q : Kn (D → List D → Prop)) (X : Kn (Ex → List D → Prop)) : sB sp_can_go [.lst (dl wO c), dI rest, dI start, dI first, .w (w3 m)] = (0 ≤ m.2.1 ∧ m.2.1 < c.length ∧ Q.k (dB (goB c rest start first m)) []) := by
  refine propext ⟨fun h => ?_, fun h => ⟨c, rest, start, first, m, rfl, h⟩⟩
  obtain ⟨c', rest', start', first', m', e, h⟩ := h
  simp only [and_assoc, List.cons.injEq, and_true, true_and, D.w.injEq, D.lst.injEq, D.tup.injEq, D.fz.injEq, D.dK.injEq, D.dT.injEq, W.int.injEq, W.bl.injEq, W.tup.injEq, W.str.injEq, wWeb_inj, dl_inj3, dl_injI, map_inj3, map_injI, w3_inj, dl_injO, dl_injS, wO_inj, wS_inj, w2_inj, dl_inj2, wG_inj, dl_injG] at e
  obtain ⟨rfl, rfl, rfl, rfl, rfl⟩ := e
  exact h
theorem v_can_go : Ver T_can_go d_can_go sp_can_go := by
  intro ds Q1 X1 h
  obtain ⟨c, rest, start, first, m, rfl, h0, h1, k⟩ := h
  unfold goB at k
  try simp only [d_can_go, wpA1, wpA2, wpA3, wpA4, wpA5, wpA6, wpA7, implies_true, forall_const, ↓bc_t, ↓bc_f, rds, rd, tks, tks1, tk, brwArg, allW, mkTup, heldB, Op.pm, Op.wm, Op.watch, putIn, live, ownL, cArgs, apartArgs, outDs, putOuts, noBrw, takeSlot, shallow, isW, lateIn, Es.vars, Tg.set, setAll, wipeR, startE, initE, outsOf, if_true, if_false, reduceIte, Nat.reduceEqDiff, Nat.reduceLT, Nat.reduceLeDiff, Nat.reduceAdd, Nat.reduceSub, ne_eq, reduceCtorEq, wKeys, wKey, Int.reduceToNat, Nat.reduceBEq, eqA1, eqA2, at_ck h0 h1]
  refine bc_dec (fun e => ?_) fun e => ?_
  · rw [if_pos e] at k
    exact k
  · rw [if_neg e] at k
    cases e : ck c m.2.1 with
    | none =>
      rw [e] at k
      try simp only [wpA1, wpA2, wpA3, wpA4, wpA5, wpA6, wpA7, implies_true, forall_const, ↓bc_t, ↓bc_f, rds, rd, tks, tks1, tk, brwArg, allW, mkTup, heldB, Op.pm, Op.wm, Op.watch, putIn, live, ownL, cArgs, apartArgs, outDs, putOuts, noBrw, takeSlot, shallow, isW, lateIn, Es.vars, Tg.set, setAll, wipeR, startE, initE, outsOf, if_true, if_false, reduceIte, Nat.reduceEqDiff, Nat.reduceLT, Nat.reduceLeDiff, Nat.reduceAdd, Nat.reduceSub, ne_eq, reduceCtorEq, wKeys, wKey, Int.reduceToNat, Nat.reduceBEq, eqA1, eqA2]
      exact k
    | some s =>
      rw [e] at k
      try simp only [wpA1, wpA2, wpA3, wpA4, wpA5, wpA6, wpA7, implies_true, forall_const, ↓bc_t, ↓bc_f, rds, rd, tks, tks1, tk, brwArg, allW, mkTup, heldB, Op.pm, Op.wm, Op.watch, putIn, live, ownL, cArgs, apartArgs, outDs, putOuts, noBrw, takeSlot, shallow, isW, lateIn, Es.vars, Tg.set, setAll, wipeR, startE, initE, outsOf, if_true, if_false, reduceIte, Nat.reduceEqDiff, Nat.reduceLT, Nat.reduceLeDiff, Nat.reduceAdd, Nat.reduceSub, ne_eq, reduceCtorEq, wKeys, wKey, Int.reduceToNat, Nat.reduceBEq, eqA1, eqA2]
      exact k
def d_is_sooner : Def := ⟨["clocks", "start", "step"], ["clocks", "start", "step"], [false, false, false],
 (.cons (.ifS (.op (.cmp .eq) (.cons (.op .idx (.cons (.var 2) (.cons (.cst (.int 2)) .nil))) (.cons (.var 1) .nil)))
 (.cons (.ret (.cst (.bl false)))
 .nil)
 .nil)
 (.cons (.ret (.or (.op (.cmp .isN) (.cons (.op .idx (.cons (.var 0) (.cons (.op .idx (.cons (.var 2) (.cons (.cst (.int 2)) .nil))) .nil))) (.cons (.cst .non) .nil))) (.op (.cmp .lt) (.cons (.op .idx (.cons (.var 2) (.cons (.cst (.int 0)) .nil))) (.cons (.op .idx (.cons (.var 0) (.cons (.op .idx (.cons (.var 2) (.cons (.cst (.int 2)) .nil))) .nil))) .nil)))))
 .nil))⟩
def T_is_sooner : Tab := []
def sp_is_sooner : FSpec := fun ds Q X => ∃ (c : List (Option Int)) (start : Int) (m : M3), ds = [.lst (dl wO c), dI start, .w (w3 m)] ∧ (0 ≤ m.2.2 ∧ m.2.2 < c.length ∧ Q (dB (snB c start m)) [])
def F_is_sooner : Fn := ⟨"is_sooner", [false, false, false], 1, sp_is_sooner⟩
theorem fs_is_sooner : F_is_sooner.sig = [false, false, false] := rfl
theorem fp_is_sooner : F_is_sooner.spec = sp_is_sooner := rfl
theorem mk_is_sooner (c : List (Option Int)) (start : Int) (m : M3) (Q : Kn (D → List D → Prop)) (X : Kn (Ex → List D → Prop)) : sB sp_is_sooner [.lst (dl wO c), dI start, .w (w3 m)] = (0 ≤ m.2.2 ∧ m.2.2 < c.length ∧ Q.k (dB (snB c start m)) []) := by
  refine propext ⟨fun h => ?_, fun h => ⟨c, start, m, rfl, h⟩⟩
  obtain ⟨c', start', m', e, h⟩ := h
  simp only [and_assoc, List.cons.injEq, and_true, true_and, D.w.injEq, D.lst.injEq, D.tup.injEq, D.fz.injEq, D.dK.injEq, D.dT.injEq, W.int.injEq, W.bl.injEq, W.tup.injEq, W.str.injEq, wWeb_inj, dl_inj3, dl_injI, map_inj3, map_injI, w3_inj, dl_injO, dl_injS, wO_inj, wS_inj, w2_inj, dl_inj2, wG_inj, dl_injG] at e
  obtain ⟨rfl, rfl, rfl⟩ := e
  exact h
theorem v_is_sooner : Ver T_is_sooner d_is_sooner sp_is_sooner := by
  intro ds Q1 X1 h
  obtain ⟨c, start, m, rfl, h0, h1, k⟩ := h
  unfold snB at k
  try simp only [d_is_sooner, wpA1, wpA2, wpA3, wpA4, wpA5, wpA6, wpA7, implies_true, forall_const, ↓bc_t, ↓bc_f, rds, rd, tks, tks1, tk, brwArg, allW, mkTup, heldB, Op.pm, Op.wm, Op.watch, putIn, live, ownL, cArgs, apartArgs, outDs, putOuts, noBrw, takeSlot, shallow, isW, lateIn, Es.vars, Tg.set, setAll, wipeR, startE, initE, outsOf, if_true, if_false, reduceIte, Nat.reduceEqDiff, Nat.reduceLT, Nat.reduceLeDiff, Nat.reduceAdd, Nat.reduceSub, ne_eq, reduceCtorEq, wKeys, wKey, Int.reduceToNat, Nat.reduceBEq, eqA1, eqA2, at_ck h0 h1]
  refine bc_dec (fun e => ?_) fun e => ?_
  · rw [if_pos e] at k
    exact k
  · rw [if_neg e] at k
    cases e : ck c m.2.2 with
    | none =>
      rw [e] at k
      try simp only [wpA1, wpA2, wpA3, wpA4, wpA5, wpA6, wpA7, implies_true, forall_const, ↓bc_t, ↓bc_f, rds, rd, tks, tks1, tk, brwArg, allW, mkTup, heldB, Op.pm, Op.wm, Op.watch, putIn, live, ownL, cArgs, apartArgs, outDs, putOuts, noBrw, takeSlot, shallow, isW, lateIn, Es.vars, Tg.set, setAll, wipeR, startE, initE, outsOf, if_true, if_false, reduceIte, Nat.reduceEqDiff, Nat.reduceLT, Nat.reduceLeDiff, Nat.reduceAdd, Nat.reduceSub, ne_eq, reduceCtorEq, wKeys, wKey, Int.reduceToNat, Nat.reduceBEq, eqA1, eqA2]
      exact k
    | some s =>
      rw [e] at k
      try simp only [wpA1, wpA2, wpA3, wpA4, wpA5, wpA6, wpA7, implies_true, forall_const, ↓bc_t, ↓bc_f, rds, rd, tks, tks1, tk, brwArg, allW, mkTup, heldB, Op.pm, Op.wm, Op.watch, putIn, live, ownL, cArgs, apartArgs, outDs, putOuts, noBrw, takeSlot, shallow, isW, lateIn, Es.vars, Tg.set, setAll, wipeR, startE, initE, outsOf, if_true, if_false, reduceIte, Nat.reduceEqDiff, Nat.reduceLT, Nat.reduceLeDiff, Nat.reduceAdd, Nat.reduceSub, ne_eq, reduceCtorEq, wKeys, wKey, Int.reduceToNat, Nat.reduceBEq, eqA1, eqA2]
      exact k
/-- webs that can be asked -/
structure WebA (g : Web) : Prop where
  n0 : 0 ≤ g.n
  n9 : g.n ≤ 1000
  len : g.ms.length ≤ 31
  ok : ∀ m ∈ g.ms, MeetOk g.n m
theorem WebOk.a {g : Web} (h : WebOk g) : WebA g := ⟨by have := h.n1; omega, by have := h.n7; omega, by have := h.len; omega, h.ok⟩
def d_soonest_tree : Def := ⟨["web", "rest", "start", "first"], ["web", "rest", "start", "first", "clocks", "tree", "steps", "changed", "step"], [false, false, false, false],
 (.cons (.asg 4 (.op (.bin .mul) (.cons (.op .lst (.cons (.cst .non) .nil)) (.cons (.op .idx (.cons (.var 0) (.cons (.cst (.int 0)) .nil))) .nil))))
 (.cons (.setI 4 (.var 2) (.var 3))
 (.cons (.asg 5 (.op (.bin .mul) (.cons (.op .lst (.cons (.cst .non) .nil)) (.cons (.op .idx (.cons (.var 0) (.cons (.cst (.int 0)) .nil))) .nil))))
 (.cons (.asg 6 (.call "steps_of" (.cons (.var 0) .nil)))
 (.cons (.asg 7 (.cst (.bl true)))
 (.cons (.whl (.var 7)
 (.cons (.asg 7 (.cst (.bl false)))
 (.cons (.forS (.one 8) (.seq (.cons (.var 6) .nil))
 (.cons (.ifS (.and (.call "is_sooner" (.cons (.var 4) (.cons (.var 2) (.cons (.var 8) .nil)))) (.call "can_go" (.cons (.var 4) (.cons (.var 1) (.cons (.var 2) (.cons (.var 3) (.cons (.var 8) .nil)))))))
 (.cons (.setI 4 (.op .idx (.cons (.var 8) (.cons (.cst (.int 2)) .nil))) (.op .idx (.cons (.var 8) (.cons (.cst (.int 0)) .nil))))
 (.cons (.setI 5 (.op .idx (.cons (.var 8) (.cons (.cst (.int 2)) .nil))) (.var 8))
 (.cons (.asg 7 (.op (.cmp .eq) (.cons (.var 1) (.cons (.cst (.int 0)) .nil))))
 .nil)))
 .nil)
 .nil))
 .nil)))
 (.cons (.ret (.op .tup (.cons (.var 4) (.cons (.var 5) .nil))))
 .nil)))))))⟩
def T_soonest_tree : Tab := [F_steps_of, F_is_sooner, F_can_go]
theorem tf_soonest_tree_steps_of : T_soonest_tree.find "steps_of" = some F_steps_of := rfl
theorem tf_soonest_tree_is_sooner : T_soonest_tree.find "is_sooner" = some F_is_sooner := rfl
theorem tf_soonest_tree_can_go : T_soonest_tree.find "can_go" = some F_can_go := rfl
def sp_soonest_tree : FSpec := fun ds Q X => ∃ (g : Web) (rest start first : Int), ds = [dWeb g, dI rest, dI start, dI first] ∧ (WebA g ∧ 0 ≤ rest ∧ 0 ≤ start ∧ start < g.n ∧ ∀ c tr, ClkOk (St3 g) rest start first g.n c → TrB (St3 g) rest start first g.n c tr → Q (.tup [.lst (dl wO c), .lst (dl wS tr)]) [])
def F_soonest_tree : Fn := ⟨"soonest_tree", [false, false, false, false], 2, sp_soonest_tree⟩
theorem fs_soonest_tree : F_soonest_tree.sig = [false, false, false, false] := rfl
theorem fp_soonest_tree : F_soonest_tree.spec = sp_soonest_tree := rfl
theorem mk_soonest_tree (g : Web) (rest start first : Int) (Q : Kn (D → List D → Prop)) (X : Kn (Ex → List D → Prop)) : sB sp_soonest_tree [dWeb g, dI rest, dI start, dI first] = (WebA g ∧ 0 ≤ rest ∧ 0 ≤ start ∧ start < g.n ∧ ∀ c tr, ClkOk (St3 g) rest start first g.n c → TrB (St3 g) rest start first g.n c tr → Q.k (.tup [.lst (dl wO c), .lst (dl wS tr)]) []) := by
  refine propext ⟨fun h => ?_, fun h => ⟨g, rest, start, first, rfl, h⟩⟩
  obtain ⟨g', rest', start', first', e, h⟩ := h
  simp only [and_assoc, List.cons.injEq, and_true, true_and, D.w.injEq, D.lst.injEq, D.tup.injEq, D.fz.injEq, D.dK.injEq, D.dT.injEq, W.int.injEq, W.bl.injEq, W.tup.injEq, W.str.injEq, wWeb_inj, dl_inj3, dl_injI, map_inj3, map_injI, w3_inj, dl_injO, dl_injS, wO_inj, wS_inj, w2_inj, dl_inj2, wG_inj, dl_injG] at e
  obtain ⟨rfl, rfl, rfl, rfl⟩ := e
  exact h
theorem v_soonest_tree : Ver T_soonest_tree d_soonest_tree sp_soonest_tree := by
  intro ds Q1 X1 h
  obtain ⟨g, rest, start, first, rfl, hg, hr, s0, s1, k⟩ := h
  have n0 := hg.n0
  have n9 := hg.n9
  try simp only [d_soonest_tree, wpA1, wpA2, wpA3, wpA4, wpA5, wpA6, wpA7, implies_true, forall_const, ↓bc_t, ↓bc_f, rds, rd, tks, tks1, tk, brwArg, allW, mkTup, heldB, Op.pm, Op.wm, Op.watch, putIn, live, ownL, cArgs, apartArgs, outDs, putOuts, noBrw, takeSlot, shallow, isW, lateIn, Es.vars, Tg.set, setAll, wipeR, startE, initE, outsOf, if_true, if_false, reduceIte, Nat.reduceEqDiff, Nat.reduceLT, Nat.reduceLeDiff, Nat.reduceAdd, Nat.reduceSub, ne_eq, reduceCtorEq, wKeys, wKey, Int.reduceToNat, Nat.reduceBEq, eqA1, eqA2, tf_soonest_tree_steps_of, tf_soonest_tree_is_sooner, tf_soonest_tree_can_go, fs_steps_of, fp_steps_of, mk_steps_of, fs_is_sooner, fp_is_sooner, mk_is_sooner, fs_can_go, fp_can_go, mk_can_go, repO, ix_at (n := g.n.toNat) s0 (show start < (g.n.toNat : Int) by omega)]
  refine ⟨by omega, by omega, sz (by omega), by omega, by omega, sz (by omega), by have := hg.len; omega, ?_⟩
  rw [show dl wO (List.replicate g.n.toNat none) = dl wS (List.replicate g.n.toNat none) from (repO _).symm.trans (repS _)]
  have ckn : ∀ p, ck (List.replicate g.n.toNat none) p = none := fun p => by
    unfold ck
    rw [List.getD_eq_getElem?_getD, List.getElem?_replicate]
    split <;> rfl
  have tqn : ∀ p, tq (List.replicate g.n.toNat none) p = none := fun p => by
    unfold tq
    rw [List.getD_eq_getElem?_getD, List.getElem?_replicate]
    split <;> rfl
  obtain ⟨c0, hc0⟩ : ∃ c0, c0 = (List.replicate g.n.toNat (none : Option Int)).set start.toNat (some first) := ⟨_, rfl⟩
  rw [← hc0]
  have ck0 : ∀ p, 0 ≤ p → ck c0 p = if p = start then some first else none := fun p h0 => by
    rw [hc0, ck_set s0 h0 (by rw [List.length_replicate]; omega), ckn]
  have b0 : ClkB (St3 g) rest start first g.n c0 := by
    refine ⟨by rw [hc0, List.length_set, List.length_replicate], by rw [ck0 _ s0, if_pos rfl], fun p t h0 hp e => ?_⟩
    rw [ck0 p h0, if_neg hp] at e
    cases e
  have t0 : TrB (St3 g) rest start first g.n c0 (List.replicate g.n.toNat none) := by
    refine ⟨List.length_replicate, fun p _ _ => tqn p, fun p t h0 hp e => ?_, fun _ => 0, 1, fun _ => Nat.one_pos, fun p t u _ _ e => ?_⟩
    · rw [ck0 p h0, if_neg hp] at e
      cases e
    · rw [tqn] at e
      cases e
  have hSn : ∀ m, St3 g m → InN g.n m := fun m hm => step_in hg.ok hm
  have hL : ∀ m ∈ stepsOf g, St3 g m := fun m hm => mem_steps.mp hm
  refine whl_rule (fun i ρ => ∃ c tr b x8, ρ = [some (sw (wWeb g)), some (sw (.int rest)), some (sw (.int start)), some (sw (.int first)), some ⟨.own, .lst (dl wO c)⟩, some ⟨.own, .lst (dl wS tr)⟩, some ⟨.own, .lst (dl w3 (stepsOf g))⟩, some (sw (.bl b)), x8] ∧ ClkB (St3 g) rest start first g.n c ∧ TrB (St3 g) rest start first g.n c tr ∧ (b = false → Closed (St3 g) rest start first c) ∧ (b = true → rest = 0 ∨ c = c0) ∧ i = if b then mu (stepsOf g) c + 1 else 0) (mu (stepsOf g) c0 + 1) ⟨c0, _, true, _, rfl, b0, t0, (nomatch ·), fun _ => .inr rfl, rfl⟩ fun i ρ hI => ?_
  obtain ⟨c, tr, b, x8, rfl, hb, ht, hcl, h0, rfl⟩ := hI
  try simp only [wpA1, wpA2, wpA3, wpA4, wpA5, wpA6, wpA7, implies_true, forall_const, ↓bc_t, ↓bc_f, rds, rd, tks, tks1, tk, brwArg, allW, mkTup, heldB, Op.pm, Op.wm, Op.watch, putIn, live, ownL, cArgs, apartArgs, outDs, putOuts, noBrw, takeSlot, shallow, isW, lateIn, Es.vars, Tg.set, setAll, wipeR, startE, initE, outsOf, if_true, if_false, reduceIte, Nat.reduceEqDiff, Nat.reduceLT, Nat.reduceLeDiff, Nat.reduceAdd, Nat.reduceSub, ne_eq, reduceCtorEq, wKeys, wKey, Int.reduceToNat, Nat.reduceBEq]
  cases b with
  | false =>
    try simp only [wpA1, wpA2, wpA3, wpA4, wpA5, wpA6, wpA7, implies_true, forall_const, ↓bc_t, ↓bc_f, rds, rd, tks, tks1, tk, brwArg, allW, mkTup, heldB, Op.pm, Op.wm, Op.watch, putIn, live, ownL, cArgs, apartArgs, outDs, putOuts, noBrw, takeSlot, shallow, isW, lateIn, Es.vars, Tg.set, setAll, wipeR, startE, initE, outsOf, if_true, if_false, reduceIte, Nat.reduceEqDiff, Nat.reduceLT, Nat.reduceLeDiff, Nat.reduceAdd, Nat.reduceSub, ne_eq, reduceCtorEq, wKeys, wKey, Int.reduceToNat, Nat.reduceBEq]
    exact k c tr ⟨hb, hcl rfl⟩ ht
  | true =>
    try simp only [wpA1, wpA2, wpA3, wpA4, wpA5, wpA6, wpA7, implies_true, forall_const, ↓bc_t, ↓bc_f, rds, rd, tks, tks1, tk, brwArg, allW, mkTup, heldB, Op.pm, Op.wm, Op.watch, putIn, live, ownL, cArgs, apartArgs, outDs, putOuts, noBrw, takeSlot, shallow, isW, lateIn, Es.vars, Tg.set, setAll, wipeR, startE, initE, outsOf, if_true, if_false, reduceIte, Nat.reduceEqDiff, Nat.reduceLT, Nat.reduceLeDiff, Nat.reduceAdd, Nat.reduceSub, ne_eq, reduceCtorEq, wKeys, wKey, Int.reduceToNat, Nat.reduceBEq, st_for]
    refine for_rule (fun pre ρ => ∃ c' tr' b x8, ρ = [some (sw (wWeb g)), some (sw (.int rest)), some (sw (.int start)), some (sw (.int first)), some ⟨.own, .lst (dl wO c')⟩, some ⟨.own, .lst (dl wS tr')⟩, some ⟨.own, .lst (dl w3 (stepsOf g))⟩, some (sw (.bl b)), x8] ∧ ClkB (St3 g) rest start first g.n c' ∧ TrB (St3 g) rest start first g.n c' tr' ∧ (0 < rest → b = false ∧ ∀ post, stepsOf g = pre ++ post → Ps (St3 g) rest start first g.n pre post c') ∧ (rest = 0 → b = false → c' = c ∧ ∀ m ∈ pre, (snB c start m && goB c rest start first m) = false) ∧ (rest = 0 → b = true → mu (stepsOf g) c' < mu (stepsOf g) c)) ⟨c, tr, false, _, rfl, hb, ht, fun hr0 => ⟨rfl, fun post _ => ?_⟩, fun _ _ => ⟨rfl, fun _ h => nomatch h⟩, fun _ h => nomatch h⟩ (fun pre x post ρ k2 e hJ hk => ?_) fun ρ hJ => ?_
    · refine ⟨fun p s h1 hp e => ?_, fun _ h => nomatch h⟩
      rcases h0 rfl with z | z
      · omega
      · rw [z, ck0 p h1, if_neg hp] at e
        cases e
    · obtain ⟨c', tr', b, x8, rfl, hb', ht', j1, j2, j3⟩ := hJ
      refine ⟨stays_one rfl, ?_⟩
      have hx : x ∈ stepsOf g := by rw [e]; exact List.mem_append_right _ List.mem_cons_self
      have hxS := hL x hx
      have hxN := hSn x hxS
      have l1 : x.2.1 < c'.length := by rw [hb'.len]; have := hxN.2.1; omega
      have l2 : x.2.2 < c'.length := by rw [hb'.len]; have := hxN.2.2.2.1; omega
      have l3 : x.2.2 < tr'.length := by rw [ht'.len]; have := hxN.2.2.2.1; omega
      have nb := hb'.step s0 hxS hxN
      have nt := ht'.step hr hb' hSn hxS
      have np : 0 < rest → ∀ post', stepsOf g = (pre ++ [x]) ++ post' → Ps (St3 g) rest start first g.n (pre ++ [x]) post' (stC rest start first c' x) := fun hr0 post' e' => by
        have e2 : stepsOf g = pre ++ x :: post' := by rw [e', List.append_assoc]; rfl
        have so := steps_moments g
        rw [e2] at so
        obtain ⟨_, so2, so3⟩ := List.pairwise_append.mp so
        exact ((j1 hr0).2 (x :: post') e2).step hr0 hb'.len hxN (fun y hy => hSn y (hL y (by rw [e]; exact List.mem_append_left _ hy))) (fun y hy => so3 y hy x List.mem_cons_self) fun y hy => (List.pairwise_cons.mp so2).1 y hy
      have keep : (snB c' start x && goB c' rest start first x) = false → k2 [some (sw (wWeb g)), some (sw (.int rest)), some (sw (.int start)), some (sw (.int first)), some ⟨.own, .lst (dl wO c')⟩, some ⟨.own, .lst (dl wS tr')⟩, some ⟨.own, .lst (dl w3 (stepsOf g))⟩, some (sw (.bl b)), some (sw (w3 x))] := fun hf => by
        rw [stC_same hf] at np
        refine hk _ ⟨c', tr', b, _, rfl, hb', ht', fun hr0 => ⟨(j1 hr0).1, np hr0⟩, fun hz hbf => ?_, j3⟩
        obtain ⟨rfl, q⟩ := j2 hz hbf
        refine ⟨rfl, fun m hm => ?_⟩
        rcases List.mem_append.mp hm with hm | hm
        · exact q m hm
        · rw [List.mem_singleton] at hm
          rw [hm]
          exact hf
      try simp only [turnF, wpA1, wpA2, wpA3, wpA4, wpA5, wpA6, wpA7, implies_true, forall_const, ↓bc_t, ↓bc_f, rds, rd, tks, tks1, tk, brwArg, allW, mkTup, heldB, Op.pm, Op.wm, Op.watch, putIn, live, ownL, cArgs, apartArgs, outDs, putOuts, noBrw, takeSlot, shallow, isW, lateIn, Es.vars, Tg.set, setAll, wipeR, startE, initE, outsOf, if_true, if_false, reduceIte, Nat.reduceEqDiff, Nat.reduceLT, Nat.reduceLeDiff, Nat.reduceAdd, Nat.reduceSub, ne_eq, reduceCtorEq, wKeys, wKey, Int.reduceToNat, Nat.reduceBEq, tf_soonest_tree_steps_of, tf_soonest_tree_is_sooner, tf_soonest_tree_can_go, fs_steps_of, fp_steps_of, mk_steps_of, fs_is_sooner, fp_is_sooner, mk_is_sooner, fs_can_go, fp_can_go, mk_can_go]
      refine ⟨hxN.2.2.1, l2, bc_of (fun e1 => ⟨hxN.1, l1, bc_of (fun e2 => ?_) fun e2 => keep (by rw [e2, Bool.and_false])⟩) fun e1 => keep (by rw [e1]; rfl)⟩
      have hcond : (snB c' start x && goB c' rest start first x) = true := by rw [e1, e2]; rfl
      have eC : stC rest start first c' x = c'.set x.2.2.toNat (some x.1) := by unfold stC; rw [if_pos hcond]
      have eT : stT rest start first c' tr' x = tr'.set x.2.2.toNat (some x) := by unfold stT; rw [if_pos hcond]
      have mlt := mu_lt (start := start) hx hxN hb'.len e1
      rw [eC] at nb nt np
      rw [eT] at nt
      refine ob_of (ix_at hxN.2.2.1 (by simpa using l2)) ?_
      try simp only [wpA1, wpA2, wpA3, wpA4, wpA5, wpA6, wpA7, implies_true, forall_const, ↓bc_t, ↓bc_f, rds, rd, tks, tks1, tk, brwArg, allW, mkTup, heldB, Op.pm, Op.wm, Op.watch, putIn, live, ownL, cArgs, apartArgs, outDs, putOuts, noBrw, takeSlot, shallow, isW, lateIn, Es.vars, Tg.set, setAll, wipeR, startE, initE, outsOf, if_true, if_false, reduceIte, Nat.reduceEqDiff, Nat.reduceLT, Nat.reduceLeDiff, Nat.reduceAdd, Nat.reduceSub, ne_eq, reduceCtorEq, wKeys, wKey, Int.reduceToNat, Nat.reduceBEq, eqA1, eqA2]
      refine ob_of (ix_at hxN.2.2.1 (by simpa using l3)) ?_
      try simp only [wpA1, wpA2, wpA3, wpA4, wpA5, wpA6, wpA7, implies_true, forall_const, ↓bc_t, ↓bc_f, rds, rd, tks, tks1, tk, brwArg, allW, mkTup, heldB, Op.pm, Op.wm, Op.watch, putIn, live, ownL, cArgs, apartArgs, outDs, putOuts, noBrw, takeSlot, shallow, isW, lateIn, Es.vars, Tg.set, setAll, wipeR, startE, initE, outsOf, if_true, if_false, reduceIte, Nat.reduceEqDiff, Nat.reduceLT, Nat.reduceLeDiff, Nat.reduceAdd, Nat.reduceSub, ne_eq, reduceCtorEq, wKeys, wKey, Int.reduceToNat, Nat.reduceBEq, eqA1, eqA2]
      refine hk _ ⟨_, _, _, _, rfl, nb, nt, fun hr0 => ⟨decide_eq_false (by omega), np hr0⟩, fun hz hf => ?_, fun hz _ => ?_⟩
      · exact absurd hz (of_decide_eq_false hf)
      · cases b with
        | true => exact Nat.lt_trans mlt (j3 hz rfl)
        | false =>
          obtain ⟨rfl, _⟩ := j2 hz rfl
          exact mlt
    · obtain ⟨c', tr', b, x8, rfl, hb', ht', j1, j2, j3⟩ := hJ
      refine ⟨stays_one rfl, ?_⟩
      try simp only [wpA1, wpA2, wpA3, wpA4, wpA5, wpA6, wpA7, implies_true, forall_const, ↓bc_t, ↓bc_f, rds, rd, tks, tks1, tk, brwArg, allW, mkTup, heldB, Op.pm, Op.wm, Op.watch, putIn, live, ownL, cArgs, apartArgs, outDs, putOuts, noBrw, takeSlot, shallow, isW, lateIn, Es.vars, Tg.set, setAll, wipeR, startE, initE, outsOf, if_true, if_false, reduceIte, Nat.reduceEqDiff, Nat.reduceLT, Nat.reduceLeDiff, Nat.reduceAdd, Nat.reduceSub, ne_eq, reduceCtorEq, wKeys, wKey, Int.reduceToNat, Nat.reduceBEq]
      refine ⟨if b = true then mu (stepsOf g) c' + 1 else 0, ?_, c', tr', b, x8, rfl, hb', ht', fun hf => ?_, fun hf => ?_, rfl⟩
      · show _ < mu (stepsOf g) c + 1
        cases b with
        | false => exact Nat.succ_pos _
        | true =>
          by_cases hz : rest = 0
          · exact Nat.succ_lt_succ (j3 hz rfl)
          · exact nomatch (j1 (by omega)).1
      · by_cases hz : rest = 0
        · obtain ⟨rfl, q⟩ := j2 hz hf
          exact closed_of (fun m hm => mem_steps.mpr hm) q
        · have := ((j1 (by omega)).2 [] (List.append_nil _).symm).cls
          exact fun m hm hv hgo => this m (mem_steps.mpr hm) hv hgo
      · by_cases hz : rest = 0
        · exact .inl hz
        · rw [(j1 (by omega)).1] at hf
          cases hf
def d_soonest_from : Def := ⟨["web", "rest", "start", "first"], ["web", "rest", "start", "first"], [false, false, false, false],
 (.cons (.ret (.op .idx (.cons (.call "soonest_tree" (.cons (.var 0) (.cons (.var 1) (.cons (.var 2) (.cons (.var 3) .nil))))) (.cons (.cst (.int 0)) .nil))))
 .nil)⟩
def T_soonest_from : Tab := [F_soonest_tree]
theorem tf_soonest_from_soonest_tree : T_soonest_from.find "soonest_tree" = some F_soonest_tree := rfl
def sp_soonest_from : FSpec := fun ds Q X => ∃ (g : Web) (rest start first : Int), ds = [dWeb g, dI rest, dI start, dI first] ∧ (WebA g ∧ 0 ≤ rest ∧ 0 ≤ start ∧ start < g.n ∧ ∀ c, ClkOk (St3 g) rest start first g.n c → Q (.lst (dl wO c)) [])
def F_soonest_from : Fn := ⟨"soonest_from", [false, false, false, false], 3, sp_soonest_from⟩
theorem fs_soonest_from : F_soonest_from.sig = [false, false, false, false] := rfl
theorem fp_soonest_from : F_soonest_from.spec = sp_soonest_from := rfl
theorem mk_soonest_from (g : Web) (rest start first : Int) (Q : Kn (D → List D → Prop)) (X : Kn (Ex → List D → Prop)) : sB sp_soonest_from [dWeb g, dI rest, dI start, dI first] = (WebA g ∧ 0 ≤ rest ∧ 0 ≤ start ∧ start < g.n ∧ ∀ c, ClkOk (St3 g) rest start first g.n c → Q.k (.lst (dl wO c)) []) := by
  refine propext ⟨fun h => ?_, fun h => ⟨g, rest, start, first, rfl, h⟩⟩
  obtain ⟨g', rest', start', first', e, h⟩ := h
  simp only [and_assoc, List.cons.injEq, and_true, true_and, D.w.injEq, D.lst.injEq, D.tup.injEq, D.fz.injEq, D.dK.injEq, D.dT.injEq, W.int.injEq, W.bl.injEq, W.tup.injEq, W.str.injEq, wWeb_inj, dl_inj3, dl_injI, map_inj3, map_injI, w3_inj, dl_injO, dl_injS, wO_inj, wS_inj, w2_inj, dl_inj2, wG_inj, dl_injG] at e
  obtain ⟨rfl, rfl, rfl, rfl⟩ := e
  exact h
theorem v_soonest_from : Ver T_soonest_from d_soonest_from sp_soonest_from := by
  intro ds Q1 X1 h
  obtain ⟨g, rest, start, first, rfl, hg, hr, s0, s1, k⟩ := h
  try simp only [d_soonest_from, wpA1, wpA2, wpA3, wpA4, wpA5, wpA6, wpA7, implies_true, forall_const, ↓bc_t, ↓bc_f, rds, rd, tks, tks1, tk, brwArg, allW, mkTup, heldB, Op.pm, Op.wm, Op.watch, putIn, live, ownL, cArgs, apartArgs, outDs, putOuts, noBrw, takeSlot, shallow, isW, lateIn, Es.vars, Tg.set, setAll, wipeR, startE, initE, outsOf, if_true, if_false, reduceIte, Nat.reduceEqDiff, Nat.reduceLT, Nat.reduceLeDiff, Nat.reduceAdd, Nat.reduceSub, ne_eq, reduceCtorEq, wKeys, wKey, Int.reduceToNat, Nat.reduceBEq, eqA1, eqA2, tf_soonest_from_soonest_tree, fs_soonest_tree, fp_soonest_tree, mk_soonest_tree]
  refine ⟨hg, hr, s0, s1, fun c tr hc _ => ?_⟩
  try simp only [wpA1, wpA2, wpA3, wpA4, wpA5, wpA6, wpA7, implies_true, forall_const, ↓bc_t, ↓bc_f, rds, rd, tks, tks1, tk, brwArg, allW, mkTup, heldB, Op.pm, Op.wm, Op.watch, putIn, live, ownL, cArgs, apartArgs, outDs, putOuts, noBrw, takeSlot, shallow, isW, lateIn, Es.vars, Tg.set, setAll, wipeR, startE, initE, outsOf, if_true, if_false, reduceIte, Nat.reduceEqDiff, Nat.reduceLT, Nat.reduceLeDiff, Nat.reduceAdd, Nat.reduceSub, ne_eq, reduceCtorEq, wKeys, wKey, Int.reduceToNat, Nat.reduceBEq]
  exact k c hc
end Wm
namespace Wm
open PySem PySem.Spec PyProof.Rows L2
def Le (c' c : List (Option Int)) : Prop := ∀ p s, 0 ≤ p → ck c p = some s → ∃ s', ck c' p = some s' ∧ s' ≤ s
theorem Le.refl (c : List (Option Int)) : Le c c := fun _ s _ h => ⟨s, h, Int.le_refl _⟩
theorem Le.trans {a b c : List (Option Int)} (h1 : Le a b) (h2 : Le b c) : Le a c := fun p s h0 e => by
  obtain ⟨s', e', k⟩ := h2 p s h0 e
  obtain ⟨s2, e2, k2⟩ := h1 p s' h0 e'
  exact ⟨s2, e2, by omega⟩
section
variable {S : M3 → Prop} {rest start first n : Int} {c c' cs : List (Option Int)} {tr : List (Option M3)}
theorem goB_le {m : M3} (h : Le c' c) (h0 : 0 ≤ m.2.1) (hg : goB c rest start first m = true) : goB c' rest start first m = true := by
  rcases goB_iff.mp hg with z | ⟨hu, s, e, k⟩
  · exact goB_iff.mpr (.inl z)
  · obtain ⟨s', e', k'⟩ := h _ s h0 e
    exact goB_iff.mpr (.inr ⟨hu, s', e', by omega⟩)
theorem stC_le {m : M3} (hm : InN n m) (hl : c.length = n.toNat) : Le (stC rest start first c m) c := fun p s h0 e => by
  by_cases hb : (snB c start m && goB c rest start first m) = true
  · rw [ck_stC hm hl hb h0]
    split
    · rename_i z
      obtain ⟨h1, _⟩ := (Bool.and_eq_true _ _).mp hb
      have := (snB_true h1).2 s (by rw [← z]; exact e)
      exact ⟨m.1, rfl, by omega⟩
    · exact ⟨s, e, Int.le_refl _⟩
  · rw [stC_same (by simpa using hb)]
    exact ⟨s, e, Int.le_refl _⟩
theorem stC_done {m : M3} (hm : InN n m) (hl : c.length = n.toNat) (hv : m.2.2 ≠ start) (hg : goB c rest start first m = true) : ∃ s, ck (stC rest start first c m) m.2.2 = some s ∧ s ≤ m.1 := by
  by_cases hs : snB c start m = true
  · rw [ck_stC hm hl (by rw [hs, hg]; rfl) hm.2.2.1, if_pos rfl]
    exact ⟨_, rfl, Int.le_refl _⟩
  · rw [Bool.not_eq_true] at hs
    rw [stC_same (by rw [hs]; rfl)]
    exact snB_false hs hv
/-- each step that can be gone by the one has been gone by the other -/
def Cov (L : M3 → Prop) (rest start first : Int) (c c' : List (Option Int)) : Prop := ∀ m, L m → m.2.2 ≠ start → goB c rest start first m = true → ∃ s, ck c' m.2.2 = some s ∧ s ≤ m.1
theorem Cov.le {L : M3 → Prop} {c1 c2 : List (Option Int)} (h : Cov L rest start first c c1) (hn : ∀ m, L m → 0 ≤ m.2.2) (hle : Le c2 c1) : Cov L rest start first c c2 := fun m hm hv hg => by
  obtain ⟨s, e, k⟩ := h m hm hv hg
  obtain ⟨s', e', k'⟩ := hle _ s (hn m hm) e
  exact ⟨s', e', by omega⟩
theorem ClkB.ge (hr : 0 ≤ rest) (h : ClkB S rest start first n c) (hs : ClkOk S rest start first n cs) : Le cs c := fun p s h0 e => by
  by_cases hp : p = start
  · subst hp
    rw [h.st] at e
    cases e
    exact ⟨first, hs.st, Int.le_refl _⟩
  · exact (h.snd p s h0 hp e).comes hr hs.cls hp
theorem le_anti (h1 : Le c c') (h2 : Le c' c) {p : Int} (h0 : 0 ≤ p) : ck c p = ck c' p := by
  cases e : ck c p with
  | none =>
    cases e' : ck c' p with
    | none => rfl
    | some s =>
      obtain ⟨_, k, _⟩ := h1 p s h0 e'
      rw [e] at k; cases k
  | some s =>
    obtain ⟨s', e', k⟩ := h2 p s h0 e
    obtain ⟨s2, e2, k2⟩ := h1 p s' h0 e'
    rw [e] at e2
    cases e2
    rw [e', show s' = s by omega]
theorem ext_ck (hl : c.length = n.toNat) (hl' : c'.length = n.toNat) (h : ∀ p, 0 ≤ p → ck c p = ck c' p) : c = c' := by
  refine List.ext_getElem (hl.trans hl'.symm) fun i h1 h2 => ?_
  have := h (i : Int) (by omega)
  unfold ck at this
  rw [Int.toNat_natCast, List.getD_eq_getElem?_getD, List.getD_eq_getElem?_getD, List.getElem?_eq_getElem h1, List.getElem?_eq_getElem h2] at this
  exact this
theorem ClkB.eq_of_le (hr : 0 ≤ rest) (h : ClkB S rest start first n c) (hs : ClkOk S rest start first n cs) (hle : Le c cs) : c = cs :=
  ext_ck h.len hs.len fun _ h0 => le_anti hle (h.ge hr hs) h0
def cor (n : Int) (c cs : List (Option Int)) : Nat := ((List.range n.toNat).filter fun (i : Nat) => decide (ck c (i : Int) = ck cs (i : Int))).length
theorem cor_le : cor n c cs ≤ n.toNat := by
  unfold cor
  exact Nat.le_trans (List.length_filter_le _ _) (by rw [List.length_range]; exact Nat.le_refl _)
theorem filter_lt {α : Type} {l : List α} {p q : α → Bool} (h : ∀ x ∈ l, p x = true → q x = true) {a : α} (ha : a ∈ l) (hp : p a = false) (hq : q a = true) : (l.filter p).length < (l.filter q).length := by
  induction l with
  | nil => cases ha
  | cons x l ih =>
    have le : ∀ l : List α, (∀ x ∈ l, p x = true → q x = true) → (l.filter p).length ≤ (l.filter q).length := fun l h => by
      induction l with
      | nil => exact Nat.le_refl _
      | cons x l ih =>
        have := ih fun y hy => h y (List.mem_cons_of_mem _ hy)
        rw [List.filter_cons, List.filter_cons]
        cases px : p x with
        | true => rw [h x List.mem_cons_self px]; simpa using this
        | false => cases qx : q x <;> simp <;> omega
    rw [List.filter_cons, List.filter_cons]
    rcases List.mem_cons.mp ha with rfl | ha
    · rw [hp, hq]
      simp only [Bool.false_eq_true, if_false, if_true, List.length_cons]
      have := le l fun y hy => h y (List.mem_cons_of_mem _ hy)
      omega
    · have := ih (fun y hy => h y (List.mem_cons_of_mem _ hy)) ha
      cases px : p x with
      | true => rw [h x List.mem_cons_self px]; simpa using this
      | false => cases qx : q x <;> simp <;> omega
/-- of the places whose clock isn't right yet, the one that comes first is right behind a pass -/
theorem first_wrong (hr : 0 ≤ rest) (hs : ClkOk S rest start first n cs) (ht : TrB S rest start first n cs tr) (hS : ∀ m, S m → InN n m) (hb : ClkB S rest start first n c) (h : c ≠ cs) : ∃ m, S m ∧ m.2.2 ≠ start ∧ goB c rest start first m = true ∧ ck cs m.2.2 = some m.1 ∧ ck c m.2.2 ≠ ck cs m.2.2 := by
  have hge := hb.ge hr hs
  obtain ⟨r, K, rK, rr⟩ := ht.rk
  -- a wrong place with a clock there
  have wr : ∃ p t, 0 ≤ p ∧ p ≠ start ∧ ck cs p = some t ∧ ck c p ≠ some t := Classical.byContradiction fun hn => h (ext_ck hb.len hs.len fun p h0 => by
    by_cases hp : p = start
    · rw [hp, hb.st, hs.st]
    · cases e : ck cs p with
      | none =>
        cases e' : ck c p with
        | none => rfl
        | some s =>
          obtain ⟨_, k, _⟩ := hge p s h0 e'
          rw [e] at k; cases k
      | some t => exact Classical.byContradiction fun hne => hn ⟨p, t, h0, hp, e, hne⟩)
  -- the least by (clock, rank): by strong induction on clock - first, then on rank
  have key : ∀ (a b : Nat) (p t : Int), 0 ≤ p → p ≠ start → ck cs p = some t → ck c p ≠ some t → (t - first).toNat = a → r p = b → ∃ m, S m ∧ m.2.2 ≠ start ∧ goB c rest start first m = true ∧ ck cs m.2.2 = some m.1 ∧ ck c m.2.2 ≠ ck cs m.2.2 := by
    intro a
    induction a using Nat.strongRecOn with
    | _ a iha =>
      intro b
      induction b using Nat.strongRecOn with
      | _ b ihb =>
        intro p t h0 hp e ne ea eb
        obtain ⟨u, e1, e2, e3⟩ := ht.yes p t h0 hp e
        by_cases hg : goB c rest start first (t, u, p) = true
        · exact ⟨(t, u, p), e2, hp, hg, e, by show ck c p ≠ ck cs p; rw [e]; exact ne⟩
        · -- its step's begin is wrong, too
          have hu0 : 0 ≤ u := (hS _ e2).1
          rcases goB_iff.mp e3 with z | ⟨hu, s, es, k⟩
          · exact absurd (goB_iff.mpr (.inl z)) hg
          · have hu : u ≠ start := hu
            have es : ck cs u = some s := es
            have k : s + rest ≤ t := k
            have neu : ck c u ≠ some s := fun z => hg (goB_iff.mpr (.inr ⟨hu, s, z, k⟩))
            have fs : first ≤ s := (hs.snd u s hu0 hu es).ge hr
            rcases rr p t u h0 hp e1 hu s es with q | ⟨q, q'⟩
            · exact iha _ (by omega) _ u s hu0 hu es neu rfl rfl
            · exact ihb _ (by omega) u s hu0 hu es neu (by omega) rfl
  obtain ⟨p, t, h0, hp, e, ne⟩ := wr
  exact key _ _ p t h0 hp e ne rfl rfl
theorem cor_grow (hr : 0 ≤ rest) (hs : ClkOk S rest start first n cs) (ht : TrB S rest start first n cs tr) (hS : ∀ m, S m → InN n m) (hb : ClkB S rest start first n c) (hb' : ClkB S rest start first n c') (hle : Le c' c) (hc : Cov S rest start first c c') : c' = cs ∨ cor n c cs < cor n c' cs := by
  by_cases h : c = cs
  · exact .inl (hb'.eq_of_le hr hs (by rw [← h]; exact hle))
  · obtain ⟨m, hm, hv, hg, e, ne⟩ := first_wrong hr hs ht hS hb h
    have hn := hS m hm
    have hge' := hb'.ge hr hs
    have right : ∀ p, 0 ≤ p → ck c p = ck cs p → ck c' p = ck cs p := fun p h0 z => by
      cases e1 : ck cs p with
      | none =>
        cases e2 : ck c' p with
        | none => rfl
        | some s =>
          obtain ⟨_, q, _⟩ := hge' p s h0 e2
          rw [e1] at q; cases q
      | some t =>
        obtain ⟨s, e2, k⟩ := hle p t h0 (z.trans e1)
        obtain ⟨s', e3, k'⟩ := hge' p s h0 e2
        rw [e1] at e3
        cases e3
        rw [e2, show s = t by omega]
    refine .inr (filter_lt (fun i _ hi => decide_eq_true (right _ (by omega) (of_decide_eq_true hi))) (a := m.2.2.toNat) (List.mem_range.mpr (by have := hn.2.2; omega)) (decide_eq_false ?_) (decide_eq_true ?_))
    · rw [Int.toNat_of_nonneg hn.2.2.1]
      exact ne
    · rw [Int.toNat_of_nonneg hn.2.2.1, e]
      obtain ⟨s, e2, k⟩ := hc m hm hv hg
      obtain ⟨s', e3, k'⟩ := hge' _ s hn.2.2.1 e2
      rw [e] at e3
      cases e3
      rw [e2, show s = m.1 by omega]
theorem cor_pos (h0 : 0 ≤ start) (h1 : start < n) (hb : ClkB S rest start first n c) (hs : ClkOk S rest start first n cs) : 0 < cor n c cs := by
  unfold cor
  refine List.length_pos_iff.mpr fun z => ?_
  have : start.toNat ∈ (List.range n.toNat).filter fun (i : Nat) => decide (ck c (i : Int) = ck cs (i : Int)) := List.mem_filter.mpr ⟨List.mem_range.mpr (by omega), decide_eq_true (by rw [Int.toNat_of_nonneg h0, hb.st, hs.st])⟩
  rw [z] at this
  cases this
/-- there are such clocks -/
theorem clk_exists (hr : 0 ≤ rest) (h0 : 0 ≤ start) (L : List M3) (hL : ∀ m, S m ↔ m ∈ L) (hS : ∀ m, S m → InN n m) : ∀ (k : Nat) (c : List (Option Int)) (tr : List (Option M3)), mu L c ≤ k → ClkB S rest start first n c → TrB S rest start first n c tr → ∃ cs tr, ClkOk S rest start first n cs ∧ TrB S rest start first n cs tr := by
  intro k
  induction k with
  | zero =>
    intro c tr hk hb ht
    by_cases h : ∀ m ∈ L, (snB c start m && goB c rest start first m) = false
    · exact ⟨c, tr, ⟨hb, closed_of (fun m hm => (hL m).mp hm) h⟩, ht⟩
    · obtain ⟨m, hm⟩ := Classical.not_forall.mp h
      obtain ⟨hm, hb2⟩ := Classical.not_imp.mp hm
      have hb2 : (snB c start m && goB c rest start first m) = true := by simpa using hb2
      have := mu_lt (start := start) hm (hS m ((hL m).mpr hm)) hb.len ((Bool.and_eq_true _ _).mp hb2).1
      omega
  | succ k ih =>
    intro c tr hk hb ht
    by_cases h : ∀ m ∈ L, (snB c start m && goB c rest start first m) = false
    · exact ⟨c, tr, ⟨hb, closed_of (fun m hm => (hL m).mp hm) h⟩, ht⟩
    · obtain ⟨m, hm⟩ := Classical.not_forall.mp h
      obtain ⟨hm, hb2⟩ := Classical.not_imp.mp hm
      have hb2 : (snB c start m && goB c rest start first m) = true := by simpa using hb2
      have hmS := (hL m).mpr hm
      have lt := mu_lt (start := start) hm (hS m hmS) hb.len ((Bool.and_eq_true _ _).mp hb2).1
      refine ih (stC rest start first c m) (stT rest start first c tr m) ?_ (hb.step h0 hmS (hS m hmS)) (ht.step hr hb hS hmS)
      unfold stC
      rw [if_pos hb2]
      omega
end
/-- the clocks at first -/
def clk0 (n start first : Int) : List (Option Int) := (List.replicate n.toNat none).set start.toNat (some first)
theorem clk0_at {n start first : Int} (h0 : 0 ≤ start) (h1 : start < n) {p : Int} (hp : 0 ≤ p) : ck (clk0 n start first) p = if p = start then some first else none := by
  unfold clk0
  rw [ck_set h0 hp (by rw [List.length_replicate]; omega)]
  have : ck (List.replicate n.toNat none) p = none := by
    unfold ck
    rw [List.getD_eq_getElem?_getD, List.getElem?_replicate]
    split <;> rfl
  rw [this]
theorem clk0_B {S : M3 → Prop} {rest start first n : Int} (h0 : 0 ≤ start) (h1 : start < n) : ClkB S rest start first n (clk0 n start first) := by
  refine ⟨by unfold clk0; rw [List.length_set, List.length_replicate], by rw [clk0_at h0 h1 h0, if_pos rfl], fun p t hp hne e => ?_⟩
  rw [clk0_at h0 h1 hp, if_neg hne] at e
  cases e
theorem clk0_T {S : M3 → Prop} {rest start first n : Int} (h0 : 0 ≤ start) (h1 : start < n) : TrB S rest start first n (clk0 n start first) (List.replicate n.toNat none) := by
  have tqn : ∀ p, tq (List.replicate n.toNat none) p = none := fun p => by
    unfold tq
    rw [List.getD_eq_getElem?_getD, List.getElem?_replicate]
    split <;> rfl
  refine ⟨List.length_replicate, fun p _ _ => tqn p, fun p t hp hne e => ?_, fun _ => 0, 1, fun _ => Nat.one_pos, fun p t u _ _ e => ?_⟩
  · rw [clk0_at h0 h1 hp, if_neg hne] at e
    cases e
  · rw [tqn] at e
    cases e
theorem soon_exists {g : Web} (hg : ∀ m ∈ g.ms, MeetOk g.n m) {rest start first : Int} (hr : 0 ≤ rest) (h0 : 0 ≤ start) (h1 : start < g.n) : ∃ cs tr, ClkOk (St3 g) rest start first g.n cs ∧ TrB (St3 g) rest start first g.n cs tr :=
  clk_exists hr h0 (stepsOf g) (fun m => mem_steps.symm) (fun m hm => step_in hg hm) _ _ _ (Nat.le_refl _) (clk0_B h0 h1) (clk0_T h0 h1)
end Wm
namespace Wm
open PySem PySem.Spec PyProof.Rows L2
abbrev pool (a b c : Int) : D := .lst [dI a, dI b, dI c]
def PoolOk (a b c : Int) : Prop := 0 ≤ a ∧ 0 ≤ b ∧ b < 10 ^ 18 ∧ 0 ≤ c
def d_poolB : Def := ⟨["cell"], ["cell"], [false],
 (.cons (.ret (.op .lst (.cons (.op .max2 (.cons (.cst (.int 0)) (.cons (.op (.bin .sub) (.cons (.var 0) (.cons (.op (.bin .pow) (.cons (.cst (.int 10)) (.cons (.cst (.int 18)) .nil))) .nil))) .nil))) (.cons (.op (.bin .mod) (.cons (.var 0) (.cons (.op (.bin .pow) (.cons (.cst (.int 10)) (.cons (.cst (.int 18)) .nil))) .nil))) (.cons (.cst (.int 0)) .nil)))))
 .nil)⟩
def T_poolB : Tab := []
def sp_poolB : FSpec := fun ds Q X => ∃ (cell : Int), ds = [dI cell] ∧ (∀ a b c, PoolOk a b c → Q (pool a b c) [])
def F_poolB : Fn := ⟨"_law_pool", [false], 1, sp_poolB⟩
theorem fs_poolB : F_poolB.sig = [false] := rfl
theorem fp_poolB : F_poolB.spec = sp_poolB := rfl
theorem mk_poolB (cell : Int) (Q : Kn (D → List D → Prop)) (X : Kn (Ex → List D → Prop)) : sB sp_poolB [dI cell] = (∀ a b c, PoolOk a b c → Q.k (pool a b c) []) := by
  refine propext ⟨fun h => ?_, fun h => ⟨cell, rfl, h⟩⟩
  obtain ⟨cell', e, h⟩ := h
  simp only [and_assoc, List.cons.injEq, and_true, true_and, D.w.injEq, D.lst.injEq, D.tup.injEq, D.fz.injEq, D.dK.injEq, D.dT.injEq, W.int.injEq, W.bl.injEq, W.tup.injEq, W.str.injEq, wWeb_inj, dl_inj3, dl_injI, map_inj3, map_injI, w3_inj, dl_injO, dl_injS, wO_inj, wS_inj, w2_inj, dl_inj2, wG_inj, dl_injG] at e
  obtain rfl := e
  exact h
theorem v_poolB : Ver T_poolB d_poolB sp_poolB := by
  intro ds Q1 X1 h
  obtain ⟨cell, rfl, k⟩ := h
  try simp only [d_poolB, wpA1, wpA2, wpA3, wpA4, wpA5, wpA6, wpA7, implies_true, forall_const, ↓bc_t, ↓bc_f, rds, rd, tks, tks1, tk, brwArg, allW, mkTup, heldB, Op.pm, Op.wm, Op.watch, putIn, live, ownL, cArgs, apartArgs, outDs, putOuts, noBrw, takeSlot, shallow, isW, lateIn, Es.vars, Tg.set, setAll, wipeR, startE, initE, outsOf, if_true, if_false, reduceIte, Nat.reduceEqDiff, Nat.reduceLT, Nat.reduceLeDiff, Nat.reduceAdd, Nat.reduceSub, ne_eq, reduceCtorEq, wKeys, wKey, Int.reduceToNat, Nat.reduceBEq]
  refine ⟨⟨by decide, by decide, by decide⟩, ⟨by decide, by decide, by decide⟩, by decide, k _ _ _ ⟨?_, ?_, ?_, by omega⟩⟩
  · split <;> omega
  · exact Int.emod_nonneg _ (by decide)
  · exact Int.emod_lt_of_pos _ (by decide)
def d_nextB : Def := ⟨["pool", "base"], ["pool", "base", "near", "stir", "digit"], [true, false],
 (.cons (.ifS (.op (.cmp .gt) (.cons (.op .idx (.cons (.var 0) (.cons (.cst (.int 0)) .nil))) (.cons (.cst (.int 0)) .nil)))
 (.cons (.asg 4 (.op (.bin .mod) (.cons (.op .idx (.cons (.var 0) (.cons (.cst (.int 0)) .nil))) (.cons (.var 1) .nil))))
 (.cons (.setI 0 (.cst (.int 0)) (.op (.bin .fdiv) (.cons (.op .idx (.cons (.var 0) (.cons (.cst (.int 0)) .nil))) (.cons (.var 1) .nil))))
 (.cons (.ret (.var 4))
 .nil)))
 .nil)
 (.cons (.setI 0 (.cst (.int 2)) (.op (.bin .add) (.cons (.op .idx (.cons (.var 0) (.cons (.cst (.int 2)) .nil))) (.cons (.cst (.int 1)) .nil))))
 (.cons (.asg 2 (.op (.bin .mod) (.cons (.op (.bin .add) (.cons (.op .idx (.cons (.var 0) (.cons (.cst (.int 1)) .nil))) (.cons (.op (.bin .mul) (.cons (.cst (.int 7919)) (.cons (.op .idx (.cons (.var 0) (.cons (.cst (.int 2)) .nil))) .nil))) .nil))) (.cons (.cst (.int 1000000007)) .nil))))
 (.cons (.asg 3 (.op (.bin .mod) (.cons (.op (.bin .mul) (.cons (.op (.bin .add) (.cons (.var 2) (.cons (.cst (.int 11)) .nil))) (.cons (.op (.bin .add) (.cons (.var 2) (.cons (.cst (.int 48271)) .nil))) .nil))) (.cons (.cst (.int 998244353)) .nil))))
 (.cons (.ret (.op (.bin .mod) (.cons (.op (.bin .fdiv) (.cons (.op (.bin .mod) (.cons (.op (.bin .mul) (.cons (.var 3) (.cons (.var 3) .nil))) (.cons (.cst (.int 2147483647)) .nil))) (.cons (.cst (.int 8)) .nil))) (.cons (.var 1) .nil))))
 .nil)))))⟩
def T_nextB : Tab := []
def sp_nextB : FSpec := fun ds Q X => ∃ (a b c base : Int), ds = [pool a b c, dI base] ∧ (PoolOk a b c ∧ 0 < base ∧ base < 2 ^ 200 ∧ ∀ a' b' c' d, PoolOk a' b' c' → 0 ≤ d → d < base → Q (dI d) [pool a' b' c'])
def F_nextB : Fn := ⟨"_law_next", [true, false], 1, sp_nextB⟩
theorem fs_nextB : F_nextB.sig = [true, false] := rfl
theorem fp_nextB : F_nextB.spec = sp_nextB := rfl
theorem mk_nextB (a b c base : Int) (Q : Kn (D → List D → Prop)) (X : Kn (Ex → List D → Prop)) : sB sp_nextB [pool a b c, dI base] = (PoolOk a b c ∧ 0 < base ∧ base < 2 ^ 200 ∧ ∀ a' b' c' d, PoolOk a' b' c' → 0 ≤ d → d < base → Q.k (dI d) [pool a' b' c']) := by
  refine propext ⟨fun h => ?_, fun h => ⟨a, b, c, base, rfl, h⟩⟩
  obtain ⟨a', b', c', base', e, h⟩ := h
  simp only [and_assoc, List.cons.injEq, and_true, true_and, D.w.injEq, D.lst.injEq, D.tup.injEq, D.fz.injEq, D.dK.injEq, D.dT.injEq, W.int.injEq, W.bl.injEq, W.tup.injEq, W.str.injEq, wWeb_inj, dl_inj3, dl_injI, map_inj3, map_injI, w3_inj, dl_injO, dl_injS, wO_inj, wS_inj, w2_inj, dl_inj2, wG_inj, dl_injG] at e
  obtain ⟨rfl, rfl, rfl, rfl⟩ := e
  exact h
theorem v_nextB : Ver T_nextB d_nextB sp_nextB := by
  intro ds Q1 X1 h
  obtain ⟨a, b, c, base, rfl, ⟨ha, hb, hb2, hc⟩, h0, h1, k⟩ := h
  try simp only [d_nextB, wpA1, wpA2, wpA3, wpA4, wpA5, wpA6, wpA7, implies_true, forall_const, ↓bc_t, ↓bc_f, rds, rd, tks, tks1, tk, brwArg, allW, mkTup, heldB, Op.pm, Op.wm, Op.watch, putIn, live, ownL, cArgs, apartArgs, outDs, putOuts, noBrw, takeSlot, shallow, isW, lateIn, Es.vars, Tg.set, setAll, wipeR, startE, initE, outsOf, if_true, if_false, reduceIte, Nat.reduceEqDiff, Nat.reduceLT, Nat.reduceLeDiff, Nat.reduceAdd, Nat.reduceSub, ne_eq, reduceCtorEq, wKeys, wKey, Int.reduceToNat, Nat.reduceBEq]
  refine bc_dec (fun e => ?_) fun e => ?_
  · exact ⟨h0, cdivB h0 h1, k _ _ _ _ ⟨Int.ediv_nonneg ha (by omega), hb, hb2, hc⟩ (Int.emod_nonneg _ (by omega)) (Int.emod_lt_of_pos _ h0)⟩
  · exact ⟨cmul_l (by decide) (by decide), by decide, cmul_l (by omega) (by omega), by decide, cmul_l (by omega) (by omega), by decide, cdiv (by decide) (by decide), h0, k _ _ _ _ ⟨ha, hb, hb2, by omega⟩ (Int.emod_nonneg _ (by omega)) (Int.emod_lt_of_pos _ h0)⟩
def d_momentB : Def := ⟨["pool", "kind"], ["pool", "kind", "far"], [true, false],
 (.cons (.ifS (.op (.cmp .eq) (.cons (.var 1) (.cons (.cst (.int 4)) .nil)))
 (.cons (.asg 2 (.op (.bin .add) (.cons (.op (.bin .mul) (.cons (.call "_law_next" (.cons (.var 0) (.cons (.cst (.int 100000)) .nil))) (.cons (.cst (.int 100000)) .nil))) (.cons (.call "_law_next" (.cons (.var 0) (.cons (.cst (.int 100000)) .nil))) .nil))))
 (.cons (.ret (.op .idx (.cons (.op .lst (.cons (.op (.bin .pow) (.cons (.cst (.int 10)) (.cons (.cst (.int 9)) .nil))) (.cons (.op (.bin .sub) (.cons (.cst (.int 0)) (.cons (.op (.bin .pow) (.cons (.cst (.int 10)) (.cons (.cst (.int 9)) .nil))) .nil))) (.cons (.op (.bin .sub) (.cons (.op (.bin .mod) (.cons (.var 2) (.cons (.op (.bin .add) (.cons (.op (.bin .mul) (.cons (.cst (.int 2)) (.cons (.op (.bin .pow) (.cons (.cst (.int 10)) (.cons (.cst (.int 9)) .nil))) .nil))) (.cons (.cst (.int 1)) .nil))) .nil))) (.cons (.op (.bin .pow) (.cons (.cst (.int 10)) (.cons (.cst (.int 9)) .nil))) .nil))) .nil)))) (.cons (.call "_law_next" (.cons (.var 0) (.cons (.cst (.int 3)) .nil))) .nil))))
 .nil))
 .nil)
 (.cons (.ret (.op (.bin .add) (.cons (.op .idx (.cons (.op .lst (.cons (.cst (.int 0)) (.cons (.cst (.int 0)) (.cons (.cst (.int 0)) (.cons (.op (.bin .sub) (.cons (.cst (.int 0)) (.cons (.cst (.int 10)) .nil))) .nil))))) (.cons (.var 1) .nil))) (.cons (.op (.bin .mul) (.cons (.op .idx (.cons (.op .lst (.cons (.cst (.int 1)) (.cons (.cst (.int 1)) (.cons (.cst (.int 3)) (.cons (.cst (.int 1)) .nil))))) (.cons (.var 1) .nil))) (.cons (.call "_law_next" (.cons (.var 0) (.cons (.op .idx (.cons (.op .lst (.cons (.cst (.int 7)) (.cons (.cst (.int 31)) (.cons (.cst (.int 9)) (.cons (.cst (.int 21)) .nil))))) (.cons (.var 1) .nil))) .nil))) .nil))) .nil))))
 .nil))⟩
def T_momentB : Tab := [F_nextB]
theorem tf_momentB_nextB : T_momentB.find "_law_next" = some F_nextB := rfl
def sp_momentB : FSpec := fun ds Q X => ∃ (a b c kind : Int), ds = [pool a b c, dI kind] ∧ (PoolOk a b c ∧ 0 ≤ kind ∧ kind < 5 ∧ ∀ a' b' c' d, PoolOk a' b' c' → -(10 ^ 9) ≤ d → d ≤ 10 ^ 9 → Q (dI d) [pool a' b' c'])
def F_momentB : Fn := ⟨"_law_moment", [true, false], 2, sp_momentB⟩
theorem fs_momentB : F_momentB.sig = [true, false] := rfl
theorem fp_momentB : F_momentB.spec = sp_momentB := rfl
theorem mk_momentB (a b c kind : Int) (Q : Kn (D → List D → Prop)) (X : Kn (Ex → List D → Prop)) : sB sp_momentB [pool a b c, dI kind] = (PoolOk a b c ∧ 0 ≤ kind ∧ kind < 5 ∧ ∀ a' b' c' d, PoolOk a' b' c' → -(10 ^ 9) ≤ d → d ≤ 10 ^ 9 → Q.k (dI d) [pool a' b' c']) := by
  refine propext ⟨fun h => ?_, fun h => ⟨a, b, c, kind, rfl, h⟩⟩
  obtain ⟨a', b', c', kind', e, h⟩ := h
  simp only [and_assoc, List.cons.injEq, and_true, true_and, D.w.injEq, D.lst.injEq, D.tup.injEq, D.fz.injEq, D.dK.injEq, D.dT.injEq, W.int.injEq, W.bl.injEq, W.tup.injEq, W.str.injEq, wWeb_inj, dl_inj3, dl_injI, map_inj3, map_injI, w3_inj, dl_injO, dl_injS, wO_inj, wS_inj, w2_inj, dl_inj2, wG_inj, dl_injG] at e
  obtain ⟨rfl, rfl, rfl, rfl⟩ := e
  exact h
theorem v_momentB : Ver T_momentB d_momentB sp_momentB := by
  intro ds Q1 X1 h
  obtain ⟨a, b, c, kind, rfl, hp, h0, h1, k⟩ := h
  try simp only [d_momentB, wpA1, wpA2, wpA3, wpA4, wpA5, wpA6, wpA7, implies_true, forall_const, ↓bc_t, ↓bc_f, rds, rd, tks, tks1, tk, brwArg, allW, mkTup, heldB, Op.pm, Op.wm, Op.watch, putIn, live, ownL, cArgs, apartArgs, outDs, putOuts, noBrw, takeSlot, shallow, isW, lateIn, Es.vars, Tg.set, setAll, wipeR, startE, initE, outsOf, if_true, if_false, reduceIte, Nat.reduceEqDiff, Nat.reduceLT, Nat.reduceLeDiff, Nat.reduceAdd, Nat.reduceSub, ne_eq, reduceCtorEq, wKeys, wKey, Int.reduceToNat, Nat.reduceBEq, tf_momentB_nextB, fs_nextB, fp_nextB, mk_nextB]
  refine bc_dec (fun e => ?_) fun e => ?_
  · refine ⟨hp, by decide, by decide, fun a b c d hp d0 d1 => ⟨cmul_r (by decide) (by decide), hp, by decide, by decide, fun a b c d2 hp e0 e1 => ?_⟩⟩
    have f0 : 0 ≤ (d * 100000 + d2) % (2 * 10 ^ 9 + 1) := Int.emod_nonneg _ (by decide)
    have f1 : (d * 100000 + d2) % (2 * 10 ^ 9 + 1) < 2 * 10 ^ 9 + 1 := Int.emod_lt_of_pos _ (by decide)
    refine ⟨⟨by decide, by decide, by decide⟩, ⟨by decide, by decide, by decide⟩, ⟨by decide, by decide, by decide⟩, cmul_l (by decide) (by decide), by decide, ⟨by decide, by decide, by decide⟩, hp, by decide, by decide, fun a b c d3 hp g0 g1 => ?_⟩
    refine ob_at g0 g1 fun y hy => ?_
    simp only [List.mem_cons, List.not_mem_nil, or_false] at hy
    rcases hy with rfl | rfl | rfl <;> try simp only [wpA1, wpA2, wpA3, wpA4, wpA5, wpA6, wpA7, implies_true, forall_const, ↓bc_t, ↓bc_f, rds, rd, tks, tks1, tk, brwArg, allW, mkTup, heldB, Op.pm, Op.wm, Op.watch, putIn, live, ownL, cArgs, apartArgs, outDs, putOuts, noBrw, takeSlot, shallow, isW, lateIn, Es.vars, Tg.set, setAll, wipeR, startE, initE, outsOf, if_true, if_false, reduceIte, Nat.reduceEqDiff, Nat.reduceLT, Nat.reduceLeDiff, Nat.reduceAdd, Nat.reduceSub, ne_eq, reduceCtorEq, wKeys, wKey, Int.reduceToNat, Nat.reduceBEq] <;> exact k _ _ _ _ hp (by omega) (by omega)
  · have : kind = 0 ∨ kind = 1 ∨ kind = 2 ∨ kind = 3 := by omega
    rcases this with rfl | rfl | rfl | rfl <;> try simp only [wpA1, wpA2, wpA3, wpA4, wpA5, wpA6, wpA7, implies_true, forall_const, ↓bc_t, ↓bc_f, rds, rd, tks, tks1, tk, brwArg, allW, mkTup, heldB, Op.pm, Op.wm, Op.watch, putIn, live, ownL, cArgs, apartArgs, outDs, putOuts, noBrw, takeSlot, shallow, isW, lateIn, Es.vars, Tg.set, setAll, wipeR, startE, initE, outsOf, if_true, if_false, reduceIte, Nat.reduceEqDiff, Nat.reduceLT, Nat.reduceLeDiff, Nat.reduceAdd, Nat.reduceSub, ne_eq, reduceCtorEq, wKeys, wKey, Int.reduceToNat, Nat.reduceBEq, tf_momentB_nextB, fs_nextB, fp_nextB, mk_nextB] <;> exact ⟨hp, by decide, by decide, fun a b c d hp d0 d1 => ⟨cmul_l (by decide) (by decide), k _ _ _ _ hp (by omega) (by omega)⟩⟩
theorem add_ok {l : List M3} {x : M3} {n : Int} {i : Nat} (hl : l.length ≤ i) (hn : l.Nodup) (hm : ∀ q ∈ l, MeetOk n q) (hx : MeetOk n x) : (if x ∈ l then l else l ++ [x]).length ≤ i + 1 ∧ (if x ∈ l then l else l ++ [x]).Nodup ∧ ∀ q ∈ (if x ∈ l then l else l ++ [x]), MeetOk n q := by
  by_cases h : x ∈ l
  · rw [if_pos h]
    exact ⟨by omega, hn, hm⟩
  · rw [if_neg h]
    refine ⟨by rw [List.length_append, List.length_singleton]; omega, ?_, fun q hq => ?_⟩
    · rw [List.nodup_append]
      exact ⟨hn, List.nodup_cons.mpr ⟨List.not_mem_nil, List.nodup_nil⟩, fun a ha b hb z => h (by rw [List.mem_singleton] at hb; rw [← hb, ← z]; exact ha)⟩
    · rcases List.mem_append.mp hq with hq | hq
      · exact hm q hq
      · rw [List.mem_singleton] at hq
        rw [hq]
        exact hx
/-- two unlike places, the lesser one first -/
theorem pair_ok {one other n : Int} (a0 : 0 ≤ one) (a1 : one < n) (b0 : 0 ≤ other) (b1 : other < n) (h : one ≠ other) : 0 ≤ (if other < one then other else one) ∧ (if other < one then other else one) < (if other > one then other else one) ∧ (if other > one then other else one) < n := by
  split <;> split <;> omega
theorem web_of {l : List M3} {n : Int} (n1 : 1 ≤ n) (n7 : n ≤ 7) (hl : l.length ≤ 24) (hn : l.Nodup) (hm : ∀ q ∈ l, MeetOk n q) : WebOk ⟨n, srt3 l⟩ :=
  ⟨n1, n7, by show (srt3 l).length ≤ 24; rw [srt_len]; exact hl, fun q hq => hm q ((srt_perm t3 l).mem_iff.mp hq), srt3_srt hn⟩
theorem mod_ne {one oth n : Int} (h0 : 0 ≤ one) (h1 : one < n) (o0 : 0 ≤ oth) (o1 : oth < n - 1) : one ≠ (one + 1 + oth) % n := by
  by_cases h : one + 1 + oth < n
  · rw [Int.emod_eq_of_lt (by omega) h]
    omega
  · rw [← Int.sub_emod_right, Int.emod_eq_of_lt (by omega) (by omega)]
    omega
def d_webB : Def := ⟨["pool"], ["pool", "many", "kind", "meets", "k", "one", "other"], [true],
 (.cons (.asg 1 (.op (.bin .add) (.cons (.cst (.int 1)) (.cons (.call "_law_next" (.cons (.var 0) (.cons (.cst (.int 7)) .nil))) .nil))))
 (.cons (.asg 2 (.call "_law_next" (.cons (.var 0) (.cons (.cst (.int 5)) .nil))))
 (.cons (.asg 3 (.op .dnewT .nil))
 (.cons (.forS (.one 4) (.rng (.cons (.op (.bin .mul) (.cons (.op .idx (.cons (.op .lst (.cons (.cst (.int 24)) (.cons (.call "_law_next" (.cons (.var 0) (.cons (.cst (.int 25)) .nil))) .nil))) (.cons (.call "_law_next" (.cons (.var 0) (.cons (.cst (.int 2)) .nil))) .nil))) (.cons (.op .int (.cons (.op (.cmp .gt) (.cons (.var 1) (.cons (.cst (.int 1)) .nil))) .nil)) .nil))) .nil))
 (.cons (.asg 5 (.call "_law_next" (.cons (.var 0) (.cons (.var 1) .nil))))
 (.cons (.asg 6 (.op (.bin .mod) (.cons (.op (.bin .add) (.cons (.op (.bin .add) (.cons (.var 5) (.cons (.cst (.int 1)) .nil))) (.cons (.call "_law_next" (.cons (.var 0) (.cons (.op (.bin .sub) (.cons (.var 1) (.cons (.cst (.int 1)) .nil))) .nil))) .nil))) (.cons (.var 1) .nil))))
 (.cons (.setI 3 (.op .tup (.cons (.call "_law_moment" (.cons (.var 0) (.cons (.var 2) .nil))) (.cons (.op .min2 (.cons (.var 5) (.cons (.var 6) .nil))) (.cons (.op .max2 (.cons (.var 5) (.cons (.var 6) .nil))) .nil)))) (.cst (.bl true)))
 .nil))))
 (.cons (.ret (.op .tup (.cons (.op .tup (.cons (.var 1) (.cons (.op .tuple (.cons (.op .sorted (.cons (.var 3) .nil)) .nil)) .nil))) (.cons (.var 2) .nil))))
 .nil)))))⟩
def T_webB : Tab := [F_nextB, F_momentB]
theorem tf_webB_nextB : T_webB.find "_law_next" = some F_nextB := rfl
theorem tf_webB_momentB : T_webB.find "_law_moment" = some F_momentB := rfl
def sp_webB : FSpec := fun ds Q X => ∃ (a b c : Int), ds = [pool a b c] ∧ (PoolOk a b c ∧ ∀ a' b' c' g kind, PoolOk a' b' c' → WebOk g → 0 ≤ kind → kind < 5 → Q (.w (.tup [wWeb g, .int kind])) [pool a' b' c'])
def F_webB : Fn := ⟨"_law_web", [true], 3, sp_webB⟩
theorem fs_webB : F_webB.sig = [true] := rfl
theorem fp_webB : F_webB.spec = sp_webB := rfl
theorem mk_webB (a b c : Int) (Q : Kn (D → List D → Prop)) (X : Kn (Ex → List D → Prop)) : sB sp_webB [pool a b c] = (PoolOk a b c ∧ ∀ a' b' c' g kind, PoolOk a' b' c' → WebOk g → 0 ≤ kind → kind < 5 → Q.k (.w (.tup [wWeb g, .int kind])) [pool a' b' c']) := by
  refine propext ⟨fun h => ?_, fun h => ⟨a, b, c, rfl, h⟩⟩
  obtain ⟨a', b', c', e, h⟩ := h
  simp only [and_assoc, List.cons.injEq, and_true, true_and, D.w.injEq, D.lst.injEq, D.tup.injEq, D.fz.injEq, D.dK.injEq, D.dT.injEq, W.int.injEq, W.bl.injEq, W.tup.injEq, W.str.injEq, wWeb_inj, dl_inj3, dl_injI, map_inj3, map_injI, w3_inj, dl_injO, dl_injS, wO_inj, wS_inj, w2_inj, dl_inj2, wG_inj, dl_injG] at e
  obtain ⟨rfl, rfl, rfl⟩ := e
  exact h
theorem v_webB : Ver T_webB d_webB sp_webB := by
  intro ds Q1 X1 h
  obtain ⟨a, b, c, rfl, hp, k⟩ := h
  try simp only [d_webB, wpA1, wpA2, wpA3, wpA4, wpA5, wpA6, wpA7, implies_true, forall_const, ↓bc_t, ↓bc_f, rds, rd, tks, tks1, tk, brwArg, allW, mkTup, heldB, Op.pm, Op.wm, Op.watch, putIn, live, ownL, cArgs, apartArgs, outDs, putOuts, noBrw, takeSlot, shallow, isW, lateIn, Es.vars, Tg.set, setAll, wipeR, startE, initE, outsOf, if_true, if_false, reduceIte, Nat.reduceEqDiff, Nat.reduceLT, Nat.reduceLeDiff, Nat.reduceAdd, Nat.reduceSub, ne_eq, reduceCtorEq, wKeys, wKey, Int.reduceToNat, Nat.reduceBEq, tf_webB_nextB, tf_webB_momentB, fs_nextB, fp_nextB, mk_nextB, fs_momentB, fp_momentB, mk_momentB]
  refine ⟨hp, by decide, by decide, fun a b c many hp h0 h1 => ⟨hp, by decide, by decide, fun a b c kind hp k0 k1 => ⟨hp, by decide, by decide, fun a b c n1 hp c0 c1 => ⟨hp, by decide, by decide, fun a b c n2 hp d0 d1 => ?_⟩⟩⟩⟩
  refine ob_dl (f := W.int) (xs := [24, n1]) d0 d1 fun j hj => ?_
  have hj : 0 ≤ j ∧ j ≤ 24 := by
    simp only [List.mem_cons, List.not_mem_nil, or_false] at hj
    omega
  clear c0 c1 d0 d1
  try simp only [wpA1, wpA2, wpA3, wpA4, wpA5, wpA6, wpA7, implies_true, forall_const, ↓bc_t, ↓bc_f, rds, rd, tks, tks1, tk, brwArg, allW, mkTup, heldB, Op.pm, Op.wm, Op.watch, putIn, live, ownL, cArgs, apartArgs, outDs, putOuts, noBrw, takeSlot, shallow, isW, lateIn, Es.vars, Tg.set, setAll, wipeR, startE, initE, outsOf, if_true, if_false, reduceIte, Nat.reduceEqDiff, Nat.reduceLT, Nat.reduceLeDiff, Nat.reduceAdd, Nat.reduceSub, ne_eq, reduceCtorEq, wKeys, wKey, Int.reduceToNat, Nat.reduceBEq]
  have hcnt : 0 ≤ j * (if decide (1 < 1 + many) = true then 1 else 0) ∧ j * (if decide (1 < 1 + many) = true then 1 else 0) ≤ 24 ∧ (0 < j * (if decide (1 < 1 + many) = true then 1 else 0) → 0 < many) := by
    by_cases hm : 1 < 1 + many
    · rw [decide_eq_true hm, if_pos rfl]
      omega
    · rw [decide_eq_false hm, if_neg Bool.false_ne_true]
      omega
  refine ⟨cmul_l (by omega) (by omega), ?_⟩
  generalize j * (if decide (1 < 1 + many) = true then 1 else 0) = J at hcnt ⊢
  refine ⟨s62 (by omega) (by omega), for_range (fun i ρ => ∃ a b c l x4 x5 x6, ρ = [some ⟨.own, pool a b c⟩, some (sw (.int (1 + many))), some (sw (.int kind)), some ⟨.own, .dT (kd (.bl true) l)⟩, x4, x5, x6] ∧ PoolOk a b c ∧ l.length ≤ i ∧ l.Nodup ∧ ∀ q ∈ l, MeetOk (1 + many) q) ⟨_, _, _, [], _, _, _, rfl, hp, Nat.zero_le _, List.nodup_nil, fun _ h => nomatch h⟩ (fun i ρ k2 hi h2 hk => ⟨stays_nil _, ?_⟩) fun ρ h2 => ⟨stays_nil _, ?_⟩⟩
  · obtain ⟨a, b, c, l, x4, x5, x6, rfl, hp, hl, hn, hm⟩ := h2
    have mp : 0 < many := hcnt.2.2 (by omega)
    try simp only [turnF, wpA1, wpA2, wpA3, wpA4, wpA5, wpA6, wpA7, implies_true, forall_const, ↓bc_t, ↓bc_f, rds, rd, tks, tks1, tk, brwArg, allW, mkTup, heldB, Op.pm, Op.wm, Op.watch, putIn, live, ownL, cArgs, apartArgs, outDs, putOuts, noBrw, takeSlot, shallow, isW, lateIn, Es.vars, Tg.set, setAll, wipeR, startE, initE, outsOf, if_true, if_false, reduceIte, Nat.reduceEqDiff, Nat.reduceLT, Nat.reduceLeDiff, Nat.reduceAdd, Nat.reduceSub, ne_eq, reduceCtorEq, wKeys, wKey, Int.reduceToNat, Nat.reduceBEq, tf_webB_nextB, tf_webB_momentB, fs_nextB, fp_nextB, mk_nextB, fs_momentB, fp_momentB, mk_momentB, kd_len]
    refine ⟨hp, by omega, by omega, fun a b c one hp o0 o1 => ⟨hp, by omega, by omega, fun a b c oth hp t0 t1 => ⟨by omega, ?_⟩⟩⟩
    have g0 : 0 ≤ (one + 1 + oth) % (1 + many) := Int.emod_nonneg _ (by omega)
    have g1 : (one + 1 + oth) % (1 + many) < 1 + many := Int.emod_lt_of_pos _ (by omega)
    have ne := mod_ne o0 o1 t0 (by omega)
    generalize (one + 1 + oth) % (1 + many) = other at g0 g1 ne ⊢
    refine ⟨hp, k0, k1, fun a b c d hp e0 e1 => ⟨szl (by omega), ?_⟩⟩
    have hab := pair_ok o0 o1 g0 g1 ne
    rw [kd_put]
    exact hk _ ⟨_, _, _, _, _, _, _, rfl, hp, add_ok hl hn hm ⟨e0, e1, hab⟩⟩
  · obtain ⟨a, b, c, l, x4, x5, x6, rfl, hp, hl, hn, hm⟩ := h2
    try simp only [wpA1, wpA2, wpA3, wpA4, wpA5, wpA6, wpA7, implies_true, forall_const, ↓bc_t, ↓bc_f, rds, rd, tks, tks1, tk, brwArg, allW, mkTup, heldB, Op.pm, Op.wm, Op.watch, putIn, live, ownL, cArgs, apartArgs, outDs, putOuts, noBrw, takeSlot, shallow, isW, lateIn, Es.vars, Tg.set, setAll, wipeR, startE, initE, outsOf, if_true, if_false, reduceIte, Nat.reduceEqDiff, Nat.reduceLT, Nat.reduceLeDiff, Nat.reduceAdd, Nat.reduceSub, ne_eq, reduceCtorEq, wKeys, wKey, Int.reduceToNat, Nat.reduceBEq, p_sortedK]
    exact ⟨by omega, k _ _ _ ⟨_, srt3 l⟩ _ hp (web_of (by omega) (by omega) (by omega) hn hm) k0 k1⟩
def d_restB : Def := ⟨["pool"], ["pool"], [true],
 (.cons (.ret (.op .idx (.cons (.op .lst (.cons (.cst (.int 0)) (.cons (.cst (.int 1)) (.cons (.cst (.int 2)) (.cons (.cst (.int 3)) (.cons (.op (.bin .pow) (.cons (.cst (.int 10)) (.cons (.cst (.int 9)) .nil))) (.cons (.op (.bin .add) (.cons (.cst (.int 1)) (.cons (.call "_law_next" (.cons (.var 0) (.cons (.cst (.int 40)) .nil))) .nil))) .nil))))))) (.cons (.call "_law_next" (.cons (.var 0) (.cons (.cst (.int 6)) .nil))) .nil))))
 .nil)⟩
def T_restB : Tab := [F_nextB]
theorem tf_restB_nextB : T_restB.find "_law_next" = some F_nextB := rfl
def sp_restB : FSpec := fun ds Q X => ∃ (a b c : Int), ds = [pool a b c] ∧ (PoolOk a b c ∧ ∀ a' b' c' d, PoolOk a' b' c' → 0 ≤ d → d ≤ 10 ^ 9 → Q (dI d) [pool a' b' c'])
def F_restB : Fn := ⟨"_law_rest", [true], 2, sp_restB⟩
theorem fs_restB : F_restB.sig = [true] := rfl
theorem fp_restB : F_restB.spec = sp_restB := rfl
theorem mk_restB (a b c : Int) (Q : Kn (D → List D → Prop)) (X : Kn (Ex → List D → Prop)) : sB sp_restB [pool a b c] = (PoolOk a b c ∧ ∀ a' b' c' d, PoolOk a' b' c' → 0 ≤ d → d ≤ 10 ^ 9 → Q.k (dI d) [pool a' b' c']) := by
  refine propext ⟨fun h => ?_, fun h => ⟨a, b, c, rfl, h⟩⟩
  obtain ⟨a', b', c', e, h⟩ := h
  simp only [and_assoc, List.cons.injEq, and_true, true_and, D.w.injEq, D.lst.injEq, D.tup.injEq, D.fz.injEq, D.dK.injEq, D.dT.injEq, W.int.injEq, W.bl.injEq, W.tup.injEq, W.str.injEq, wWeb_inj, dl_inj3, dl_injI, map_inj3, map_injI, w3_inj, dl_injO, dl_injS, wO_inj, wS_inj, w2_inj, dl_inj2, wG_inj, dl_injG] at e
  obtain ⟨rfl, rfl, rfl⟩ := e
  exact h
theorem v_restB : Ver T_restB d_restB sp_restB := by
  intro ds Q1 X1 h
  obtain ⟨a, b, c, rfl, hp, k⟩ := h
  try simp only [d_restB, wpA1, wpA2, wpA3, wpA4, wpA5, wpA6, wpA7, implies_true, forall_const, ↓bc_t, ↓bc_f, rds, rd, tks, tks1, tk, brwArg, allW, mkTup, heldB, Op.pm, Op.wm, Op.watch, putIn, live, ownL, cArgs, apartArgs, outDs, putOuts, noBrw, takeSlot, shallow, isW, lateIn, Es.vars, Tg.set, setAll, wipeR, startE, initE, outsOf, if_true, if_false, reduceIte, Nat.reduceEqDiff, Nat.reduceLT, Nat.reduceLeDiff, Nat.reduceAdd, Nat.reduceSub, ne_eq, reduceCtorEq, wKeys, wKey, Int.reduceToNat, Nat.reduceBEq, tf_restB_nextB, fs_nextB, fp_nextB, mk_nextB]
  refine ⟨⟨by decide, by decide, by decide⟩, hp, by decide, by decide, fun a b c d hp d0 d1 => ⟨hp, by decide, by decide, fun a b c e hp e0 e1 => ?_⟩⟩
  refine ob_at e0 e1 fun y hy => ?_
  simp only [List.mem_cons, List.not_mem_nil, or_false] at hy
  rcases hy with rfl | rfl | rfl | rfl | rfl | rfl <;> try simp only [wpA1, wpA2, wpA3, wpA4, wpA5, wpA6, wpA7, implies_true, forall_const, ↓bc_t, ↓bc_f, rds, rd, tks, tks1, tk, brwArg, allW, mkTup, heldB, Op.pm, Op.wm, Op.watch, putIn, live, ownL, cArgs, apartArgs, outDs, putOuts, noBrw, takeSlot, shallow, isW, lateIn, Es.vars, Tg.set, setAll, wipeR, startE, initE, outsOf, if_true, if_false, reduceIte, Nat.reduceEqDiff, Nat.reduceLT, Nat.reduceLeDiff, Nat.reduceAdd, Nat.reduceSub, ne_eq, reduceCtorEq, wKeys, wKey, Int.reduceToNat, Nat.reduceBEq] <;> exact k _ _ _ _ hp (by omega) (by omega)
def d_whenB : Def := ⟨["pool", "web", "kind"], ["pool", "web", "kind", "some", "at", "moment", "one", "other"], [true, false, false],
 (.cons (.asg 3 (.op .lst (.cons (.call "_law_moment" (.cons (.var 0) (.cons (.var 2) .nil))) (.cons (.op .idx (.cons (.op .lst (.cons (.op (.bin .pow) (.cons (.cst (.int 10)) (.cons (.cst (.int 29)) .nil))) (.cons (.op (.bin .sub) (.cons (.cst (.int 0)) (.cons (.op (.bin .pow) (.cons (.cst (.int 10)) (.cons (.cst (.int 29)) .nil))) .nil))) (.cons (.cst (.int 0)) .nil)))) (.cons (.call "_law_next" (.cons (.var 0) (.cons (.cst (.int 3)) .nil))) .nil))) .nil))))
 (.cons (.forS (.tup [5, 6, 7]) (.seq (.cons (.op .idx (.cons (.var 1) (.cons (.cst (.int 1)) .nil))) .nil))
 (.cons (.expr (.mth .extend 3 (.cons (.op .lst (.cons (.op (.bin .sub) (.cons (.var 5) (.cons (.cst (.int 1)) .nil))) (.cons (.var 5) (.cons (.var 5) (.cons (.op (.bin .add) (.cons (.var 5) (.cons (.cst (.int 1)) .nil))) .nil))))) .nil)))
 .nil))
 (.cons (.asg 4 (.call "_law_next" (.cons (.var 0) (.cons (.op (.bin .add) (.cons (.op .len (.cons (.var 3) .nil)) (.cons (.cst (.int 6)) .nil))) .nil))))
 (.cons (.ret (.op .idx (.cons (.var 3) (.cons (.op (.bin .mod) (.cons (.var 4) (.cons (.op .len (.cons (.var 3) .nil)) .nil))) .nil))))
 .nil))))⟩
def T_whenB : Tab := [F_nextB, F_momentB]
theorem tf_whenB_nextB : T_whenB.find "_law_next" = some F_nextB := rfl
theorem tf_whenB_momentB : T_whenB.find "_law_moment" = some F_momentB := rfl
def sp_whenB : FSpec := fun ds Q X => ∃ (a b c : Int) (g : Web) (kind : Int), ds = [pool a b c, dWeb g, dI kind] ∧ (PoolOk a b c ∧ g.ms.length ≤ 100 ∧ 0 ≤ kind ∧ kind < 5 ∧ ∀ a' b' c' d, PoolOk a' b' c' → Q (dI d) [pool a' b' c'])
def F_whenB : Fn := ⟨"_law_when", [true, false, false], 3, sp_whenB⟩
theorem fs_whenB : F_whenB.sig = [true, false, false] := rfl
theorem fp_whenB : F_whenB.spec = sp_whenB := rfl
theorem mk_whenB (a b c : Int) (g : Web) (kind : Int) (Q : Kn (D → List D → Prop)) (X : Kn (Ex → List D → Prop)) : sB sp_whenB [pool a b c, dWeb g, dI kind] = (PoolOk a b c ∧ g.ms.length ≤ 100 ∧ 0 ≤ kind ∧ kind < 5 ∧ ∀ a' b' c' d, PoolOk a' b' c' → Q.k (dI d) [pool a' b' c']) := by
  refine propext ⟨fun h => ?_, fun h => ⟨a, b, c, g, kind, rfl, h⟩⟩
  obtain ⟨a', b', c', g', kind', e, h⟩ := h
  simp only [and_assoc, List.cons.injEq, and_true, true_and, D.w.injEq, D.lst.injEq, D.tup.injEq, D.fz.injEq, D.dK.injEq, D.dT.injEq, W.int.injEq, W.bl.injEq, W.tup.injEq, W.str.injEq, wWeb_inj, dl_inj3, dl_injI, map_inj3, map_injI, w3_inj, dl_injO, dl_injS, wO_inj, wS_inj, w2_inj, dl_inj2, wG_inj, dl_injG] at e
  obtain ⟨rfl, rfl, rfl, rfl, rfl⟩ := e
  exact h
theorem v_whenB : Ver T_whenB d_whenB sp_whenB := by
  intro ds Q1 X1 h
  obtain ⟨a, b, c, g, kind, rfl, hp, hl, k0, k1, k⟩ := h
  try simp only [d_whenB, wpA1, wpA2, wpA3, wpA4, wpA5, wpA6, wpA7, implies_true, forall_const, ↓bc_t, ↓bc_f, rds, rd, tks, tks1, tk, brwArg, allW, mkTup, heldB, Op.pm, Op.wm, Op.watch, putIn, live, ownL, cArgs, apartArgs, outDs, putOuts, noBrw, takeSlot, shallow, isW, lateIn, Es.vars, Tg.set, setAll, wipeR, startE, initE, outsOf, if_true, if_false, reduceIte, Nat.reduceEqDiff, Nat.reduceLT, Nat.reduceLeDiff, Nat.reduceAdd, Nat.reduceSub, ne_eq, reduceCtorEq, wKeys, wKey, Int.reduceToNat, Nat.reduceBEq, tf_whenB_nextB, tf_whenB_momentB, fs_nextB, fp_nextB, mk_nextB, fs_momentB, fp_momentB, mk_momentB]
  refine ⟨hp, k0, k1, fun a b c d hp d0 d1 => ⟨⟨by decide, by decide, by decide⟩, ⟨by decide, by decide, by decide⟩, hp, by decide, by decide, fun a b c e hp e0 e1 => ?_⟩⟩
  refine ob_dl (f := W.int) (xs := [10 ^ 29, 0 - 10 ^ 29, 0]) e0 e1 fun z _ => ?_
  try simp only [wpA1, wpA2, wpA3, wpA4, wpA5, wpA6, wpA7, implies_true, forall_const, ↓bc_t, ↓bc_f, rds, rd, tks, tks1, tk, brwArg, allW, mkTup, heldB, Op.pm, Op.wm, Op.watch, putIn, live, ownL, cArgs, apartArgs, outDs, putOuts, noBrw, takeSlot, shallow, isW, lateIn, Es.vars, Tg.set, setAll, wipeR, startE, initE, outsOf, if_true, if_false, reduceIte, Nat.reduceEqDiff, Nat.reduceLT, Nat.reduceLeDiff, Nat.reduceAdd, Nat.reduceSub, ne_eq, reduceCtorEq, wKeys, wKey, Int.reduceToNat, Nat.reduceBEq]
  refine for_rule (fun pre ρ => ∃ l x4 x5 x6 x7, ρ = [some ⟨.own, pool a b c⟩, some (sw (wWeb g)), some (sw (.int kind)), some ⟨.own, .lst (dl W.int l)⟩, x4, x5, x6, x7] ∧ l.length = 2 + 4 * pre.length) ⟨[d, z], _, _, _, _, rfl, rfl⟩ (fun pre x post ρ k2 e h0 hk => ⟨stays_nil _, ?_⟩) fun ρ h0 => ⟨stays_nil _, ?_⟩
  · obtain ⟨l, x4, x5, x6, x7, rfl, hll⟩ := h0
    have hlt : pre.length ≤ g.ms.length := by rw [e, List.length_append]; omega
    try simp only [turnF, wpA1, wpA2, wpA3, wpA4, wpA5, wpA6, wpA7, implies_true, forall_const, ↓bc_t, ↓bc_f, rds, rd, tks, tks1, tk, brwArg, allW, mkTup, heldB, Op.pm, Op.wm, Op.watch, putIn, live, ownL, cArgs, apartArgs, outDs, putOuts, noBrw, takeSlot, shallow, isW, lateIn, Es.vars, Tg.set, setAll, wipeR, startE, initE, outsOf, if_true, if_false, reduceIte, Nat.reduceEqDiff, Nat.reduceLT, Nat.reduceLeDiff, Nat.reduceAdd, Nat.reduceSub, ne_eq, reduceCtorEq, wKeys, wKey, Int.reduceToNat, Nat.reduceBEq]
    refine ⟨sz (by omega), hk _ ⟨l ++ [x.1 - 1, x.1, x.1, x.1 + 1], _, _, _, _, by rw [dl_app]; rfl, ?_⟩⟩
    rw [List.length_append, List.length_append, List.length_singleton, hll]
    show _ + 4 = _
    omega
  · obtain ⟨l, x4, x5, x6, x7, rfl, hll⟩ := h0
    try simp only [wpA1, wpA2, wpA3, wpA4, wpA5, wpA6, wpA7, implies_true, forall_const, ↓bc_t, ↓bc_f, rds, rd, tks, tks1, tk, brwArg, allW, mkTup, heldB, Op.pm, Op.wm, Op.watch, putIn, live, ownL, cArgs, apartArgs, outDs, putOuts, noBrw, takeSlot, shallow, isW, lateIn, Es.vars, Tg.set, setAll, wipeR, startE, initE, outsOf, if_true, if_false, reduceIte, Nat.reduceEqDiff, Nat.reduceLT, Nat.reduceLeDiff, Nat.reduceAdd, Nat.reduceSub, ne_eq, reduceCtorEq, wKeys, wKey, Int.reduceToNat, Nat.reduceBEq, tf_whenB_nextB, tf_whenB_momentB, fs_nextB, fp_nextB, mk_nextB, fs_momentB, fp_momentB, mk_momentB]
    refine ⟨hp, by omega, by omega, fun a b c d hp d0 d1 => ⟨by omega, ob_dl (Int.emod_nonneg _ (by omega)) (Int.emod_lt_of_pos _ (by omega)) fun y _ => ?_⟩⟩
    try simp only [wpA1, wpA2, wpA3, wpA4, wpA5, wpA6, wpA7, implies_true, forall_const, ↓bc_t, ↓bc_f, rds, rd, tks, tks1, tk, brwArg, allW, mkTup, heldB, Op.pm, Op.wm, Op.watch, putIn, live, ownL, cArgs, apartArgs, outDs, putOuts, noBrw, takeSlot, shallow, isW, lateIn, Es.vars, Tg.set, setAll, wipeR, startE, initE, outsOf, if_true, if_false, reduceIte, Nat.reduceEqDiff, Nat.reduceLT, Nat.reduceLeDiff, Nat.reduceAdd, Nat.reduceSub, ne_eq, reduceCtorEq, wKeys, wKey, Int.reduceToNat, Nat.reduceBEq]
    exact k _ _ _ _ hp
def d_wholeB : Def := ⟨["found"], ["found"], [false],
 (.cons (.ret (.and (.op (.isi ["int"]) (.cons (.var 0) .nil)) (.not (.op (.isi ["bool"]) (.cons (.var 0) .nil)))))
 .nil)⟩
def T_wholeB : Tab := []
def sp_wholeB : FSpec := fun ds Q X => ∃ (i : Int), ds = [dI i] ∧ (Q (dB true) [])
def F_wholeB : Fn := ⟨"_law_whole", [false], 1, sp_wholeB⟩
theorem fs_wholeB : F_wholeB.sig = [false] := rfl
theorem fp_wholeB : F_wholeB.spec = sp_wholeB := rfl
theorem mk_wholeB (i : Int) (Q : Kn (D → List D → Prop)) (X : Kn (Ex → List D → Prop)) : sB sp_wholeB [dI i] = (Q.k (dB true) []) := by
  refine propext ⟨fun h => ?_, fun h => ⟨i, rfl, h⟩⟩
  obtain ⟨i', e, h⟩ := h
  simp only [and_assoc, List.cons.injEq, and_true, true_and, D.w.injEq, D.lst.injEq, D.tup.injEq, D.fz.injEq, D.dK.injEq, D.dT.injEq, W.int.injEq, W.bl.injEq, W.tup.injEq, W.str.injEq, wWeb_inj, dl_inj3, dl_injI, map_inj3, map_injI, w3_inj, dl_injO, dl_injS, wO_inj, wS_inj, w2_inj, dl_inj2, wG_inj, dl_injG] at e
  obtain rfl := e
  exact h
theorem v_wholeB : Ver T_wholeB d_wholeB sp_wholeB := by
  intro ds Q1 X1 h
  obtain ⟨i, rfl, k⟩ := h
  try simp only [d_wholeB, isoA1, isoA2, wpA1, wpA2, wpA3, wpA4, wpA5, wpA6, wpA7, implies_true, forall_const, ↓bc_t, ↓bc_f, rds, rd, tks, tks1, tk, brwArg, allW, mkTup, heldB, Op.pm, Op.wm, Op.watch, putIn, live, ownL, cArgs, apartArgs, outDs, putOuts, noBrw, takeSlot, shallow, isW, lateIn, Es.vars, Tg.set, setAll, wipeR, startE, initE, outsOf, if_true, if_false, reduceIte, Nat.reduceEqDiff, Nat.reduceLT, Nat.reduceLeDiff, Nat.reduceAdd, Nat.reduceSub, ne_eq, reduceCtorEq, wKeys, wKey, Int.reduceToNat, Nat.reduceBEq]
  exact k
def d_foldedB : Def := ⟨["script", "most"], ["script", "most", "cells", "k"], [false, false],
 (.cons (.asg 2 (.op (.bin .mul) (.cons (.op .lst (.cons (.cst (.int 0)) .nil)) (.cons (.var 1) .nil))))
 (.cons (.forS (.one 3) (.rng (.cons (.op .len (.cons (.var 0) .nil)) .nil))
 (.cons (.setI 2 (.op (.bin .mod) (.cons (.var 3) (.cons (.var 1) .nil))) (.op (.bin .add) (.cons (.op (.bin .mul) (.cons (.op .idx (.cons (.var 2) (.cons (.op (.bin .mod) (.cons (.var 3) (.cons (.var 1) .nil))) .nil))) (.cons (.cst (.int 1000003)) .nil))) (.cons (.op .idx (.cons (.var 0) (.cons (.var 3) .nil))) .nil))))
 .nil))
 (.cons (.ret (.op (.slice false true) (.cons (.var 2) (.cons (.op .max2 (.cons (.cst (.int 1)) (.cons (.op .min2 (.cons (.op .len (.cons (.var 0) .nil)) (.cons (.var 1) .nil))) .nil))) .nil))))
 .nil)))⟩
def T_foldedB : Tab := []
def sp_foldedB : FSpec := fun ds Q X => ∃ (l : List Int) (most : Int), ds = [.fz (l.map .int), dI most] ∧ (l.length ≤ 63 ∧ 0 < most ∧ most ≤ 63 ∧ ∀ c : List Int, c.length ≤ most → Q (.lst (dl W.int c)) [])
def F_foldedB : Fn := ⟨"_law_folded", [false, false], 1, sp_foldedB⟩
theorem fs_foldedB : F_foldedB.sig = [false, false] := rfl
theorem fp_foldedB : F_foldedB.spec = sp_foldedB := rfl
theorem mk_foldedB (l : List Int) (most : Int) (Q : Kn (D → List D → Prop)) (X : Kn (Ex → List D → Prop)) : sB sp_foldedB [.fz (l.map .int), dI most] = (l.length ≤ 63 ∧ 0 < most ∧ most ≤ 63 ∧ ∀ c : List Int, c.length ≤ most → Q.k (.lst (dl W.int c)) []) := by
  refine propext ⟨fun h => ?_, fun h => ⟨l, most, rfl, h⟩⟩
  obtain ⟨l', most', e, h⟩ := h
  simp only [and_assoc, List.cons.injEq, and_true, true_and, D.w.injEq, D.lst.injEq, D.tup.injEq, D.fz.injEq, D.dK.injEq, D.dT.injEq, W.int.injEq, W.bl.injEq, W.tup.injEq, W.str.injEq, wWeb_inj, dl_inj3, dl_injI, map_inj3, map_injI, w3_inj, dl_injO, dl_injS, wO_inj, wS_inj, w2_inj, dl_inj2, wG_inj, dl_injG] at e
  obtain ⟨rfl, rfl⟩ := e
  exact h
theorem v_foldedB : Ver T_foldedB d_foldedB sp_foldedB := by
  intro ds Q1 X1 h
  obtain ⟨l, most, rfl, h0, h1, h2, k⟩ := h
  try simp only [d_foldedB, wpA1, wpA2, wpA3, wpA4, wpA5, wpA6, wpA7, implies_true, forall_const, ↓bc_t, ↓bc_f, rds, rd, tks, tks1, tk, brwArg, allW, mkTup, heldB, Op.pm, Op.wm, Op.watch, putIn, live, ownL, cArgs, apartArgs, outDs, putOuts, noBrw, takeSlot, shallow, isW, lateIn, Es.vars, Tg.set, setAll, wipeR, startE, initE, outsOf, if_true, if_false, reduceIte, Nat.reduceEqDiff, Nat.reduceLT, Nat.reduceLeDiff, Nat.reduceAdd, Nat.reduceSub, ne_eq, reduceCtorEq, wKeys, wKey, Int.reduceToNat, Nat.reduceBEq, eqA1, eqA2]
  refine ⟨by omega, by omega, sz (by omega), s62 (by omega) (by omega), for_range (fun i ρ => ∃ c x3, ρ = [some ⟨.par, .fz (l.map .int)⟩, some (sw (.int most)), some ⟨.own, .lst (dl W.int c)⟩, x3] ∧ c.length = most.toNat) ⟨_, _, rfl, List.length_replicate⟩ (fun i ρ k hi h0 hk => ⟨stays_nil _, ?_⟩) fun ρ h0 => ⟨stays_nil _, ?_⟩⟩
  · obtain ⟨c, x3, rfl, hc⟩ := h0
    have g0 : 0 ≤ (0 + (i : Int)) % most := Int.emod_nonneg _ (by omega)
    have g1 : (0 + (i : Int)) % most < most := Int.emod_lt_of_pos _ (by omega)
    try simp only [turnF, wpA1, wpA2, wpA3, wpA4, wpA5, wpA6, wpA7, implies_true, forall_const, ↓bc_t, ↓bc_f, rds, rd, tks, tks1, tk, brwArg, allW, mkTup, heldB, Op.pm, Op.wm, Op.watch, putIn, live, ownL, cArgs, apartArgs, outDs, putOuts, noBrw, takeSlot, shallow, isW, lateIn, Es.vars, Tg.set, setAll, wipeR, startE, initE, outsOf, if_true, if_false, reduceIte, Nat.reduceEqDiff, Nat.reduceLT, Nat.reduceLeDiff, Nat.reduceAdd, Nat.reduceSub, ne_eq, reduceCtorEq, wKeys, wKey, Int.reduceToNat, Nat.reduceBEq]
    refine ⟨h1, ob_dl g0 (by omega) fun x _ => ?_⟩
    try simp only [wpA1, wpA2, wpA3, wpA4, wpA5, wpA6, wpA7, implies_true, forall_const, ↓bc_t, ↓bc_f, rds, rd, tks, tks1, tk, brwArg, allW, mkTup, heldB, Op.pm, Op.wm, Op.watch, putIn, live, ownL, cArgs, apartArgs, outDs, putOuts, noBrw, takeSlot, shallow, isW, lateIn, Es.vars, Tg.set, setAll, wipeR, startE, initE, outsOf, if_true, if_false, reduceIte, Nat.reduceEqDiff, Nat.reduceLT, Nat.reduceLeDiff, Nat.reduceAdd, Nat.reduceSub, ne_eq, reduceCtorEq, wKeys, wKey, Int.reduceToNat, Nat.reduceBEq]
    refine ⟨cmul_r (by decide) (by decide), ob_dl (by omega) (by omega) fun y _ => ?_⟩
    try simp only [wpA1, wpA2, wpA3, wpA4, wpA5, wpA6, wpA7, implies_true, forall_const, ↓bc_t, ↓bc_f, rds, rd, tks, tks1, tk, brwArg, allW, mkTup, heldB, Op.pm, Op.wm, Op.watch, putIn, live, ownL, cArgs, apartArgs, outDs, putOuts, noBrw, takeSlot, shallow, isW, lateIn, Es.vars, Tg.set, setAll, wipeR, startE, initE, outsOf, if_true, if_false, reduceIte, Nat.reduceEqDiff, Nat.reduceLT, Nat.reduceLeDiff, Nat.reduceAdd, Nat.reduceSub, ne_eq, reduceCtorEq, wKeys, wKey, Int.reduceToNat, Nat.reduceBEq]
    refine ⟨h1, ob_of (ix_at g0 (by omega)) ?_⟩
    try simp only [wpA1, wpA2, wpA3, wpA4, wpA5, wpA6, wpA7, implies_true, forall_const, ↓bc_t, ↓bc_f, rds, rd, tks, tks1, tk, brwArg, allW, mkTup, heldB, Op.pm, Op.wm, Op.watch, putIn, live, ownL, cArgs, apartArgs, outDs, putOuts, noBrw, takeSlot, shallow, isW, lateIn, Es.vars, Tg.set, setAll, wipeR, startE, initE, outsOf, if_true, if_false, reduceIte, Nat.reduceEqDiff, Nat.reduceLT, Nat.reduceLeDiff, Nat.reduceAdd, Nat.reduceSub, ne_eq, reduceCtorEq, wKeys, wKey, Int.reduceToNat, Nat.reduceBEq]
    exact hk _ ⟨_, _, rfl, by rw [List.length_set]; exact hc⟩
  · obtain ⟨c, x3, rfl, hc⟩ := h0
    try simp only [wpA1, wpA2, wpA3, wpA4, wpA5, wpA6, wpA7, implies_true, forall_const, ↓bc_t, ↓bc_f, rds, rd, tks, tks1, tk, brwArg, allW, mkTup, heldB, Op.pm, Op.wm, Op.watch, putIn, live, ownL, cArgs, apartArgs, outDs, putOuts, noBrw, takeSlot, shallow, isW, lateIn, Es.vars, Tg.set, setAll, wipeR, startE, initE, outsOf, if_true, if_false, reduceIte, Nat.reduceEqDiff, Nat.reduceLT, Nat.reduceLeDiff, Nat.reduceAdd, Nat.reduceSub, ne_eq, reduceCtorEq, wKeys, wKey, Int.reduceToNat, Nat.reduceBEq]
    refine k _ ?_
    unfold cutL
    rw [List.length_take, List.length_drop]
    omega
def d_clocksB : Def := ⟨["web", "rest", "start", "first"], ["web", "rest", "start", "first", "clocks", "turn", "many", "meets", "moment", "one", "other", "begin", "end", "clock"], [false, false, false, false],
 (.cons (.unp [6, 7] (.var 0))
 (.cons (.asg 4 (.op (.bin .mul) (.cons (.op .lst (.cons (.cst .non) .nil)) (.cons (.var 6) .nil))))
 (.cons (.setI 4 (.var 2) (.var 3))
 (.cons (.forS (.one 5) (.rng (.cons (.var 6) .nil))
 (.cons (.forS (.tup [8, 9, 10]) (.seq (.cons (.var 7) .nil))
 (.cons (.forS (.tup [11, 12]) (.seq (.cons (.op .tup (.cons (.op .tup (.cons (.var 9) (.cons (.var 10) .nil))) (.cons (.op .tup (.cons (.var 10) (.cons (.var 9) .nil))) .nil))) .nil))
 (.cons (.asg 13 (.op .idx (.cons (.var 4) (.cons (.var 11) .nil))))
 (.cons (.ifS (.and (.op (.cmp .notN) (.cons (.var 13) (.cons (.cst .non) .nil))) (.and (.op (.cmp .le) (.cons (.op (.bin .add) (.cons (.var 13) (.cons (.op (.bin .mul) (.cons (.var 1) (.cons (.op .int (.cons (.op (.cmp .ne) (.cons (.var 11) (.cons (.var 2) .nil))) .nil)) .nil))) .nil))) (.cons (.var 8) .nil))) (.op (.cmp .ne) (.cons (.var 12) (.cons (.var 2) .nil)))))
 (.cons (.ifS (.or (.op (.cmp .isN) (.cons (.op .idx (.cons (.var 4) (.cons (.var 12) .nil))) (.cons (.cst .non) .nil))) (.op (.cmp .lt) (.cons (.var 8) (.cons (.op .idx (.cons (.var 4) (.cons (.var 12) .nil))) .nil))))
 (.cons (.setI 4 (.var 12) (.var 8))
 .nil)
 .nil)
 .nil)
 .nil)
 .nil)))
 .nil))
 .nil))
 (.cons (.ret (.var 4))
 .nil)))))⟩
def T_clocksB : Tab := []
def sp_clocksB : FSpec := fun ds Q X => ∃ (g : Web) (rest start first : Int), ds = [dWeb g, dI rest, dI start, dI first] ∧ (WebA g ∧ 0 ≤ rest ∧ rest ≤ 10 ^ 9 ∧ 0 ≤ start ∧ start < g.n ∧ ∀ c, ClkOk (St3 g) rest start first g.n c → Q (.lst (dl wO c)) [])
def F_clocksB : Fn := ⟨"_law_clocks", [false, false, false, false], 1, sp_clocksB⟩
theorem fs_clocksB : F_clocksB.sig = [false, false, false, false] := rfl
theorem fp_clocksB : F_clocksB.spec = sp_clocksB := rfl
theorem mk_clocksB (g : Web) (rest start first : Int) (Q : Kn (D → List D → Prop)) (X : Kn (Ex → List D → Prop)) : sB sp_clocksB [dWeb g, dI rest, dI start, dI first] = (WebA g ∧ 0 ≤ rest ∧ rest ≤ 10 ^ 9 ∧ 0 ≤ start ∧ start < g.n ∧ ∀ c, ClkOk (St3 g) rest start first g.n c → Q.k (.lst (dl wO c)) []) := by
  refine propext ⟨fun h => ?_, fun h => ⟨g, rest, start, first, rfl, h⟩⟩
  obtain ⟨g', rest', start', first', e, h⟩ := h
  simp only [and_assoc, List.cons.injEq, and_true, true_and, D.w.injEq, D.lst.injEq, D.tup.injEq, D.fz.injEq, D.dK.injEq, D.dT.injEq, W.int.injEq, W.bl.injEq, W.tup.injEq, W.str.injEq, wWeb_inj, dl_inj3, dl_injI, map_inj3, map_injI, w3_inj, dl_injO, dl_injS, wO_inj, wS_inj, w2_inj, dl_inj2, wG_inj, dl_injG] at e
  obtain ⟨rfl, rfl, rfl, rfl⟩ := e
  exact h
theorem v_clocksB : Ver T_clocksB d_clocksB sp_clocksB := by
  intro ds Q1 X1 h
  obtain ⟨g, rest, start, first, rfl, hg, hr, hr9, s0, s1, k⟩ := h
  have n0 := hg.n0
  have n9 := hg.n9
  try simp only [d_clocksB, wpA1, wpA2, wpA3, wpA4, wpA5, wpA6, wpA7, implies_true, forall_const, ↓bc_t, ↓bc_f, rds, rd, tks, tks1, tk, brwArg, allW, mkTup, heldB, Op.pm, Op.wm, Op.watch, putIn, live, ownL, cArgs, apartArgs, outDs, putOuts, noBrw, takeSlot, shallow, isW, lateIn, Es.vars, Tg.set, setAll, wipeR, startE, initE, outsOf, if_true, if_false, reduceIte, Nat.reduceEqDiff, Nat.reduceLT, Nat.reduceLeDiff, Nat.reduceAdd, Nat.reduceSub, ne_eq, reduceCtorEq, wKeys, wKey, Int.reduceToNat, Nat.reduceBEq, eqA1, eqA2, repO, ix_at (n := g.n.toNat) s0 (show start < (g.n.toNat : Int) by omega)]
  obtain ⟨cs, tr, hs, ht⟩ := soon_exists hg.ok (rest := rest) (start := start) (first := first) hr s0 s1
  have hSn : ∀ m, St3 g m → InN g.n m := fun m hm => step_in hg.ok hm
  refine ⟨by omega, by omega, sz (by omega), s62 (by omega) (by omega), for_range (fun i ρ => ∃ c x5 x8 x9 x10 x11 x12 x13, ρ = [some (sw (wWeb g)), some (sw (.int rest)), some (sw (.int start)), some (sw (.int first)), some ⟨.own, .lst (dl wO c)⟩, x5, some (sw (.int g.n)), some (sw (.tup (g.ms.map w3))), x8, x9, x10, x11, x12, x13] ∧ ClkB (St3 g) rest start first g.n c ∧ (c = cs ∨ i < cor g.n c cs)) ⟨clk0 g.n start first, _, _, _, _, _, _, _, rfl, clk0_B s0 s1, .inr (cor_pos s0 s1 (clk0_B s0 s1) hs)⟩ (fun i ρ k2 hi h2 hk => ⟨stays_nil _, ?_⟩) fun ρ h2 => ⟨stays_nil _, ?_⟩⟩
  · obtain ⟨c, x5, x8, x9, x10, x11, x12, x13, rfl, hb, hc⟩ := h2
    try simp only [turnF, wpA1, wpA2, wpA3, wpA4, wpA5, wpA6, wpA7, implies_true, forall_const, ↓bc_t, ↓bc_f, rds, rd, tks, tks1, tk, brwArg, allW, mkTup, heldB, Op.pm, Op.wm, Op.watch, putIn, live, ownL, cArgs, apartArgs, outDs, putOuts, noBrw, takeSlot, shallow, isW, lateIn, Es.vars, Tg.set, setAll, wipeR, startE, initE, outsOf, if_true, if_false, reduceIte, Nat.reduceEqDiff, Nat.reduceLT, Nat.reduceLeDiff, Nat.reduceAdd, Nat.reduceSub, ne_eq, reduceCtorEq, wKeys, wKey, Int.reduceToNat, Nat.reduceBEq]
    refine for_rule (fun pre ρ => ∃ c' x8 x9 x10 x11 x12 x13, ρ = [some (sw (wWeb g)), some (sw (.int rest)), some (sw (.int start)), some (sw (.int first)), some ⟨.own, .lst (dl wO c')⟩, some (sw (.int (0 + (i : Int)))), some (sw (.int g.n)), some (sw (.tup (g.ms.map w3))), x8, x9, x10, x11, x12, x13] ∧ ClkB (St3 g) rest start first g.n c' ∧ Le c' c ∧ Cov (fun m => m ∈ pre.flatMap both) rest start first c c') ⟨c, _, _, _, _, _, _, rfl, hb, Le.refl c, fun _ h => nomatch h⟩ (fun pre x post ρ k3 e h3 hk3 => ?_) fun ρ h3 => ?_
    · obtain ⟨c', x8, x9, x10, x11, x12, x13, rfl, hb', hle, hcov⟩ := h3
      refine ⟨stays_one rfl, ?_⟩
      try simp only [turnF, wpA1, wpA2, wpA3, wpA4, wpA5, wpA6, wpA7, implies_true, forall_const, ↓bc_t, ↓bc_f, rds, rd, tks, tks1, tk, brwArg, allW, mkTup, heldB, Op.pm, Op.wm, Op.watch, putIn, live, ownL, cArgs, apartArgs, outDs, putOuts, noBrw, takeSlot, shallow, isW, lateIn, Es.vars, Tg.set, setAll, wipeR, startE, initE, outsOf, if_true, if_false, reduceIte, Nat.reduceEqDiff, Nat.reduceLT, Nat.reduceLeDiff, Nat.reduceAdd, Nat.reduceSub, ne_eq, reduceCtorEq, wKeys, wKey, Int.reduceToNat, Nat.reduceBEq]
      have hxm : x ∈ g.ms := by rw [e]; exact List.mem_append_right _ List.mem_cons_self
      have hS2 : ∀ q ∈ [(x.2.1, x.2.2), (x.2.2, x.2.1)], St3 g (x.1, q.1, q.2) := fun q hq => by
        simp only [List.mem_cons, List.not_mem_nil, or_false] at hq
        rcases hq with rfl | rfl
        · exact .inl hxm
        · exact .inr hxm
      have npre : ∀ m, m ∈ pre.flatMap both → 0 ≤ m.2.2 := fun m hm => (hSn m ((mem_steps (g := g)).mp (by
        unfold stepsOf
        rw [(srt_perm t3 _).mem_iff, e, List.flatMap_append]
        exact List.mem_append_left _ hm))).2.2.1
      refine for_rule (all := [(x.2.1, x.2.2), (x.2.2, x.2.1)]) (g := fun q => [sw (.tup [.int q.1, .int q.2])]) (fun pr ρ => ∃ c2 x11 x12 x13, ρ = [some (sw (wWeb g)), some (sw (.int rest)), some (sw (.int start)), some (sw (.int first)), some ⟨.own, .lst (dl wO c2)⟩, some (sw (.int (0 + (i : Int)))), some (sw (.int g.n)), some (sw (.tup (g.ms.map w3))), some (sw (.int x.1)), some (sw (.int x.2.1)), some (sw (.int x.2.2)), x11, x12, x13] ∧ ClkB (St3 g) rest start first g.n c2 ∧ Le c2 c' ∧ ∀ q ∈ pr, q.2 ≠ start → goB c rest start first (x.1, q.1, q.2) = true → ∃ s, ck c2 q.2 = some s ∧ s ≤ x.1) ⟨c', _, _, _, rfl, hb', Le.refl _, fun _ h => nomatch h⟩ (fun pr q po ρ k4 e4 h4 hk4 => ⟨stays_nil _, ?_⟩) fun ρ h4 => ⟨stays_nil _, ?_⟩
      · obtain ⟨c2, x11, x12, x13, rfl, hb2, hle2, hq2⟩ := h4
        have hqS := hS2 q (by rw [e4]; exact List.mem_append_right _ List.mem_cons_self)
        have hqN := hSn _ hqS
        obtain ⟨qa, qb⟩ := q
        have q0 : 0 ≤ qa := hqN.1
        have q1 : qa < c2.length := by rw [hb2.len]; have : qa < g.n := hqN.2.1; omega
        have q2 : 0 ≤ qb := hqN.2.2.1
        have q3 : qb < c2.length := by rw [hb2.len]; have : qb < g.n := hqN.2.2.2.1; omega
        have nb := hb2.step s0 hqS hqN
        have nle := stC_le (rest := rest) (start := start) (first := first) hqN hb2.len
        have fin : ∀ y11 y12 y13 c3, c3 = stC rest start first c2 (x.1, qa, qb) → k4 [some (sw (wWeb g)), some (sw (.int rest)), some (sw (.int start)), some (sw (.int first)), some ⟨.own, .lst (dl wO c3)⟩, some (sw (.int (0 + (i : Int)))), some (sw (.int g.n)), some (sw (.tup (g.ms.map w3))), some (sw (.int x.1)), some (sw (.int x.2.1)), some (sw (.int x.2.2)), y11, y12, y13] := fun y11 y12 y13 c3 e3 => by
          subst e3
          refine hk4 _ ⟨_, _, _, _, rfl, nb, nle.trans hle2, fun z hz hv hg => ?_⟩
          rcases List.mem_append.mp hz with hz | hz
          · obtain ⟨s, e5, k5⟩ := hq2 z hz hv hg
            obtain ⟨s', e6, k6⟩ := nle z.2 s (hSn _ (hS2 z (by rw [e4]; exact List.mem_append_left _ hz))).2.2.1 e5
            exact ⟨s', e6, by omega⟩
          · rw [List.mem_singleton] at hz
            subst hz
            exact stC_done hqN hb2.len hv (goB_le (hle2.trans hle) q0 hg)
        try simp only [turnF, wpA1, wpA2, wpA3, wpA4, wpA5, wpA6, wpA7, implies_true, forall_const, ↓bc_t, ↓bc_f, rds, rd, tks, tks1, tk, brwArg, allW, mkTup, heldB, Op.pm, Op.wm, Op.watch, putIn, live, ownL, cArgs, apartArgs, outDs, putOuts, noBrw, takeSlot, shallow, isW, lateIn, Es.vars, Tg.set, setAll, wipeR, startE, initE, outsOf, if_true, if_false, reduceIte, Nat.reduceEqDiff, Nat.reduceLT, Nat.reduceLeDiff, Nat.reduceAdd, Nat.reduceSub, ne_eq, reduceCtorEq, wKeys, wKey, Int.reduceToNat, Nat.reduceBEq, eqA1, eqA2, at_ck q0 q1, at_ck q2 q3]
        have same : (snB c2 start (x.1, qa, qb) && goB c2 rest start first (x.1, qa, qb)) = false → c2 = stC rest start first c2 (x.1, qa, qb) := fun h => (stC_same h).symm
        cases ea : ck c2 qa with
        | none =>
          try simp only [wpA1, wpA2, wpA3, wpA4, wpA5, wpA6, wpA7, implies_true, forall_const, ↓bc_t, ↓bc_f, rds, rd, tks, tks1, tk, brwArg, allW, mkTup, heldB, Op.pm, Op.wm, Op.watch, putIn, live, ownL, cArgs, apartArgs, outDs, putOuts, noBrw, takeSlot, shallow, isW, lateIn, Es.vars, Tg.set, setAll, wipeR, startE, initE, outsOf, if_true, if_false, reduceIte, Nat.reduceEqDiff, Nat.reduceLT, Nat.reduceLeDiff, Nat.reduceAdd, Nat.reduceSub, ne_eq, reduceCtorEq, wKeys, wKey, Int.reduceToNat, Nat.reduceBEq, eqA1, eqA2]
          refine fin _ _ _ _ (same ?_)
          have : goB c2 rest start first (x.1, qa, qb) = false := by
            rw [Bool.eq_false_iff]
            intro z
            rcases goB_iff.mp z with ⟨z, _⟩ | ⟨_, s, z, _⟩
            · have z : qa = start := z
              rw [z, hb2.st] at ea
              cases ea
            · have z : ck c2 qa = some s := z
              rw [ea] at z
              cases z
          rw [this, Bool.and_false]
        | some s =>
          try simp only [wpA1, wpA2, wpA3, wpA4, wpA5, wpA6, wpA7, implies_true, forall_const, ↓bc_t, ↓bc_f, rds, rd, tks, tks1, tk, brwArg, allW, mkTup, heldB, Op.pm, Op.wm, Op.watch, putIn, live, ownL, cArgs, apartArgs, outDs, putOuts, noBrw, takeSlot, shallow, isW, lateIn, Es.vars, Tg.set, setAll, wipeR, startE, initE, outsOf, if_true, if_false, reduceIte, Nat.reduceEqDiff, Nat.reduceLT, Nat.reduceLeDiff, Nat.reduceAdd, Nat.reduceSub, ne_eq, reduceCtorEq, wKeys, wKey, Int.reduceToNat, Nat.reduceBEq, eqA1, eqA2]
          have eg : goB c2 rest start first (x.1, qa, qb) = decide (s + rest * (if (!decide (qa = start)) = true then 1 else 0) ≤ x.1) := by
            unfold goB
            by_cases z : qa = start
            · have : s = first := by
                rw [z, hb2.st] at ea
                cases ea
                rfl
              rw [if_pos z, decide_eq_true z, this]
              simp
            · show (if qa = start then _ else match ck c2 qa with | none => false | some s => decide (s + rest ≤ x.1)) = _
              rw [if_neg z, ea, decide_eq_false z]
              simp
          refine ⟨cmul_l (by omega) (by omega), ?_⟩
          rw [← eg]
          refine bc_of (fun hc1 => ?_) fun hc1 => fin _ _ _ _ (same ?_)
          · obtain ⟨g1, g2⟩ := (Bool.and_eq_true _ _).mp hc1
            have qs : qb ≠ start := of_decide_eq_false (by simpa using g2)
            try simp only [wpA1, wpA2, wpA3, wpA4, wpA5, wpA6, wpA7, implies_true, forall_const, ↓bc_t, ↓bc_f, rds, rd, tks, tks1, tk, brwArg, allW, mkTup, heldB, Op.pm, Op.wm, Op.watch, putIn, live, ownL, cArgs, apartArgs, outDs, putOuts, noBrw, takeSlot, shallow, isW, lateIn, Es.vars, Tg.set, setAll, wipeR, startE, initE, outsOf, if_true, if_false, reduceIte, Nat.reduceEqDiff, Nat.reduceLT, Nat.reduceLeDiff, Nat.reduceAdd, Nat.reduceSub, ne_eq, reduceCtorEq, wKeys, wKey, Int.reduceToNat, Nat.reduceBEq, eqA1, eqA2, at_ck q2 q3]
            have done : snB c2 start (x.1, qa, qb) = true → c2.set qb.toNat (some x.1) = stC rest start first c2 (x.1, qa, qb) := fun z => by
              unfold stC
              rw [if_pos (by rw [z, g1]; rfl)]
            cases eb : ck c2 qb with
            | none =>
              try simp only [wpA1, wpA2, wpA3, wpA4, wpA5, wpA6, wpA7, implies_true, forall_const, ↓bc_t, ↓bc_f, rds, rd, tks, tks1, tk, brwArg, allW, mkTup, heldB, Op.pm, Op.wm, Op.watch, putIn, live, ownL, cArgs, apartArgs, outDs, putOuts, noBrw, takeSlot, shallow, isW, lateIn, Es.vars, Tg.set, setAll, wipeR, startE, initE, outsOf, if_true, if_false, reduceIte, Nat.reduceEqDiff, Nat.reduceLT, Nat.reduceLeDiff, Nat.reduceAdd, Nat.reduceSub, ne_eq, reduceCtorEq, wKeys, wKey, Int.reduceToNat, Nat.reduceBEq, eqA1, eqA2]
              refine ob_of (ix_at q2 (by omega)) ?_
              try simp only [wpA1, wpA2, wpA3, wpA4, wpA5, wpA6, wpA7, implies_true, forall_const, ↓bc_t, ↓bc_f, rds, rd, tks, tks1, tk, brwArg, allW, mkTup, heldB, Op.pm, Op.wm, Op.watch, putIn, live, ownL, cArgs, apartArgs, outDs, putOuts, noBrw, takeSlot, shallow, isW, lateIn, Es.vars, Tg.set, setAll, wipeR, startE, initE, outsOf, if_true, if_false, reduceIte, Nat.reduceEqDiff, Nat.reduceLT, Nat.reduceLeDiff, Nat.reduceAdd, Nat.reduceSub, ne_eq, reduceCtorEq, wKeys, wKey, Int.reduceToNat, Nat.reduceBEq, eqA1, eqA2]
              refine fin _ _ _ _ (done ?_)
              show (if qb = start then false else match ck c2 qb with | none => true | some s => decide (x.1 < s)) = true
              rw [if_neg qs, eb]
            | some t =>
              try simp only [wpA1, wpA2, wpA3, wpA4, wpA5, wpA6, wpA7, implies_true, forall_const, ↓bc_t, ↓bc_f, rds, rd, tks, tks1, tk, brwArg, allW, mkTup, heldB, Op.pm, Op.wm, Op.watch, putIn, live, ownL, cArgs, apartArgs, outDs, putOuts, noBrw, takeSlot, shallow, isW, lateIn, Es.vars, Tg.set, setAll, wipeR, startE, initE, outsOf, if_true, if_false, reduceIte, Nat.reduceEqDiff, Nat.reduceLT, Nat.reduceLeDiff, Nat.reduceAdd, Nat.reduceSub, ne_eq, reduceCtorEq, wKeys, wKey, Int.reduceToNat, Nat.reduceBEq, eqA1, eqA2, at_ck q2 q3, eb]
              have es : snB c2 start (x.1, qa, qb) = decide (x.1 < t) := by
                show (if qb = start then false else match ck c2 qb with | none => true | some s => decide (x.1 < s)) = _
                rw [if_neg qs, eb]
              refine bc_of (fun z => ?_) fun z => fin _ _ _ _ (same (by rw [es, z]; rfl))
              refine ob_of (ix_at q2 (by omega)) ?_
              try simp only [wpA1, wpA2, wpA3, wpA4, wpA5, wpA6, wpA7, implies_true, forall_const, ↓bc_t, ↓bc_f, rds, rd, tks, tks1, tk, brwArg, allW, mkTup, heldB, Op.pm, Op.wm, Op.watch, putIn, live, ownL, cArgs, apartArgs, outDs, putOuts, noBrw, takeSlot, shallow, isW, lateIn, Es.vars, Tg.set, setAll, wipeR, startE, initE, outsOf, if_true, if_false, reduceIte, Nat.reduceEqDiff, Nat.reduceLT, Nat.reduceLeDiff, Nat.reduceAdd, Nat.reduceSub, ne_eq, reduceCtorEq, wKeys, wKey, Int.reduceToNat, Nat.reduceBEq, eqA1, eqA2]
              exact fin _ _ _ _ (done (by rw [es]; exact z))
          · by_cases z : qb = start
            · have : snB c2 start (x.1, qa, qb) = false := by
                show (if qb = start then false else _) = false
                rw [if_pos z]
              rw [this]
              rfl
            · rw [decide_eq_false z, Bool.not_false, Bool.and_true] at hc1
              rw [hc1, Bool.and_false]
      · obtain ⟨c2, x11, x12, x13, rfl, hb2, hle2, hq2⟩ := h4
        try simp only [wpA1, wpA2, wpA3, wpA4, wpA5, wpA6, wpA7, implies_true, forall_const, ↓bc_t, ↓bc_f, rds, rd, tks, tks1, tk, brwArg, allW, mkTup, heldB, Op.pm, Op.wm, Op.watch, putIn, live, ownL, cArgs, apartArgs, outDs, putOuts, noBrw, takeSlot, shallow, isW, lateIn, Es.vars, Tg.set, setAll, wipeR, startE, initE, outsOf, if_true, if_false, reduceIte, Nat.reduceEqDiff, Nat.reduceLT, Nat.reduceLeDiff, Nat.reduceAdd, Nat.reduceSub, ne_eq, reduceCtorEq, wKeys, wKey, Int.reduceToNat, Nat.reduceBEq]
        refine hk3 _ ⟨c2, _, _, _, _, _, _, rfl, hb2, hle2.trans hle, fun m hm hv hg => ?_⟩
        rw [List.flatMap_append] at hm
        rcases List.mem_append.mp hm with hm | hm
        · exact (hcov.le npre hle2) m hm hv hg
        · simp only [List.flatMap_cons, List.flatMap_nil, List.append_nil, both, List.mem_cons, List.not_mem_nil, or_false] at hm
          rcases hm with rfl | rfl
          · exact hq2 (m.2.1, m.2.2) List.mem_cons_self hv hg
          · exact hq2 (x.2.2, x.2.1) (List.mem_cons_of_mem _ List.mem_cons_self) hv hg
    · obtain ⟨c', x8, x9, x10, x11, x12, x13, rfl, hb', hle, hcov⟩ := h3
      refine ⟨stays_one rfl, ?_⟩
      try simp only [wpA1, wpA2, wpA3, wpA4, wpA5, wpA6, wpA7, implies_true, forall_const, ↓bc_t, ↓bc_f, rds, rd, tks, tks1, tk, brwArg, allW, mkTup, heldB, Op.pm, Op.wm, Op.watch, putIn, live, ownL, cArgs, apartArgs, outDs, putOuts, noBrw, takeSlot, shallow, isW, lateIn, Es.vars, Tg.set, setAll, wipeR, startE, initE, outsOf, if_true, if_false, reduceIte, Nat.reduceEqDiff, Nat.reduceLT, Nat.reduceLeDiff, Nat.reduceAdd, Nat.reduceSub, ne_eq, reduceCtorEq, wKeys, wKey, Int.reduceToNat, Nat.reduceBEq]
      refine hk _ ⟨c', _, _, _, _, _, _, _, rfl, hb', ?_⟩
      have cov : Cov (St3 g) rest start first c c' := fun m hm => hcov m (by
        have := (mem_steps (g := g)).mpr hm
        unfold stepsOf at this
        exact (srt_perm t3 _).mem_iff.mp this)
      rcases cor_grow hr hs ht hSn hb hb' hle cov with z | z
      · exact .inl z
      · rcases hc with hc | hc
        · exact .inl (hb'.eq_of_le hr hs (by rw [← hc]; exact hle))
        · exact .inr (by omega)
  · obtain ⟨c, x5, x8, x9, x10, x11, x12, x13, rfl, hb, hc⟩ := h2
    try simp only [wpA1, wpA2, wpA3, wpA4, wpA5, wpA6, wpA7, implies_true, forall_const, ↓bc_t, ↓bc_f, rds, rd, tks, tks1, tk, brwArg, allW, mkTup, heldB, Op.pm, Op.wm, Op.watch, putIn, live, ownL, cArgs, apartArgs, outDs, putOuts, noBrw, takeSlot, shallow, isW, lateIn, Es.vars, Tg.set, setAll, wipeR, startE, initE, outsOf, if_true, if_false, reduceIte, Nat.reduceEqDiff, Nat.reduceLT, Nat.reduceLeDiff, Nat.reduceAdd, Nat.reduceSub, ne_eq, reduceCtorEq, wKeys, wKey, Int.reduceToNat, Nat.reduceBEq]
    refine k c ?_
    rcases hc with rfl | hc
    · exact hs
    · have := cor_le (n := g.n) (c := c) (cs := cs)
      omega
end Wm
namespace Wm
open PySem PySem.Spec PyProof.Rows L2
abbrev pot (n m : Int) : D := .lst [dI n, dI m]
def PotOk (n m : Int) : Prop := 0 ≤ n ∧ 0 ≤ m ∧ m < 2 ^ 31
def d_take : Def := ⟨["pot", "many"], ["pot", "many", "digit"], [true, false],
 (.cons (.ifS (.op (.cmp .eq) (.cons (.op .idx (.cons (.var 0) (.cons (.cst (.int 0)) .nil))) (.cons (.cst (.int 0)) .nil)))
 (.cons (.setI 0 (.cst (.int 1)) (.op (.bin .mod) (.cons (.op (.bin .add) (.cons (.op (.bin .mul) (.cons (.op .idx (.cons (.var 0) (.cons (.cst (.int 1)) .nil))) (.cons (.cst (.int 48271)) .nil))) (.cons (.cst (.int 7919)) .nil))) (.cons (.cst (.int 2147483647)) .nil))))
 (.cons (.ret (.op (.bin .mod) (.cons (.op (.bin .fdiv) (.cons (.op (.bin .mod) (.cons (.op (.bin .mul) (.cons (.op .idx (.cons (.var 0) (.cons (.cst (.int 1)) .nil))) (.cons (.op .idx (.cons (.var 0) (.cons (.cst (.int 1)) .nil))) .nil))) (.cons (.cst (.int 2147483629)) .nil))) (.cons (.cst (.int 64)) .nil))) (.cons (.var 1) .nil))))
 .nil))
 .nil)
 (.cons (.asg 2 (.op (.bin .mod) (.cons (.op .idx (.cons (.var 0) (.cons (.cst (.int 0)) .nil))) (.cons (.var 1) .nil))))
 (.cons (.setI 0 (.cst (.int 0)) (.op (.bin .fdiv) (.cons (.op .idx (.cons (.var 0) (.cons (.cst (.int 0)) .nil))) (.cons (.var 1) .nil))))
 (.cons (.ret (.var 2))
 .nil))))⟩
def T_take : Tab := []
def sp_take : FSpec := fun ds Q X => ∃ (n m many : Int), ds = [pot n m, dI many] ∧ (PotOk n m ∧ 0 < many ∧ many < 2 ^ 200 ∧ ∀ n' m' d, PotOk n' m' → 0 ≤ d → d < many → Q (dI d) [pot n' m'])
def F_take : Fn := ⟨"_law_take", [true, false], 1, sp_take⟩
theorem fs_take : F_take.sig = [true, false] := rfl
theorem fp_take : F_take.spec = sp_take := rfl
theorem mk_take (n m many : Int) (Q : Kn (D → List D → Prop)) (X : Kn (Ex → List D → Prop)) : sB sp_take [pot n m, dI many] = (PotOk n m ∧ 0 < many ∧ many < 2 ^ 200 ∧ ∀ n' m' d, PotOk n' m' → 0 ≤ d → d < many → Q.k (dI d) [pot n' m']) := by
  refine propext ⟨fun h => ?_, fun h => ⟨n, m, many, rfl, h⟩⟩
  obtain ⟨n', m', many', e, h⟩ := h
  simp only [and_assoc, List.cons.injEq, and_true, true_and, D.w.injEq, D.lst.injEq, D.tup.injEq, D.fz.injEq, D.dK.injEq, D.dT.injEq, W.int.injEq, W.bl.injEq, W.tup.injEq, W.str.injEq, wWeb_inj, dl_inj3, dl_injI, map_inj3, map_injI, w3_inj, dl_injO, dl_injS, wO_inj, wS_inj, w2_inj, dl_inj2, wG_inj, dl_injG] at e
  obtain ⟨rfl, rfl, rfl⟩ := e
  exact h
theorem v_take : Ver T_take d_take sp_take := by
  intro ds Q1 X1 h
  obtain ⟨n, m, many, rfl, ⟨hn, hm, hm2⟩, h0, h1, k⟩ := h
  try simp only [d_take, wpA1, wpA2, wpA3, wpA4, wpA5, wpA6, wpA7, implies_true, forall_const, ↓bc_t, ↓bc_f, rds, rd, tks, tks1, tk, brwArg, allW, mkTup, heldB, Op.pm, Op.wm, Op.watch, putIn, live, ownL, cArgs, apartArgs, outDs, putOuts, noBrw, takeSlot, shallow, isW, lateIn, Es.vars, Tg.set, setAll, wipeR, startE, initE, outsOf, if_true, if_false, reduceIte, Nat.reduceEqDiff, Nat.reduceLT, Nat.reduceLeDiff, Nat.reduceAdd, Nat.reduceSub, ne_eq, reduceCtorEq, wKeys, wKey, Int.reduceToNat, Nat.reduceBEq]
  refine bc_dec (fun e => ?_) fun e => ?_
  · exact ⟨cmul_r (by decide) (by decide), by decide, cmul_l (by omega) (by omega), by decide, cdiv (by decide) (by decide), h0, k _ _ _ ⟨hn, by omega, by omega⟩ (Int.emod_nonneg _ (by omega)) (Int.emod_lt_of_pos _ h0)⟩
  · exact ⟨h0, cdivB h0 h1, k _ _ _ ⟨Int.ediv_nonneg hn (by omega), hm, hm2⟩ (Int.emod_nonneg _ (by omega)) (Int.emod_lt_of_pos _ h0)⟩
def d_pot : Def := ⟨["cell"], ["cell", "number", "one", "k", "two"], [false],
 (.cons (.ifS (.op (.cmp .ge) (.cons (.var 0) (.cons (.op (.bin .pow) (.cons (.cst (.int 10)) (.cons (.cst (.int 18)) .nil))) .nil)))
 (.cons (.ret (.op .lst (.cons (.op (.bin .sub) (.cons (.var 0) (.cons (.op (.bin .pow) (.cons (.cst (.int 10)) (.cons (.cst (.int 18)) .nil))) .nil))) (.cons (.op (.bin .add) (.cons (.op (.bin .mod) (.cons (.var 0) (.cons (.cst (.int 1000000007)) .nil))) (.cons (.cst (.int 1)) .nil))) .nil))))
 .nil)
 .nil)
 (.cons (.asg 1 (.cst (.int 0)))
 (.cons (.asg 2 (.op (.bin .add) (.cons (.op (.bin .mod) (.cons (.var 0) (.cons (.cst (.int 2147483647)) .nil))) (.cons (.cst (.int 16807)) .nil))))
 (.cons (.forS (.one 3) (.rng (.cons (.cst (.int 48)) .nil))
 (.cons (.asg 2 (.op (.bin .mod) (.cons (.op (.bin .add) (.cons (.op (.bin .add) (.cons (.op (.bin .mul) (.cons (.var 2) (.cons (.cst (.int 48271)) .nil))) (.cons (.op (.bin .mul) (.cons (.op (.bin .mul) (.cons (.cst (.int 7919)) (.cons (.var 3) .nil))) (.cons (.var 3) .nil))) .nil))) (.cons (.cst (.int 104729)) .nil))) (.cons (.cst (.int 2147483647)) .nil))))
 (.cons (.asg 4 (.op (.bin .mod) (.cons (.op (.bin .mul) (.cons (.var 2) (.cons (.var 2) .nil))) (.cons (.cst (.int 2147483629)) .nil))))
 (.cons (.asg 1 (.op (.bin .add) (.cons (.op (.bin .mul) (.cons (.var 1) (.cons (.cst (.int 65536)) .nil))) (.cons (.op (.bin .mod) (.cons (.op (.bin .fdiv) (.cons (.var 4) (.cons (.cst (.int 512)) .nil))) (.cons (.cst (.int 65536)) .nil))) .nil))))
 .nil))))
 (.cons (.ret (.op .lst (.cons (.var 1) (.cons (.op (.bin .add) (.cons (.op (.bin .mod) (.cons (.var 0) (.cons (.cst (.int 1000000007)) .nil))) (.cons (.cst (.int 1)) .nil))) .nil))))
 .nil)))))⟩
def T_pot : Tab := []
def sp_pot : FSpec := fun ds Q X => ∃ (c : Int), ds = [dI c] ∧ (∀ n m, PotOk n m → Q (pot n m) [])
def F_pot : Fn := ⟨"_law_pot", [false], 1, sp_pot⟩
theorem fs_pot : F_pot.sig = [false] := rfl
theorem fp_pot : F_pot.spec = sp_pot := rfl
theorem mk_pot (c : Int) (Q : Kn (D → List D → Prop)) (X : Kn (Ex → List D → Prop)) : sB sp_pot [dI c] = (∀ n m, PotOk n m → Q.k (pot n m) []) := by
  refine propext ⟨fun h => ?_, fun h => ⟨c, rfl, h⟩⟩
  obtain ⟨c', e, h⟩ := h
  simp only [and_assoc, List.cons.injEq, and_true, true_and, D.w.injEq, D.lst.injEq, D.tup.injEq, D.fz.injEq, D.dK.injEq, D.dT.injEq, W.int.injEq, W.bl.injEq, W.tup.injEq, W.str.injEq, wWeb_inj, dl_inj3, dl_injI, map_inj3, map_injI, w3_inj, dl_injO, dl_injS, wO_inj, wS_inj, w2_inj, dl_inj2, wG_inj, dl_injG] at e
  obtain rfl := e
  exact h
theorem v_pot : Ver T_pot d_pot sp_pot := by
  intro ds Q1 X1 h
  obtain ⟨cell, rfl, h⟩ := h
  try simp only [d_pot, wpA1, wpA2, wpA3, wpA4, wpA5, wpA6, wpA7, implies_true, forall_const, ↓bc_t, ↓bc_f, rds, rd, tks, tks1, tk, brwArg, allW, mkTup, heldB, Op.pm, Op.wm, Op.watch, putIn, live, ownL, cArgs, apartArgs, outDs, putOuts, noBrw, takeSlot, shallow, isW, lateIn, Es.vars, Tg.set, setAll, wipeR, startE, initE, outsOf, if_true, if_false, reduceIte, Nat.reduceEqDiff, Nat.reduceLT, Nat.reduceLeDiff, Nat.reduceAdd, Nat.reduceSub, ne_eq, reduceCtorEq, wKeys, wKey, Int.reduceToNat, Nat.reduceBEq]
  refine ⟨⟨by decide, by decide, by decide⟩, bc_dec (fun e => ?_) fun e => ?_⟩
  · exact ⟨⟨by decide, by decide, by decide⟩, by decide, h _ _ ⟨by omega, by omega, by omega⟩⟩
  · refine ⟨by decide, ?_⟩
    try simp only [st_for, rngWp, wpA1, wpA2, wpA3, wpA4, wpA5, wpA6, wpA7, implies_true, forall_const, ↓bc_t, ↓bc_f, rds, rd, tks, tks1, tk, brwArg, allW, mkTup, heldB, Op.pm, Op.wm, Op.watch, putIn, live, ownL, cArgs, apartArgs, outDs, putOuts, noBrw, takeSlot, shallow, isW, lateIn, Es.vars, Tg.set, setAll, wipeR, startE, initE, outsOf, if_true, if_false, reduceIte, Nat.reduceEqDiff, Nat.reduceLT, Nat.reduceLeDiff, Nat.reduceAdd, Nat.reduceSub, ne_eq, reduceCtorEq, wKeys, wKey, Int.reduceToNat, Nat.reduceBEq]
    refine ⟨⟨by decide, by decide⟩, for_range (fun i ρ => ∃ a b c d, ρ = [some (sw (.int cell)), some (sw (.int a)), some (sw (.int b)), c, d] ∧ 0 ≤ a ∧ 0 ≤ b ∧ b < 2 ^ 40) ⟨_, _, _, _, rfl, by omega, by omega, by omega⟩ (fun i ρ k hi h0 hk => ⟨stays_nil _, ?_⟩) fun ρ h0 => ⟨stays_nil _, ?_⟩⟩
    · obtain ⟨a, b, c, d, rfl, ha, hb, hb2⟩ := h0
      have hi : i < 48 := hi
      try simp only [turnF, wpA1, wpA2, wpA3, wpA4, wpA5, wpA6, wpA7, implies_true, forall_const, ↓bc_t, ↓bc_f, rds, rd, tks, tks1, tk, brwArg, allW, mkTup, heldB, Op.pm, Op.wm, Op.watch, putIn, live, ownL, cArgs, apartArgs, outDs, putOuts, noBrw, takeSlot, shallow, isW, lateIn, Es.vars, Tg.set, setAll, wipeR, startE, initE, outsOf, if_true, if_false, reduceIte, Nat.reduceEqDiff, Nat.reduceLT, Nat.reduceLeDiff, Nat.reduceAdd, Nat.reduceSub, ne_eq, reduceCtorEq, wKeys, wKey, Int.reduceToNat, Nat.reduceBEq]
      refine ⟨cmul_r (by decide) (by decide), cmul_l (by decide) (by decide), cmul_r (by omega) (by omega), by decide, cmul_l (by omega) (by omega), by decide, cmul_r (by decide) (by decide), cdiv (by decide) (by decide), by decide, hk _ ⟨_, _, _, _, rfl, by omega, by omega, by omega⟩⟩
    · obtain ⟨a, b, c, d, rfl, ha, hb, hb2⟩ := h0
      try simp only [wpA1, wpA2, wpA3, wpA4, wpA5, wpA6, wpA7, implies_true, forall_const, ↓bc_t, ↓bc_f, rds, rd, tks, tks1, tk, brwArg, allW, mkTup, heldB, Op.pm, Op.wm, Op.watch, putIn, live, ownL, cArgs, apartArgs, outDs, putOuts, noBrw, takeSlot, shallow, isW, lateIn, Es.vars, Tg.set, setAll, wipeR, startE, initE, outsOf, if_true, if_false, reduceIte, Nat.reduceEqDiff, Nat.reduceLT, Nat.reduceLeDiff, Nat.reduceAdd, Nat.reduceSub, ne_eq, reduceCtorEq, wKeys, wKey, Int.reduceToNat, Nat.reduceBEq]
      exact ⟨by decide, h _ _ ⟨ha, by omega, by omega⟩⟩
def d_moment : Def := ⟨["pot", "way"], ["pot", "way"], [true, false],
 (.cons (.ifS (.op (.cmp .lt) (.cons (.var 1) (.cons (.cst (.int 2)) .nil)))
 (.cons (.ret (.call "_law_take" (.cons (.var 0) (.cons (.op .idx (.cons (.op .lst (.cons (.cst (.int 7)) (.cons (.cst (.int 31)) .nil))) (.cons (.var 1) .nil))) .nil))))
 .nil)
 .nil)
 (.cons (.ifS (.op (.cmp .eq) (.cons (.var 1) (.cons (.cst (.int 2)) .nil)))
 (.cons (.ret (.op (.bin .sub) (.cons (.op (.bin .mul) (.cons (.cst (.int 3)) (.cons (.call "_law_take" (.cons (.var 0) (.cons (.cst (.int 9)) .nil))) .nil))) (.cons (.cst (.int 6)) .nil))))
 .nil)
 .nil)
 (.cons (.ifS (.op (.cmp .eq) (.cons (.var 1) (.cons (.cst (.int 3)) .nil)))
 (.cons (.ret (.op (.bin .sub) (.cons (.call "_law_take" (.cons (.var 0) (.cons (.cst (.int 21)) .nil))) (.cons (.cst (.int 10)) .nil))))
 .nil)
 .nil)
 (.cons (.ifS (.op (.cmp .eq) (.cons (.var 1) (.cons (.cst (.int 4)) .nil)))
 (.cons (.ret (.op (.bin .mul) (.cons (.op (.bin .sub) (.cons (.op (.bin .pow) (.cons (.cst (.int 10)) (.cons (.cst (.int 9)) .nil))) (.cons (.call "_law_take" (.cons (.var 0) (.cons (.cst (.int 4)) .nil))) .nil))) (.cons (.op (.bin .sub) (.cons (.cst (.int 1)) (.cons (.op (.bin .mul) (.cons (.cst (.int 2)) (.cons (.call "_law_take" (.cons (.var 0) (.cons (.cst (.int 2)) .nil))) .nil))) .nil))) .nil))))
 .nil)
 .nil)
 (.cons (.ret (.op (.bin .mul) (.cons (.op (.bin .pow) (.cons (.cst (.int 10)) (.cons (.cst (.int 8)) .nil))) (.cons (.call "_law_take" (.cons (.var 0) (.cons (.cst (.int 11)) .nil))) .nil))))
 .nil)))))⟩
def T_moment : Tab := [F_take]
theorem tf_moment_take : T_moment.find "_law_take" = some F_take := rfl
def sp_moment : FSpec := fun ds Q X => ∃ (n m way : Int), ds = [pot n m, dI way] ∧ (PotOk n m ∧ 0 ≤ way ∧ way < 6 ∧ ∀ n' m' d, PotOk n' m' → -(10 ^ 9) ≤ d → d ≤ 10 ^ 9 → Q (dI d) [pot n' m'])
def F_moment : Fn := ⟨"_law_moment", [true, false], 2, sp_moment⟩
theorem fs_moment : F_moment.sig = [true, false] := rfl
theorem fp_moment : F_moment.spec = sp_moment := rfl
theorem mk_moment (n m way : Int) (Q : Kn (D → List D → Prop)) (X : Kn (Ex → List D → Prop)) : sB sp_moment [pot n m, dI way] = (PotOk n m ∧ 0 ≤ way ∧ way < 6 ∧ ∀ n' m' d, PotOk n' m' → -(10 ^ 9) ≤ d → d ≤ 10 ^ 9 → Q.k (dI d) [pot n' m']) := by
  refine propext ⟨fun h => ?_, fun h => ⟨n, m, way, rfl, h⟩⟩
  obtain ⟨n', m', way', e, h⟩ := h
  simp only [and_assoc, List.cons.injEq, and_true, true_and, D.w.injEq, D.lst.injEq, D.tup.injEq, D.fz.injEq, D.dK.injEq, D.dT.injEq, W.int.injEq, W.bl.injEq, W.tup.injEq, W.str.injEq, wWeb_inj, dl_inj3, dl_injI, map_inj3, map_injI, w3_inj, dl_injO, dl_injS, wO_inj, wS_inj, w2_inj, dl_inj2, wG_inj, dl_injG] at e
  obtain ⟨rfl, rfl, rfl⟩ := e
  exact h
theorem v_moment : Ver T_moment d_moment sp_moment := by
  intro ds Q1 X1 h
  obtain ⟨n, m, way, rfl, hp, h0, h1, k⟩ := h
  try simp only [d_moment, wpA1, wpA2, wpA3, wpA4, wpA5, wpA6, wpA7, implies_true, forall_const, ↓bc_t, ↓bc_f, rds, rd, tks, tks1, tk, brwArg, allW, mkTup, heldB, Op.pm, Op.wm, Op.watch, putIn, live, ownL, cArgs, apartArgs, outDs, putOuts, noBrw, takeSlot, shallow, isW, lateIn, Es.vars, Tg.set, setAll, wipeR, startE, initE, outsOf, if_true, if_false, reduceIte, Nat.reduceEqDiff, Nat.reduceLT, Nat.reduceLeDiff, Nat.reduceAdd, Nat.reduceSub, ne_eq, reduceCtorEq, wKeys, wKey, Int.reduceToNat, Nat.reduceBEq, tf_moment_take, fs_take, fp_take, mk_take]
  refine bc_dec (fun e => ?_) fun e => bc_dec (fun e => ?_) fun e => bc_dec (fun e => ?_) fun e => bc_dec (fun e => ?_) fun e => ?_
  · have : way = 0 ∨ way = 1 := by omega
    rcases this with rfl | rfl <;> try simp only [wpA1, wpA2, wpA3, wpA4, wpA5, wpA6, wpA7, implies_true, forall_const, ↓bc_t, ↓bc_f, rds, rd, tks, tks1, tk, brwArg, allW, mkTup, heldB, Op.pm, Op.wm, Op.watch, putIn, live, ownL, cArgs, apartArgs, outDs, putOuts, noBrw, takeSlot, shallow, isW, lateIn, Es.vars, Tg.set, setAll, wipeR, startE, initE, outsOf, if_true, if_false, reduceIte, Nat.reduceEqDiff, Nat.reduceLT, Nat.reduceLeDiff, Nat.reduceAdd, Nat.reduceSub, ne_eq, reduceCtorEq, wKeys, wKey, Int.reduceToNat, Nat.reduceBEq, tf_moment_take, fs_take, fp_take, mk_take]
    · exact ⟨hp, by decide, by decide, fun n' m' d h a b => k _ _ _ h (by omega) (by omega)⟩
    · exact ⟨hp, by decide, by decide, fun n' m' d h a b => k _ _ _ h (by omega) (by omega)⟩
  · exact ⟨hp, by decide, by decide, fun n' m' d h a b => ⟨cmul_l (by decide) (by decide), k _ _ _ h (by omega) (by omega)⟩⟩
  · exact ⟨hp, by decide, by decide, fun n' m' d h a b => k _ _ _ h (by omega) (by omega)⟩
  · refine ⟨⟨by decide, by decide, by decide⟩, hp, by decide, by decide, fun n' m' d h a b => ⟨h, by decide, by decide, fun n2 m2 d2 h2 a2 b2 => ⟨cmul_l (by decide) (by decide), cmul_l ?_ ?_, k n2 m2 _ h2 ?_ ?_⟩⟩⟩
    · show -(2 ^ 64) < (10 : Int) ^ 9 - d
      omega
    · show (10 : Int) ^ 9 - d < 2 ^ 64
      omega
    all_goals
      have e : d2 = 0 ∨ d2 = 1 := by omega
      show _ ≤ (_ : Int)
      rcases e with rfl | rfl <;> omega
  · exact ⟨⟨by decide, by decide, by decide⟩, hp, by decide, by decide, fun n' m' d h a b => ⟨cmul_l (by decide) (by decide), k _ _ _ h (by omega) (by omega)⟩⟩
def d_web : Def := ⟨["pot"], ["pot", "many", "way", "known", "k", "moment", "one", "other"], [true],
 (.cons (.asg 1 (.op (.bin .add) (.cons (.cst (.int 1)) (.cons (.call "_law_take" (.cons (.var 0) (.cons (.cst (.int 7)) .nil))) .nil))))
 (.cons (.asg 2 (.call "_law_take" (.cons (.var 0) (.cons (.cst (.int 6)) .nil))))
 (.cons (.asg 3 (.op .dnewT .nil))
 (.cons (.forS (.one 4) (.rng (.cons (.op .idx (.cons (.op .lst (.cons (.call "_law_take" (.cons (.var 0) (.cons (.cst (.int 25)) .nil))) (.cons (.cst (.int 24)) (.cons (.call "_law_take" (.cons (.var 0) (.cons (.cst (.int 9)) .nil))) (.cons (.cst (.int 30)) .nil))))) (.cons (.call "_law_take" (.cons (.var 0) (.cons (.cst (.int 4)) .nil))) .nil))) .nil))
 (.cons (.asg 5 (.call "_law_moment" (.cons (.var 0) (.cons (.var 2) .nil))))
 (.cons (.asg 6 (.call "_law_take" (.cons (.var 0) (.cons (.var 1) .nil))))
 (.cons (.asg 7 (.op (.bin .mod) (.cons (.op (.bin .add) (.cons (.op (.bin .add) (.cons (.var 6) (.cons (.cst (.int 1)) .nil))) (.cons (.call "_law_take" (.cons (.var 0) (.cons (.op .max2 (.cons (.cst (.int 1)) (.cons (.op (.bin .sub) (.cons (.var 1) (.cons (.cst (.int 1)) .nil))) .nil))) .nil))) .nil))) (.cons (.var 1) .nil))))
 (.cons (.ifS (.and (.op (.cmp .ne) (.cons (.var 6) (.cons (.var 7) .nil))) (.op (.cmp .lt) (.cons (.op .len (.cons (.var 3) .nil)) (.cons (.cst (.int 24)) .nil))))
 (.cons (.setI 3 (.op .tup (.cons (.var 5) (.cons (.op .min2 (.cons (.var 6) (.cons (.var 7) .nil))) (.cons (.op .max2 (.cons (.var 6) (.cons (.var 7) .nil))) .nil)))) (.cst (.bl true)))
 .nil)
 .nil)
 .nil)))))
 (.cons (.ret (.op .tup (.cons (.var 1) (.cons (.op .tuple (.cons (.op .sorted (.cons (.var 3) .nil)) .nil)) .nil))))
 .nil)))))⟩
def T_web : Tab := [F_take, F_moment]
theorem tf_web_take : T_web.find "_law_take" = some F_take := rfl
theorem tf_web_moment : T_web.find "_law_moment" = some F_moment := rfl
def sp_web : FSpec := fun ds Q X => ∃ (n m : Int), ds = [pot n m] ∧ (PotOk n m ∧ ∀ n' m' g, PotOk n' m' → WebOk g → Q (dWeb g) [pot n' m'])
def F_web : Fn := ⟨"_law_web", [true], 3, sp_web⟩
theorem fs_web : F_web.sig = [true] := rfl
theorem fp_web : F_web.spec = sp_web := rfl
theorem mk_web (n m : Int) (Q : Kn (D → List D → Prop)) (X : Kn (Ex → List D → Prop)) : sB sp_web [pot n m] = (PotOk n m ∧ ∀ n' m' g, PotOk n' m' → WebOk g → Q.k (dWeb g) [pot n' m']) := by
  refine propext ⟨fun h => ?_, fun h => ⟨n, m, rfl, h⟩⟩
  obtain ⟨n', m', e, h⟩ := h
  simp only [and_assoc, List.cons.injEq, and_true, true_and, D.w.injEq, D.lst.injEq, D.tup.injEq, D.fz.injEq, D.dK.injEq, D.dT.injEq, W.int.injEq, W.bl.injEq, W.tup.injEq, W.str.injEq, wWeb_inj, dl_inj3, dl_injI, map_inj3, map_injI, w3_inj, dl_injO, dl_injS, wO_inj, wS_inj, w2_inj, dl_inj2, wG_inj, dl_injG] at e
  obtain ⟨rfl, rfl⟩ := e
  exact h
theorem v_web : Ver T_web d_web sp_web := by
  intro ds Q1 X1 h
  obtain ⟨n, m, rfl, hp, k⟩ := h
  try simp only [d_web, wpA1, wpA2, wpA3, wpA4, wpA5, wpA6, wpA7, implies_true, forall_const, ↓bc_t, ↓bc_f, rds, rd, tks, tks1, tk, brwArg, allW, mkTup, heldB, Op.pm, Op.wm, Op.watch, putIn, live, ownL, cArgs, apartArgs, outDs, putOuts, noBrw, takeSlot, shallow, isW, lateIn, Es.vars, Tg.set, setAll, wipeR, startE, initE, outsOf, if_true, if_false, reduceIte, Nat.reduceEqDiff, Nat.reduceLT, Nat.reduceLeDiff, Nat.reduceAdd, Nat.reduceSub, ne_eq, reduceCtorEq, wKeys, wKey, Int.reduceToNat, Nat.reduceBEq, tf_web_take, tf_web_moment, fs_take, fp_take, mk_take, fs_moment, fp_moment, mk_moment]
  refine ⟨hp, by decide, by decide, fun n m many hp h0 h1 => ⟨hp, by decide, by decide, fun n m way hp w0 w1 => ?_⟩⟩
  try simp only [st_for, wpA1, wpA2, wpA3, wpA4, wpA5, wpA6, wpA7, implies_true, forall_const, ↓bc_t, ↓bc_f, rds, rd, tks, tks1, tk, brwArg, allW, mkTup, heldB, Op.pm, Op.wm, Op.watch, putIn, live, ownL, cArgs, apartArgs, outDs, putOuts, noBrw, takeSlot, shallow, isW, lateIn, Es.vars, Tg.set, setAll, wipeR, startE, initE, outsOf, if_true, if_false, reduceIte, Nat.reduceEqDiff, Nat.reduceLT, Nat.reduceLeDiff, Nat.reduceAdd, Nat.reduceSub, ne_eq, reduceCtorEq, wKeys, wKey, Int.reduceToNat, Nat.reduceBEq, tf_web_take, tf_web_moment, fs_take, fp_take, mk_take, fs_moment, fp_moment, mk_moment]
  refine ⟨hp, by decide, by decide, fun n m c1 hp a0 a1 => ⟨hp, by decide, by decide, fun n m c2 hp b0 b1 => ⟨hp, by decide, by decide, fun n m c3 hp d0 d1 => ?_⟩⟩⟩
  refine ob_dl (f := W.int) (xs := [c1, 24, c2, 30]) d0 d1 fun j hj => ?_
  have hj : 0 ≤ j ∧ j ≤ 30 := by
    simp only [List.mem_cons, List.not_mem_nil, or_false] at hj
    omega
  clear a0 a1 b0 b1 d0 d1
  try simp only [wpA1, wpA2, wpA3, wpA4, wpA5, wpA6, wpA7, implies_true, forall_const, ↓bc_t, ↓bc_f, rds, rd, tks, tks1, tk, brwArg, allW, mkTup, heldB, Op.pm, Op.wm, Op.watch, putIn, live, ownL, cArgs, apartArgs, outDs, putOuts, noBrw, takeSlot, shallow, isW, lateIn, Es.vars, Tg.set, setAll, wipeR, startE, initE, outsOf, if_true, if_false, reduceIte, Nat.reduceEqDiff, Nat.reduceLT, Nat.reduceLeDiff, Nat.reduceAdd, Nat.reduceSub, ne_eq, reduceCtorEq, wKeys, wKey, Int.reduceToNat, Nat.reduceBEq]
  refine ⟨s62 (by omega) (by omega), for_range (fun i ρ => ∃ n m l x4 x5 x6 x7, ρ = [some ⟨.own, pot n m⟩, some (sw (.int (1 + many))), some (sw (.int way)), some ⟨.own, .dT (kd (.bl true) l)⟩, x4, x5, x6, x7] ∧ PotOk n m ∧ l.length ≤ 24 ∧ l.Nodup ∧ ∀ q ∈ l, MeetOk (1 + many) q) ⟨n, m, [], _, _, _, _, rfl, hp, by decide, List.nodup_nil, fun _ h => nomatch h⟩ (fun i ρ k hi h0 hk => ⟨stays_nil _, ?_⟩) fun ρ h0 => ⟨stays_nil _, ?_⟩⟩
  · obtain ⟨n, m, l, x4, x5, x6, x7, rfl, hp, hl, hn, hm⟩ := h0
    try simp only [turnF, wpA1, wpA2, wpA3, wpA4, wpA5, wpA6, wpA7, implies_true, forall_const, ↓bc_t, ↓bc_f, rds, rd, tks, tks1, tk, brwArg, allW, mkTup, heldB, Op.pm, Op.wm, Op.watch, putIn, live, ownL, cArgs, apartArgs, outDs, putOuts, noBrw, takeSlot, shallow, isW, lateIn, Es.vars, Tg.set, setAll, wipeR, startE, initE, outsOf, if_true, if_false, reduceIte, Nat.reduceEqDiff, Nat.reduceLT, Nat.reduceLeDiff, Nat.reduceAdd, Nat.reduceSub, ne_eq, reduceCtorEq, wKeys, wKey, Int.reduceToNat, Nat.reduceBEq, tf_web_take, tf_web_moment, fs_take, fp_take, mk_take, fs_moment, fp_moment, mk_moment, kd_len]
    refine ⟨hp, w0, w1, fun n m d hp e0 e1 => ⟨hp, by omega, by omega, fun n m one hp o0 o1 => ⟨hp, by split <;> omega, by split <;> omega, fun n m oth hp t0 t1 => ⟨by omega, ?_⟩⟩⟩⟩
    have g0 : 0 ≤ (one + 1 + oth) % (1 + many) := Int.emod_nonneg _ (by omega)
    have g1 : (one + 1 + oth) % (1 + many) < 1 + many := Int.emod_lt_of_pos _ (by omega)
    generalize (one + 1 + oth) % (1 + many) = other at g0 g1 ⊢
    refine bc_of (fun e => ⟨Nat.lt_of_le_of_lt hl (by decide), ?_⟩) fun e => hk _ ⟨_, _, l, _, _, _, _, rfl, hp, hl, hn, hm⟩
    rw [Bool.and_eq_true, Bool.not_eq_true', decide_eq_false_iff_not, decide_eq_true_iff] at e
    obtain ⟨e, e2⟩ := e
    have hab : 0 ≤ (if other < one then other else one) ∧ (if other < one then other else one) < (if other > one then other else one) ∧ (if other > one then other else one) < 1 + many := by split <;> split <;> omega
    generalize (if other < one then other else one) = a at hab ⊢
    generalize (if other > one then other else one) = b at hab ⊢
    rw [kd_put]
    refine hk _ ⟨_, _, _, _, _, _, _, rfl, hp, ?_⟩
    by_cases hx : (d, a, b) ∈ l
    · rw [if_pos hx]
      exact ⟨hl, hn, hm⟩
    · rw [if_neg hx]
      refine ⟨by rw [List.length_append, List.length_singleton]; omega, ?_, fun q hq => ?_⟩
      · rw [List.nodup_append]
        exact ⟨hn, List.nodup_cons.mpr ⟨List.not_mem_nil, List.nodup_nil⟩, fun a ha b hb z => hx (by rw [List.mem_singleton] at hb; rw [← hb, ← z]; exact ha)⟩
      · rcases List.mem_append.mp hq with hq | hq
        · exact hm q hq
        · rw [List.mem_singleton] at hq
          subst hq
          exact ⟨e0, e1, hab⟩
  · obtain ⟨n, m, l, x4, x5, x6, x7, rfl, hp, hl, hn, hm⟩ := h0
    try simp only [wpA1, wpA2, wpA3, wpA4, wpA5, wpA6, wpA7, implies_true, forall_const, ↓bc_t, ↓bc_f, rds, rd, tks, tks1, tk, brwArg, allW, mkTup, heldB, Op.pm, Op.wm, Op.watch, putIn, live, ownL, cArgs, apartArgs, outDs, putOuts, noBrw, takeSlot, shallow, isW, lateIn, Es.vars, Tg.set, setAll, wipeR, startE, initE, outsOf, if_true, if_false, reduceIte, Nat.reduceEqDiff, Nat.reduceLT, Nat.reduceLeDiff, Nat.reduceAdd, Nat.reduceSub, ne_eq, reduceCtorEq, wKeys, wKey, Int.reduceToNat, Nat.reduceBEq, p_sortedK]
    refine ⟨by omega, k n m ⟨1 + many, srt3 l⟩ hp ⟨by show (1 : Int) ≤ 1 + many; omega, by show 1 + many ≤ (7 : Int); omega, by show (srt3 l).length ≤ 24; rw [srt_len]; exact hl, fun q hq => hm q ((srt_perm t3 l).mem_iff.mp hq), srt3_srt hn⟩⟩
def d_folded : Def := ⟨["script", "most"], ["script", "most", "cells", "k"], [false, false],
 (.cons (.asg 2 (.op .list (.cons (.op (.slice false true) (.cons (.var 0) (.cons (.var 1) .nil))) .nil)))
 (.cons (.forS (.one 3) (.rng (.cons (.var 1) (.cons (.op .len (.cons (.var 0) .nil)) .nil)))
 (.cons (.setI 2 (.op (.bin .mod) (.cons (.var 3) (.cons (.var 1) .nil))) (.op (.bin .add) (.cons (.op (.bin .mul) (.cons (.op (.bin .mod) (.cons (.op .idx (.cons (.var 2) (.cons (.op (.bin .mod) (.cons (.var 3) (.cons (.var 1) .nil))) .nil))) (.cons (.op (.bin .pow) (.cons (.cst (.int 10)) (.cons (.cst (.int 64)) .nil))) .nil))) (.cons (.cst (.int 1000003)) .nil))) (.cons (.op .idx (.cons (.var 0) (.cons (.var 3) .nil))) .nil))))
 .nil))
 (.cons (.ret (.var 2))
 .nil)))⟩
def T_folded : Tab := []
def sp_folded : FSpec := fun ds Q X => ∃ (l : List Int) (most : Int), ds = [.fz (l.map .int), dI most] ∧ (l.length ≤ 63 ∧ 0 < most ∧ most ≤ 63 ∧ ∀ c : List Int, c.length ≤ most → Q (.lst (dl W.int c)) [])
def F_folded : Fn := ⟨"_law_folded", [false, false], 1, sp_folded⟩
theorem fs_folded : F_folded.sig = [false, false] := rfl
theorem fp_folded : F_folded.spec = sp_folded := rfl
theorem mk_folded (l : List Int) (most : Int) (Q : Kn (D → List D → Prop)) (X : Kn (Ex → List D → Prop)) : sB sp_folded [.fz (l.map .int), dI most] = (l.length ≤ 63 ∧ 0 < most ∧ most ≤ 63 ∧ ∀ c : List Int, c.length ≤ most → Q.k (.lst (dl W.int c)) []) := by
  refine propext ⟨fun h => ?_, fun h => ⟨l, most, rfl, h⟩⟩
  obtain ⟨l', most', e, h⟩ := h
  simp only [and_assoc, List.cons.injEq, and_true, true_and, D.w.injEq, D.lst.injEq, D.tup.injEq, D.fz.injEq, D.dK.injEq, D.dT.injEq, W.int.injEq, W.bl.injEq, W.tup.injEq, W.str.injEq, wWeb_inj, dl_inj3, dl_injI, map_inj3, map_injI, w3_inj, dl_injO, dl_injS, wO_inj, wS_inj, w2_inj, dl_inj2, wG_inj, dl_injG] at e
  obtain ⟨rfl, rfl⟩ := e
  exact h
theorem v_folded : Ver T_folded d_folded sp_folded := by
  intro ds Q1 X1 h
  obtain ⟨l, most, rfl, h0, h1, h2, k⟩ := h
  try simp only [d_folded, wpA1, wpA2, wpA3, wpA4, wpA5, wpA6, wpA7, implies_true, forall_const, ↓bc_t, ↓bc_f, rds, rd, tks, tks1, tk, brwArg, allW, mkTup, heldB, Op.pm, Op.wm, Op.watch, putIn, live, ownL, cArgs, apartArgs, outDs, putOuts, noBrw, takeSlot, shallow, isW, lateIn, Es.vars, Tg.set, setAll, wipeR, startE, initE, outsOf, if_true, if_false, reduceIte, Nat.reduceEqDiff, Nat.reduceLT, Nat.reduceLeDiff, Nat.reduceAdd, Nat.reduceSub, ne_eq, reduceCtorEq, wKeys, wKey, Int.reduceToNat, Nat.reduceBEq, dl_w]
  try simp only [st_for, wpA1, wpA2, wpA3, wpA4, wpA5, wpA6, wpA7, implies_true, forall_const, ↓bc_t, ↓bc_f, rds, rd, tks, tks1, tk, brwArg, allW, mkTup, heldB, Op.pm, Op.wm, Op.watch, putIn, live, ownL, cArgs, apartArgs, outDs, putOuts, noBrw, takeSlot, shallow, isW, lateIn, Es.vars, Tg.set, setAll, wipeR, startE, initE, outsOf, if_true, if_false, reduceIte, Nat.reduceEqDiff, Nat.reduceLT, Nat.reduceLeDiff, Nat.reduceAdd, Nat.reduceSub, ne_eq, reduceCtorEq, wKeys, wKey, Int.reduceToNat, Nat.reduceBEq, dl_seqF]
  refine ⟨s62 (by omega) (by omega), s62 (by omega) (by omega), for_range (fun i ρ => ∃ c x3, ρ = [some ⟨.par, .fz (l.map .int)⟩, some (sw (.int most)), some ⟨.own, .lst (dl W.int c)⟩, x3] ∧ c.length = min most.toNat l.length) ⟨_, _, rfl, ?_⟩ (fun i ρ k hi h0 hk => ⟨stays_nil _, ?_⟩) fun ρ h0 => ⟨stays_nil _, ?_⟩⟩
  · rw [show most = ((most.toNat : Nat) : Int) by omega, cutL_hi, List.length_take]
    omega
  · obtain ⟨c, x3, rfl, hc⟩ := h0
    have g0 : 0 ≤ (most + ↑i) % most := Int.emod_nonneg _ (by omega)
    have g1 : (most + ↑i) % most < most := Int.emod_lt_of_pos _ (by omega)
    try simp only [turnF, wpA1, wpA2, wpA3, wpA4, wpA5, wpA6, wpA7, implies_true, forall_const, ↓bc_t, ↓bc_f, rds, rd, tks, tks1, tk, brwArg, allW, mkTup, heldB, Op.pm, Op.wm, Op.watch, putIn, live, ownL, cArgs, apartArgs, outDs, putOuts, noBrw, takeSlot, shallow, isW, lateIn, Es.vars, Tg.set, setAll, wipeR, startE, initE, outsOf, if_true, if_false, reduceIte, Nat.reduceEqDiff, Nat.reduceLT, Nat.reduceLeDiff, Nat.reduceAdd, Nat.reduceSub, ne_eq, reduceCtorEq, wKeys, wKey, Int.reduceToNat, Nat.reduceBEq]
    refine ⟨h1, ob_dl g0 (by omega) fun x _ => ?_⟩
    try simp only [wpA1, wpA2, wpA3, wpA4, wpA5, wpA6, wpA7, implies_true, forall_const, ↓bc_t, ↓bc_f, rds, rd, tks, tks1, tk, brwArg, allW, mkTup, heldB, Op.pm, Op.wm, Op.watch, putIn, live, ownL, cArgs, apartArgs, outDs, putOuts, noBrw, takeSlot, shallow, isW, lateIn, Es.vars, Tg.set, setAll, wipeR, startE, initE, outsOf, if_true, if_false, reduceIte, Nat.reduceEqDiff, Nat.reduceLT, Nat.reduceLeDiff, Nat.reduceAdd, Nat.reduceSub, ne_eq, reduceCtorEq, wKeys, wKey, Int.reduceToNat, Nat.reduceBEq]
    refine ⟨⟨by decide, by decide, by decide⟩, by decide, cmul_r (by decide) (by decide), ?_⟩
    refine ob_dl (by omega) (by omega) fun y _ => ?_
    try simp only [wpA1, wpA2, wpA3, wpA4, wpA5, wpA6, wpA7, implies_true, forall_const, ↓bc_t, ↓bc_f, rds, rd, tks, tks1, tk, brwArg, allW, mkTup, heldB, Op.pm, Op.wm, Op.watch, putIn, live, ownL, cArgs, apartArgs, outDs, putOuts, noBrw, takeSlot, shallow, isW, lateIn, Es.vars, Tg.set, setAll, wipeR, startE, initE, outsOf, if_true, if_false, reduceIte, Nat.reduceEqDiff, Nat.reduceLT, Nat.reduceLeDiff, Nat.reduceAdd, Nat.reduceSub, ne_eq, reduceCtorEq, wKeys, wKey, Int.reduceToNat, Nat.reduceBEq]
    refine ⟨h1, ob_of (ix_at g0 (by omega)) ?_⟩
    try simp only [wpA1, wpA2, wpA3, wpA4, wpA5, wpA6, wpA7, implies_true, forall_const, ↓bc_t, ↓bc_f, rds, rd, tks, tks1, tk, brwArg, allW, mkTup, heldB, Op.pm, Op.wm, Op.watch, putIn, live, ownL, cArgs, apartArgs, outDs, putOuts, noBrw, takeSlot, shallow, isW, lateIn, Es.vars, Tg.set, setAll, wipeR, startE, initE, outsOf, if_true, if_false, reduceIte, Nat.reduceEqDiff, Nat.reduceLT, Nat.reduceLeDiff, Nat.reduceAdd, Nat.reduceSub, ne_eq, reduceCtorEq, wKeys, wKey, Int.reduceToNat, Nat.reduceBEq]
    exact hk _ ⟨_, _, rfl, by rw [List.length_set]; exact hc⟩
  · obtain ⟨c, x3, rfl, hc⟩ := h0
    try simp only [wpA1, wpA2, wpA3, wpA4, wpA5, wpA6, wpA7, implies_true, forall_const, ↓bc_t, ↓bc_f, rds, rd, tks, tks1, tk, brwArg, allW, mkTup, heldB, Op.pm, Op.wm, Op.watch, putIn, live, ownL, cArgs, apartArgs, outDs, putOuts, noBrw, takeSlot, shallow, isW, lateIn, Es.vars, Tg.set, setAll, wipeR, startE, initE, outsOf, if_true, if_false, reduceIte, Nat.reduceEqDiff, Nat.reduceLT, Nat.reduceLeDiff, Nat.reduceAdd, Nat.reduceSub, ne_eq, reduceCtorEq, wKeys, wKey, Int.reduceToNat, Nat.reduceBEq]
    exact k c (by omega)
end Wm
namespace Wm
open PySem PySem.Spec PyProof.Rows L2
def risen (m a b : Int) : M3 := (m, if b < a then b else a, if b > a then b else a)
def d_risen_meet : Def := ⟨["moment", "one", "other"], ["moment", "one", "other"], [false, false, false],
 (.cons (.ret (.op .tup (.cons (.var 0) (.cons (.op .min2 (.cons (.var 1) (.cons (.var 2) .nil))) (.cons (.op .max2 (.cons (.var 1) (.cons (.var 2) .nil))) .nil)))))
 .nil)⟩
def T_risen_meet : Tab := []
def sp_risen_meet : FSpec := fun ds Q X => ∃ (m a b : Int), ds = [dI m, dI a, dI b] ∧ (Q (.w (w3 (risen m a b))) [])
def F_risen_meet : Fn := ⟨"risen_meet", [false, false, false], 1, sp_risen_meet⟩
theorem fs_risen_meet : F_risen_meet.sig = [false, false, false] := rfl
theorem fp_risen_meet : F_risen_meet.spec = sp_risen_meet := rfl
theorem mk_risen_meet (m a b : Int) (Q : Kn (D → List D → Prop)) (X : Kn (Ex → List D → Prop)) : sB sp_risen_meet [dI m, dI a, dI b] = (Q.k (.w (w3 (risen m a b))) []) := by
  refine propext ⟨fun h => ?_, fun h => ⟨m, a, b, rfl, h⟩⟩
  obtain ⟨m', a', b', e, h⟩ := h
  simp only [and_assoc, List.cons.injEq, and_true, true_and, D.w.injEq, D.lst.injEq, D.tup.injEq, D.fz.injEq, D.dK.injEq, D.dT.injEq, W.int.injEq, W.bl.injEq, W.tup.injEq, W.str.injEq, wWeb_inj, dl_inj3, dl_injI, map_inj3, map_injI, w3_inj, dl_injO, dl_injS, wO_inj, wS_inj, w2_inj, dl_inj2, wG_inj, dl_injG] at e
  obtain ⟨rfl, rfl, rfl⟩ := e
  exact h
theorem v_risen_meet : Ver T_risen_meet d_risen_meet sp_risen_meet := by
  intro ds Q1 X1 h
  obtain ⟨m, a, b, rfl, k⟩ := h
  try simp only [d_risen_meet, wpA1, wpA2, wpA3, wpA4, wpA5, wpA6, wpA7, implies_true, forall_const, ↓bc_t, ↓bc_f, rds, rd, tks, tks1, tk, brwArg, allW, mkTup, heldB, Op.pm, Op.wm, Op.watch, putIn, live, ownL, cArgs, apartArgs, outDs, putOuts, noBrw, takeSlot, shallow, isW, lateIn, Es.vars, Tg.set, setAll, wipeR, startE, initE, outsOf, if_true, if_false, reduceIte, Nat.reduceEqDiff, Nat.reduceLT, Nat.reduceLeDiff, Nat.reduceAdd, Nat.reduceSub, ne_eq, reduceCtorEq, wKeys, wKey, Int.reduceToNat, Nat.reduceBEq]
  exact k
def turnedWeb (g : Web) : Web := ⟨g.n, srt3 (g.ms.map fun m => (0 - m.1, m.2.1, m.2.2))⟩
def d_turned_web : Def := ⟨["web"], ["web", "moment", "one", "other"], [false],
 (.cons (.ret (.op .tup (.cons (.op .idx (.cons (.var 0) (.cons (.cst (.int 0)) .nil))) (.cons (.op .tuple (.cons (.op .sorted (.cons (.lc (.tup [1, 2, 3]) (.seq (.cons (.op .idx (.cons (.var 0) (.cons (.cst (.int 1)) .nil))) .nil)) (.op .tup (.cons (.op (.bin .sub) (.cons (.cst (.int 0)) (.cons (.var 1) .nil))) (.cons (.var 2) (.cons (.var 3) .nil)))) [("moment", 1), ("one", 2), ("other", 3)]) .nil)) .nil)) .nil))))
 .nil)⟩
def T_turned_web : Tab := []
def sp_turned_web : FSpec := fun ds Q X => ∃ (g : Web), ds = [dWeb g] ∧ (g.ms.length < 64 ∧ Q (dWeb (turnedWeb g)) [])
def F_turned_web : Fn := ⟨"turned_web", [false], 1, sp_turned_web⟩
theorem fs_turned_web : F_turned_web.sig = [false] := rfl
theorem fp_turned_web : F_turned_web.spec = sp_turned_web := rfl
theorem mk_turned_web (g : Web) (Q : Kn (D → List D → Prop)) (X : Kn (Ex → List D → Prop)) : sB sp_turned_web [dWeb g] = (g.ms.length < 64 ∧ Q.k (dWeb (turnedWeb g)) []) := by
  refine propext ⟨fun h => ?_, fun h => ⟨g, rfl, h⟩⟩
  obtain ⟨g', e, h⟩ := h
  simp only [and_assoc, List.cons.injEq, and_true, true_and, D.w.injEq, D.lst.injEq, D.tup.injEq, D.fz.injEq, D.dK.injEq, D.dT.injEq, W.int.injEq, W.bl.injEq, W.tup.injEq, W.str.injEq, wWeb_inj, dl_inj3, dl_injI, map_inj3, map_injI, w3_inj, dl_injO, dl_injS, wO_inj, wS_inj, w2_inj, dl_inj2, wG_inj, dl_injG] at e
  obtain rfl := e
  exact h
theorem v_turned_web : Ver T_turned_web d_turned_web sp_turned_web := by
  intro ds Q1 X1 h
  obtain ⟨g, rfl, hl, k⟩ := h
  try simp only [d_turned_web, wpA1, wpA2, wpA3, wpA4, wpA5, wpA6, wpA7, implies_true, forall_const, ↓bc_t, ↓bc_f, rds, rd, tks, tks1, tk, brwArg, allW, mkTup, heldB, Op.pm, Op.wm, Op.watch, putIn, live, ownL, cArgs, apartArgs, outDs, putOuts, noBrw, takeSlot, shallow, isW, lateIn, Es.vars, Tg.set, setAll, wipeR, startE, initE, outsOf, if_true, if_false, reduceIte, Nat.reduceEqDiff, Nat.reduceLT, Nat.reduceLeDiff, Nat.reduceAdd, Nat.reduceSub, ne_eq, reduceCtorEq, wKeys, wKey, Int.reduceToNat, Nat.reduceBEq]
  refine lc_dl w3 (fun m => (0 - m.1, m.2.1, m.2.2)) g.ms (stays_nil _) (sz (by omega)) (fun x hx k hk => ?_) ?_
  · try simp only [turnL, wpA1, wpA2, wpA3, wpA4, wpA5, wpA6, wpA7, implies_true, forall_const, ↓bc_t, ↓bc_f, rds, rd, tks, tks1, tk, brwArg, allW, mkTup, heldB, Op.pm, Op.wm, Op.watch, putIn, live, ownL, cArgs, apartArgs, outDs, putOuts, noBrw, takeSlot, shallow, isW, lateIn, Es.vars, Tg.set, setAll, wipeR, startE, initE, outsOf, if_true, if_false, reduceIte, Nat.reduceEqDiff, Nat.reduceLT, Nat.reduceLeDiff, Nat.reduceAdd, Nat.reduceSub, ne_eq, reduceCtorEq, wKeys, wKey, Int.reduceToNat, Nat.reduceBEq]
    exact hk
  try simp only [wpA1, wpA2, wpA3, wpA4, wpA5, wpA6, wpA7, implies_true, forall_const, ↓bc_t, ↓bc_f, rds, rd, tks, tks1, tk, brwArg, allW, mkTup, heldB, Op.pm, Op.wm, Op.watch, putIn, live, ownL, cArgs, apartArgs, outDs, putOuts, noBrw, takeSlot, shallow, isW, lateIn, Es.vars, Tg.set, setAll, wipeR, startE, initE, outsOf, if_true, if_false, reduceIte, Nat.reduceEqDiff, Nat.reduceLT, Nat.reduceLeDiff, Nat.reduceAdd, Nat.reduceSub, ne_eq, reduceCtorEq, wKeys, wKey, Int.reduceToNat, Nat.reduceBEq]
  exact ⟨hl, k⟩
def laterWeb (g : Web) (t : Int) : Web := ⟨g.n, g.ms.map fun m => (m.1 + t, m.2.1, m.2.2)⟩
def d_later_web : Def := ⟨["web", "by"], ["web", "by", "moment", "one", "other"], [false, false],
 (.cons (.ret (.op .tup (.cons (.op .idx (.cons (.var 0) (.cons (.cst (.int 0)) .nil))) (.cons (.op .tuple (.cons (.lc (.tup [2, 3, 4]) (.seq (.cons (.op .idx (.cons (.var 0) (.cons (.cst (.int 1)) .nil))) .nil)) (.op .tup (.cons (.op (.bin .add) (.cons (.var 2) (.cons (.var 1) .nil))) (.cons (.var 3) (.cons (.var 4) .nil)))) [("moment", 2), ("one", 3), ("other", 4)]) .nil)) .nil))))
 .nil)⟩
def T_later_web : Tab := []
def sp_later_web : FSpec := fun ds Q X => ∃ (g : Web) (t : Int), ds = [dWeb g, dI t] ∧ (g.ms.length ≤ 1000 ∧ Q (dWeb (laterWeb g t)) [])
def F_later_web : Fn := ⟨"later_web", [false, false], 1, sp_later_web⟩
theorem fs_later_web : F_later_web.sig = [false, false] := rfl
theorem fp_later_web : F_later_web.spec = sp_later_web := rfl
theorem mk_later_web (g : Web) (t : Int) (Q : Kn (D → List D → Prop)) (X : Kn (Ex → List D → Prop)) : sB sp_later_web [dWeb g, dI t] = (g.ms.length ≤ 1000 ∧ Q.k (dWeb (laterWeb g t)) []) := by
  refine propext ⟨fun h => ?_, fun h => ⟨g, t, rfl, h⟩⟩
  obtain ⟨g', t', e, h⟩ := h
  simp only [and_assoc, List.cons.injEq, and_true, true_and, D.w.injEq, D.lst.injEq, D.tup.injEq, D.fz.injEq, D.dK.injEq, D.dT.injEq, W.int.injEq, W.bl.injEq, W.tup.injEq, W.str.injEq, wWeb_inj, dl_inj3, dl_injI, map_inj3, map_injI, w3_inj, dl_injO, dl_injS, wO_inj, wS_inj, w2_inj, dl_inj2, wG_inj, dl_injG] at e
  obtain ⟨rfl, rfl⟩ := e
  exact h
theorem v_later_web : Ver T_later_web d_later_web sp_later_web := by
  intro ds Q1 X1 h
  obtain ⟨g, t, rfl, hl, k⟩ := h
  try simp only [d_later_web, wpA1, wpA2, wpA3, wpA4, wpA5, wpA6, wpA7, implies_true, forall_const, ↓bc_t, ↓bc_f, rds, rd, tks, tks1, tk, brwArg, allW, mkTup, heldB, Op.pm, Op.wm, Op.watch, putIn, live, ownL, cArgs, apartArgs, outDs, putOuts, noBrw, takeSlot, shallow, isW, lateIn, Es.vars, Tg.set, setAll, wipeR, startE, initE, outsOf, if_true, if_false, reduceIte, Nat.reduceEqDiff, Nat.reduceLT, Nat.reduceLeDiff, Nat.reduceAdd, Nat.reduceSub, ne_eq, reduceCtorEq, wKeys, wKey, Int.reduceToNat, Nat.reduceBEq]
  refine lc_dl w3 (fun m => (m.1 + t, m.2.1, m.2.2)) g.ms (stays_nil _) (sz hl) (fun x hx k hk => ?_) ?_
  · try simp only [turnL, wpA1, wpA2, wpA3, wpA4, wpA5, wpA6, wpA7, implies_true, forall_const, ↓bc_t, ↓bc_f, rds, rd, tks, tks1, tk, brwArg, allW, mkTup, heldB, Op.pm, Op.wm, Op.watch, putIn, live, ownL, cArgs, apartArgs, outDs, putOuts, noBrw, takeSlot, shallow, isW, lateIn, Es.vars, Tg.set, setAll, wipeR, startE, initE, outsOf, if_true, if_false, reduceIte, Nat.reduceEqDiff, Nat.reduceLT, Nat.reduceLeDiff, Nat.reduceAdd, Nat.reduceSub, ne_eq, reduceCtorEq, wKeys, wKey, Int.reduceToNat, Nat.reduceBEq]
    exact hk
  try simp only [wpA1, wpA2, wpA3, wpA4, wpA5, wpA6, wpA7, implies_true, forall_const, ↓bc_t, ↓bc_f, rds, rd, tks, tks1, tk, brwArg, allW, mkTup, heldB, Op.pm, Op.wm, Op.watch, putIn, live, ownL, cArgs, apartArgs, outDs, putOuts, noBrw, takeSlot, shallow, isW, lateIn, Es.vars, Tg.set, setAll, wipeR, startE, initE, outsOf, if_true, if_false, reduceIte, Nat.reduceEqDiff, Nat.reduceLT, Nat.reduceLeDiff, Nat.reduceAdd, Nat.reduceSub, ne_eq, reduceCtorEq, wKeys, wKey, Int.reduceToNat, Nat.reduceBEq]
  exact k
def keptWeb (g : Web) (a b : Int) : Web := ⟨g.n, g.ms.filter fun m => decide (a ≤ m.1) && decide (m.1 ≤ b)⟩
def d_kept_web : Def := ⟨["web", "first", "last"], ["web", "first", "last", "meet"], [false, false, false],
 (.cons (.ret (.op .tup (.cons (.op .idx (.cons (.var 0) (.cons (.cst (.int 0)) .nil))) (.cons (.op .tuple (.cons (.lcIf (.one 3) (.seq (.cons (.op .idx (.cons (.var 0) (.cons (.cst (.int 1)) .nil))) .nil)) (.chain .le .le (.var 1) (.op .idx (.cons (.var 3) (.cons (.cst (.int 0)) .nil))) (.var 2)) (.var 3) [("meet", 3)]) .nil)) .nil))))
 .nil)⟩
def T_kept_web : Tab := []
def sp_kept_web : FSpec := fun ds Q X => ∃ (g : Web) (a b : Int), ds = [dWeb g, dI a, dI b] ∧ (g.ms.length ≤ 1000 ∧ Q (dWeb (keptWeb g a b)) [])
def F_kept_web : Fn := ⟨"kept_web", [false, false, false], 1, sp_kept_web⟩
theorem fs_kept_web : F_kept_web.sig = [false, false, false] := rfl
theorem fp_kept_web : F_kept_web.spec = sp_kept_web := rfl
theorem mk_kept_web (g : Web) (a b : Int) (Q : Kn (D → List D → Prop)) (X : Kn (Ex → List D → Prop)) : sB sp_kept_web [dWeb g, dI a, dI b] = (g.ms.length ≤ 1000 ∧ Q.k (dWeb (keptWeb g a b)) []) := by
  refine propext ⟨fun h => ?_, fun h => ⟨g, a, b, rfl, h⟩⟩
  obtain ⟨g', a', b', e, h⟩ := h
  simp only [and_assoc, List.cons.injEq, and_true, true_and, D.w.injEq, D.lst.injEq, D.tup.injEq, D.fz.injEq, D.dK.injEq, D.dT.injEq, W.int.injEq, W.bl.injEq, W.tup.injEq, W.str.injEq, wWeb_inj, dl_inj3, dl_injI, map_inj3, map_injI, w3_inj, dl_injO, dl_injS, wO_inj, wS_inj, w2_inj, dl_inj2, wG_inj, dl_injG] at e
  obtain ⟨rfl, rfl, rfl⟩ := e
  exact h
theorem v_kept_web : Ver T_kept_web d_kept_web sp_kept_web := by
  intro ds Q1 X1 h
  obtain ⟨g, a, b, rfl, hl, k⟩ := h
  try simp only [d_kept_web, wpA1, wpA2, wpA3, wpA4, wpA5, wpA6, wpA7, implies_true, forall_const, ↓bc_t, ↓bc_f, rds, rd, tks, tks1, tk, brwArg, allW, mkTup, heldB, Op.pm, Op.wm, Op.watch, putIn, live, ownL, cArgs, apartArgs, outDs, putOuts, noBrw, takeSlot, shallow, isW, lateIn, Es.vars, Tg.set, setAll, wipeR, startE, initE, outsOf, if_true, if_false, reduceIte, Nat.reduceEqDiff, Nat.reduceLT, Nat.reduceLeDiff, Nat.reduceAdd, Nat.reduceSub, ne_eq, reduceCtorEq, wKeys, wKey, Int.reduceToNat, Nat.reduceBEq]
  refine lc_filter w3 (fun m => decide (a ≤ m.1) && decide (m.1 ≤ b)) id g.ms (stays_nil _) (sz hl) (fun x hx k hk => ?_) ?_
  · try simp only [turnI, wpA1, wpA2, wpA3, wpA4, wpA5, wpA6, wpA7, implies_true, forall_const, ↓bc_t, ↓bc_f, rds, rd, tks, tks1, tk, brwArg, allW, mkTup, heldB, Op.pm, Op.wm, Op.watch, putIn, live, ownL, cArgs, apartArgs, outDs, putOuts, noBrw, takeSlot, shallow, isW, lateIn, Es.vars, Tg.set, setAll, wipeR, startE, initE, outsOf, if_true, if_false, reduceIte, Nat.reduceEqDiff, Nat.reduceLT, Nat.reduceLeDiff, Nat.reduceAdd, Nat.reduceSub, ne_eq, reduceCtorEq, wKeys, wKey, Int.reduceToNat, Nat.reduceBEq]
    exact bc_if hk
  try simp only [wpA1, wpA2, wpA3, wpA4, wpA5, wpA6, wpA7, implies_true, forall_const, ↓bc_t, ↓bc_f, rds, rd, tks, tks1, tk, brwArg, allW, mkTup, heldB, Op.pm, Op.wm, Op.watch, putIn, live, ownL, cArgs, apartArgs, outDs, putOuts, noBrw, takeSlot, shallow, isW, lateIn, Es.vars, Tg.set, setAll, wipeR, startE, initE, outsOf, if_true, if_false, reduceIte, Nat.reduceEqDiff, Nat.reduceLT, Nat.reduceLeDiff, Nat.reduceAdd, Nat.reduceSub, ne_eq, reduceCtorEq, wKeys, wKey, Int.reduceToNat, Nat.reduceBEq, List.map_id]
  exact k
def renamedWeb (g : Web) (o : List Int) : Web := ⟨g.n, srt3 (g.ms.map fun m => risen m.1 (o.getD m.2.1.toNat 0) (o.getD m.2.2.toNat 0))⟩
theorem at_getD {o : List Int} {i : Int} (h0 : 0 ≤ i) (h1 : i < o.length) : atI (o.map W.int) i = some (.int (o.getD i.toNat 0)) := by
  refine map_at W.int ?_
  rw [at_int h0 h1, List.getD_eq_getElem?_getD, List.getElem?_eq_getElem (by omega)]
  rfl
def d_renamed_web : Def := ⟨["web", "order"], ["web", "order", "meets", "moment", "one", "other"], [false, false],
 (.cons (.asg 2 (.lc (.tup [3, 4, 5]) (.seq (.cons (.op .idx (.cons (.var 0) (.cons (.cst (.int 1)) .nil))) .nil)) (.call "risen_meet" (.cons (.var 3) (.cons (.op .idx (.cons (.var 1) (.cons (.var 4) .nil))) (.cons (.op .idx (.cons (.var 1) (.cons (.var 5) .nil))) .nil)))) [("moment", 3), ("one", 4), ("other", 5)]))
 (.cons (.ret (.op .tup (.cons (.op .idx (.cons (.var 0) (.cons (.cst (.int 0)) .nil))) (.cons (.op .tuple (.cons (.op .sorted (.cons (.var 2) .nil)) .nil)) .nil))))
 .nil))⟩
def T_renamed_web : Tab := [F_risen_meet]
theorem tf_renamed_web_risen_meet : T_renamed_web.find "risen_meet" = some F_risen_meet := rfl
def sp_renamed_web : FSpec := fun ds Q X => ∃ (g : Web) (o : List Int), ds = [dWeb g, .w (.tup (o.map .int))] ∧ (g.ms.length < 64 ∧ (∀ m ∈ g.ms, 0 ≤ m.2.1 ∧ m.2.1 < o.length ∧ 0 ≤ m.2.2 ∧ m.2.2 < o.length) ∧ Q (dWeb (renamedWeb g o)) [])
def F_renamed_web : Fn := ⟨"renamed_web", [false, false], 2, sp_renamed_web⟩
theorem fs_renamed_web : F_renamed_web.sig = [false, false] := rfl
theorem fp_renamed_web : F_renamed_web.spec = sp_renamed_web := rfl
theorem mk_renamed_web (g : Web) (o : List Int) (Q : Kn (D → List D → Prop)) (X : Kn (Ex → List D → Prop)) : sB sp_renamed_web [dWeb g, .w (.tup (o.map .int))] = (g.ms.length < 64 ∧ (∀ m ∈ g.ms, 0 ≤ m.2.1 ∧ m.2.1 < o.length ∧ 0 ≤ m.2.2 ∧ m.2.2 < o.length) ∧ Q.k (dWeb (renamedWeb g o)) []) := by
  refine propext ⟨fun h => ?_, fun h => ⟨g, o, rfl, h⟩⟩
  obtain ⟨g', o', e, h⟩ := h
  simp only [and_assoc, List.cons.injEq, and_true, true_and, D.w.injEq, D.lst.injEq, D.tup.injEq, D.fz.injEq, D.dK.injEq, D.dT.injEq, W.int.injEq, W.bl.injEq, W.tup.injEq, W.str.injEq, wWeb_inj, dl_inj3, dl_injI, map_inj3, map_injI, w3_inj, dl_injO, dl_injS, wO_inj, wS_inj, w2_inj, dl_inj2, wG_inj, dl_injG] at e
  obtain ⟨rfl, rfl⟩ := e
  exact h
theorem v_renamed_web : Ver T_renamed_web d_renamed_web sp_renamed_web := by
  intro ds Q1 X1 h
  obtain ⟨g, o, rfl, hl, hm, k⟩ := h
  try simp only [d_renamed_web, wpA1, wpA2, wpA3, wpA4, wpA5, wpA6, wpA7, implies_true, forall_const, ↓bc_t, ↓bc_f, rds, rd, tks, tks1, tk, brwArg, allW, mkTup, heldB, Op.pm, Op.wm, Op.watch, putIn, live, ownL, cArgs, apartArgs, outDs, putOuts, noBrw, takeSlot, shallow, isW, lateIn, Es.vars, Tg.set, setAll, wipeR, startE, initE, outsOf, if_true, if_false, reduceIte, Nat.reduceEqDiff, Nat.reduceLT, Nat.reduceLeDiff, Nat.reduceAdd, Nat.reduceSub, ne_eq, reduceCtorEq, wKeys, wKey, Int.reduceToNat, Nat.reduceBEq]
  refine lc_dl w3 (fun m => risen m.1 (o.getD m.2.1.toNat 0) (o.getD m.2.2.toNat 0)) g.ms (stays_nil _) (sz (by omega)) (fun x hx k hk => ?_) ?_
  · obtain ⟨h1, h2, h3, h4⟩ := hm x hx
    try simp only [turnL, wpA1, wpA2, wpA3, wpA4, wpA5, wpA6, wpA7, implies_true, forall_const, ↓bc_t, ↓bc_f, rds, rd, tks, tks1, tk, brwArg, allW, mkTup, heldB, Op.pm, Op.wm, Op.watch, putIn, live, ownL, cArgs, apartArgs, outDs, putOuts, noBrw, takeSlot, shallow, isW, lateIn, Es.vars, Tg.set, setAll, wipeR, startE, initE, outsOf, if_true, if_false, reduceIte, Nat.reduceEqDiff, Nat.reduceLT, Nat.reduceLeDiff, Nat.reduceAdd, Nat.reduceSub, ne_eq, reduceCtorEq, wKeys, wKey, Int.reduceToNat, Nat.reduceBEq, at_getD h1 h2, at_getD h3 h4, tf_renamed_web_risen_meet, fs_risen_meet, fp_risen_meet, mk_risen_meet]
    exact hk
  try simp only [wpA1, wpA2, wpA3, wpA4, wpA5, wpA6, wpA7, implies_true, forall_const, ↓bc_t, ↓bc_f, rds, rd, tks, tks1, tk, brwArg, allW, mkTup, heldB, Op.pm, Op.wm, Op.watch, putIn, live, ownL, cArgs, apartArgs, outDs, putOuts, noBrw, takeSlot, shallow, isW, lateIn, Es.vars, Tg.set, setAll, wipeR, startE, initE, outsOf, if_true, if_false, reduceIte, Nat.reduceEqDiff, Nat.reduceLT, Nat.reduceLeDiff, Nat.reduceAdd, Nat.reduceSub, ne_eq, reduceCtorEq, wKeys, wKey, Int.reduceToNat, Nat.reduceBEq]
  exact ⟨hl, k⟩
end Wm
namespace Wm
open PySem PySem.Spec PyProof.Rows L2
/-- an order of so many places -/
def IsOrder (many : Int) (o : List Int) : Prop := o.Perm ((List.range many.toNat).map fun (k : Nat) => (k : Int))
theorem IsOrder.len {many : Int} {o : List Int} (h : IsOrder many o) : o.length = many.toNat := by
  rw [h.length_eq, List.length_map, List.length_range]
def d_order : Def := ⟨["pot", "many"], ["pot", "many", "order", "place"], [true, false],
 (.cons (.asg 2 (.op .lst .nil))
 (.cons (.forS (.one 3) (.rng (.cons (.var 1) .nil))
 (.cons (.expr (.mth .insert 2 (.cons (.call "_law_take" (.cons (.var 0) (.cons (.op (.bin .add) (.cons (.var 3) (.cons (.cst (.int 1)) .nil))) .nil))) (.cons (.var 3) .nil))))
 .nil))
 (.cons (.ret (.op .tuple (.cons (.var 2) .nil)))
 .nil)))⟩
def T_order : Tab := [F_take]
theorem tf_order_take : T_order.find "_law_take" = some F_take := rfl
def sp_order : FSpec := fun ds Q X => ∃ (n m many : Int), ds = [pot n m, dI many] ∧ (PotOk n m ∧ 0 ≤ many ∧ many ≤ 100 ∧ ∀ n' m' o, PotOk n' m' → IsOrder many o → Q (.w (.tup (o.map .int))) [pot n' m'])
def F_order : Fn := ⟨"_law_order", [true, false], 2, sp_order⟩
theorem fs_order : F_order.sig = [true, false] := rfl
theorem fp_order : F_order.spec = sp_order := rfl
theorem mk_order (n m many : Int) (Q : Kn (D → List D → Prop)) (X : Kn (Ex → List D → Prop)) : sB sp_order [pot n m, dI many] = (PotOk n m ∧ 0 ≤ many ∧ many ≤ 100 ∧ ∀ n' m' o, PotOk n' m' → IsOrder many o → Q.k (.w (.tup (o.map .int))) [pot n' m']) := by
  refine propext ⟨fun h => ?_, fun h => ⟨n, m, many, rfl, h⟩⟩
  obtain ⟨n', m', many', e, h⟩ := h
  simp only [and_assoc, List.cons.injEq, and_true, true_and, D.w.injEq, D.lst.injEq, D.tup.injEq, D.fz.injEq, D.dK.injEq, D.dT.injEq, W.int.injEq, W.bl.injEq, W.tup.injEq, W.str.injEq, wWeb_inj, dl_inj3, dl_injI, map_inj3, map_injI, w3_inj, dl_injO, dl_injS, wO_inj, wS_inj, w2_inj, dl_inj2, wG_inj, dl_injG] at e
  obtain ⟨rfl, rfl, rfl⟩ := e
  exact h
theorem v_order : Ver T_order d_order sp_order := by
  intro ds Q1 X1 h
  obtain ⟨n, m, many, rfl, hp, h0, h1, k⟩ := h
  try simp only [d_order, st_for, wpA1, wpA2, wpA3, wpA4, wpA5, wpA6, wpA7, implies_true, forall_const, ↓bc_t, ↓bc_f, rds, rd, tks, tks1, tk, brwArg, allW, mkTup, heldB, Op.pm, Op.wm, Op.watch, putIn, live, ownL, cArgs, apartArgs, outDs, putOuts, noBrw, takeSlot, shallow, isW, lateIn, Es.vars, Tg.set, setAll, wipeR, startE, initE, outsOf, if_true, if_false, reduceIte, Nat.reduceEqDiff, Nat.reduceLT, Nat.reduceLeDiff, Nat.reduceAdd, Nat.reduceSub, ne_eq, reduceCtorEq, wKeys, wKey, Int.reduceToNat, Nat.reduceBEq]
  refine ⟨s62 (by omega) (by omega), for_range (fun i ρ => ∃ n m o x3, ρ = [some ⟨.own, pot n m⟩, some (sw (.int many)), some ⟨.own, .lst (dl W.int o)⟩, x3] ∧ PotOk n m ∧ o.Perm ((List.range i).map fun (k : Nat) => (k : Int))) ⟨_, _, [], _, rfl, hp, .refl _⟩ (fun i ρ k2 hi h2 hk => ⟨stays_nil _, ?_⟩) fun ρ h2 => ⟨stays_nil _, ?_⟩⟩
  · obtain ⟨n, m, o, x3, rfl, hp, hO⟩ := h2
    have hl := hO.length_eq
    rw [List.length_map, List.length_range] at hl
    try simp only [turnF, wpA1, wpA2, wpA3, wpA4, wpA5, wpA6, wpA7, implies_true, forall_const, ↓bc_t, ↓bc_f, rds, rd, tks, tks1, tk, brwArg, allW, mkTup, heldB, Op.pm, Op.wm, Op.watch, putIn, live, ownL, cArgs, apartArgs, outDs, putOuts, noBrw, takeSlot, shallow, isW, lateIn, Es.vars, Tg.set, setAll, wipeR, startE, initE, outsOf, if_true, if_false, reduceIte, Nat.reduceEqDiff, Nat.reduceLT, Nat.reduceLeDiff, Nat.reduceAdd, Nat.reduceSub, ne_eq, reduceCtorEq, wKeys, wKey, Int.reduceToNat, Nat.reduceBEq, tf_order_take, fs_take, fp_take, mk_take]
    refine ⟨hp, by omega, by omega, fun n m d hp d0 d1 => ⟨szl (by omega), d0, by omega, ?_⟩⟩
    refine hk _ ⟨_, _, o.take d.toNat ++ (i : Int) :: o.drop d.toNat, some (sw (.int (0 + (i : Int)))), ?_, hp, ?_⟩
    · unfold dl
      rw [List.map_append, List.map_cons, List.map_take, List.map_drop, Int.zero_add]
    · rw [List.range_succ, List.map_append]
      refine List.perm_middle.trans ?_
      rw [List.take_append_drop]
      exact (hO.cons _).trans (List.perm_append_comm (l₁ := [(i : Int)]))
  · obtain ⟨n, m, o, x3, rfl, hp, hO⟩ := h2
    try simp only [wpA1, wpA2, wpA3, wpA4, wpA5, wpA6, wpA7, implies_true, forall_const, ↓bc_t, ↓bc_f, rds, rd, tks, tks1, tk, brwArg, allW, mkTup, heldB, Op.pm, Op.wm, Op.watch, putIn, live, ownL, cArgs, apartArgs, outDs, putOuts, noBrw, takeSlot, shallow, isW, lateIn, Es.vars, Tg.set, setAll, wipeR, startE, initE, outsOf, if_true, if_false, reduceIte, Nat.reduceEqDiff, Nat.reduceLT, Nat.reduceLeDiff, Nat.reduceAdd, Nat.reduceSub, ne_eq, reduceCtorEq, wKeys, wKey, Int.reduceToNat, Nat.reduceBEq]
    exact k _ _ o hp hO
def d_by : Def := ⟨["pot", "web"], ["pot", "web", "moments", "low", "high", "meet"], [true, false],
 (.cons (.asg 2 (.op (.bin .add) (.cons (.lc (.one 5) (.seq (.cons (.op .idx (.cons (.var 1) (.cons (.cst (.int 1)) .nil))) .nil)) (.op .idx (.cons (.var 5) (.cons (.cst (.int 0)) .nil))) [("meet", 5)]) (.cons (.op .lst (.cons (.cst (.int 0)) .nil)) .nil))))
 (.cons (.asg 3 (.op (.bin .sub) (.cons (.op .neg (.cons (.op (.bin .pow) (.cons (.cst (.int 10)) (.cons (.cst (.int 9)) .nil))) .nil)) (.cons (.op .min1 (.cons (.var 2) .nil)) .nil))))
 (.cons (.asg 4 (.op (.bin .sub) (.cons (.op (.bin .pow) (.cons (.cst (.int 10)) (.cons (.cst (.int 9)) .nil))) (.cons (.op .max1 (.cons (.var 2) .nil)) .nil))))
 (.cons (.ret (.op .idx (.cons (.op .lst (.cons (.var 3) (.cons (.var 4) (.cons (.op (.bin .add) (.cons (.var 3) (.cons (.call "_law_take" (.cons (.var 0) (.cons (.op (.bin .add) (.cons (.op (.bin .sub) (.cons (.var 4) (.cons (.var 3) .nil))) (.cons (.cst (.int 1)) .nil))) .nil))) .nil))) (.cons (.op .min2 (.cons (.var 4) (.cons (.call "_law_take" (.cons (.var 0) (.cons (.cst (.int 9)) .nil))) .nil))) .nil))))) (.cons (.call "_law_take" (.cons (.var 0) (.cons (.cst (.int 4)) .nil))) .nil))))
 .nil))))⟩
def T_by : Tab := [F_take]
theorem tf_by_take : T_by.find "_law_take" = some F_take := rfl
def sp_by : FSpec := fun ds Q X => ∃ (n m : Int) (g : Web), ds = [pot n m, dWeb g] ∧ (PotOk n m ∧ WebOk g ∧ ∀ n' m' t, PotOk n' m' → (∀ q ∈ g.ms, -(10 ^ 9) ≤ q.1 + t ∧ q.1 + t ≤ 10 ^ 9) → Q (dI t) [pot n' m'])
def F_by : Fn := ⟨"_law_by", [true, false], 2, sp_by⟩
theorem fs_by : F_by.sig = [true, false] := rfl
theorem fp_by : F_by.spec = sp_by := rfl
theorem mk_by (n m : Int) (g : Web) (Q : Kn (D → List D → Prop)) (X : Kn (Ex → List D → Prop)) : sB sp_by [pot n m, dWeb g] = (PotOk n m ∧ WebOk g ∧ ∀ n' m' t, PotOk n' m' → (∀ q ∈ g.ms, -(10 ^ 9) ≤ q.1 + t ∧ q.1 + t ≤ 10 ^ 9) → Q.k (dI t) [pot n' m']) := by
  refine propext ⟨fun h => ?_, fun h => ⟨n, m, g, rfl, h⟩⟩
  obtain ⟨n', m', g', e, h⟩ := h
  simp only [and_assoc, List.cons.injEq, and_true, true_and, D.w.injEq, D.lst.injEq, D.tup.injEq, D.fz.injEq, D.dK.injEq, D.dT.injEq, W.int.injEq, W.bl.injEq, W.tup.injEq, W.str.injEq, wWeb_inj, dl_inj3, dl_injI, map_inj3, map_injI, w3_inj, dl_injO, dl_injS, wO_inj, wS_inj, w2_inj, dl_inj2, wG_inj, dl_injG] at e
  obtain ⟨rfl, rfl, rfl⟩ := e
  exact h
theorem v_by : Ver T_by d_by sp_by := by
  intro ds Q1 X1 h
  obtain ⟨n, m, g, rfl, hp, hg, k⟩ := h
  have h24 := hg.len
  try simp only [d_by, wpA1, wpA2, wpA3, wpA4, wpA5, wpA6, wpA7, implies_true, forall_const, ↓bc_t, ↓bc_f, rds, rd, tks, tks1, tk, brwArg, allW, mkTup, heldB, Op.pm, Op.wm, Op.watch, putIn, live, ownL, cArgs, apartArgs, outDs, putOuts, noBrw, takeSlot, shallow, isW, lateIn, Es.vars, Tg.set, setAll, wipeR, startE, initE, outsOf, if_true, if_false, reduceIte, Nat.reduceEqDiff, Nat.reduceLT, Nat.reduceLeDiff, Nat.reduceAdd, Nat.reduceSub, ne_eq, reduceCtorEq, wKeys, wKey, Int.reduceToNat, Nat.reduceBEq]
  refine lc_dl W.int (fun q => q.1) g.ms (stays_nil _) (sz (by omega)) (fun x hx k hk => ?_) ?_
  · try simp only [turnL, wpA1, wpA2, wpA3, wpA4, wpA5, wpA6, wpA7, implies_true, forall_const, ↓bc_t, ↓bc_f, rds, rd, tks, tks1, tk, brwArg, allW, mkTup, heldB, Op.pm, Op.wm, Op.watch, putIn, live, ownL, cArgs, apartArgs, outDs, putOuts, noBrw, takeSlot, shallow, isW, lateIn, Es.vars, Tg.set, setAll, wipeR, startE, initE, outsOf, if_true, if_false, reduceIte, Nat.reduceEqDiff, Nat.reduceLT, Nat.reduceLeDiff, Nat.reduceAdd, Nat.reduceSub, ne_eq, reduceCtorEq, wKeys, wKey, Int.reduceToNat, Nat.reduceBEq]
    exact hk
  try simp only [wpA1, wpA2, wpA3, wpA4, wpA5, wpA6, wpA7, implies_true, forall_const, ↓bc_t, ↓bc_f, rds, rd, tks, tks1, tk, brwArg, allW, mkTup, heldB, Op.pm, Op.wm, Op.watch, putIn, live, ownL, cArgs, apartArgs, outDs, putOuts, noBrw, takeSlot, shallow, isW, lateIn, Es.vars, Tg.set, setAll, wipeR, startE, initE, outsOf, if_true, if_false, reduceIte, Nat.reduceEqDiff, Nat.reduceLT, Nat.reduceLeDiff, Nat.reduceAdd, Nat.reduceSub, ne_eq, reduceCtorEq, wKeys, wKey, Int.reduceToNat, Nat.reduceBEq, eqA1, eqA2, tf_by_take, fs_take, fp_take, mk_take]
  refine ⟨sz (by omega), ⟨by decide, by decide, by decide⟩, by rw [List.length_append]; exact Nat.succ_pos _, fun lo h1 h2 => ⟨⟨by decide, by decide, by decide⟩, by rw [List.length_append]; exact Nat.succ_pos _, fun hi h3 h4 => ?_⟩⟩
  have bd : ∀ x ∈ g.ms.map (fun q => q.1) ++ [0], -(10 ^ 9) ≤ x ∧ x ≤ 10 ^ 9 := fun x hx => by
    rcases List.mem_append.mp hx with hx | hx
    · obtain ⟨q, hq, rfl⟩ := List.mem_map.mp hx
      exact ⟨(hg.ok q hq).1, (hg.ok q hq).2.1⟩
    · rw [List.mem_singleton] at hx
      subst hx
      exact ⟨by decide, by decide⟩
  have b1 := bd lo h1
  have b2 := bd hi h3
  have z : (0 : Int) ∈ g.ms.map (fun q => q.1) ++ [0] := List.mem_append_right _ List.mem_cons_self
  have z1 := h2 0 z
  have z2 := h4 0 z
  refine ⟨hp, by omega, by omega, fun n m d hp d0 d1 => ⟨hp, by decide, by decide, fun n m c hp c0 c1 => ⟨hp, by decide, by decide, fun n m e hp e0 e1 => ?_⟩⟩⟩
  have fin : ∀ t : Int, -(10 ^ 9) - lo ≤ t → t ≤ 10 ^ 9 - hi → Q1 (dI t) [pot n m] := fun t t0 t1 => k n m t hp fun q hq => by
    have m1 : q.1 ∈ g.ms.map (fun q => q.1) ++ [0] := List.mem_append_left _ (List.mem_map.mpr ⟨q, hq, rfl⟩)
    have := h2 _ m1
    have := h4 _ m1
    omega
  refine ob_at e0 e1 fun y hy => ?_
  simp only [List.mem_cons, List.not_mem_nil, or_false] at hy
  rcases hy with rfl | rfl | rfl | rfl <;> try simp only [wpA1, wpA2, wpA3, wpA4, wpA5, wpA6, wpA7, implies_true, forall_const, ↓bc_t, ↓bc_f, rds, rd, tks, tks1, tk, brwArg, allW, mkTup, heldB, Op.pm, Op.wm, Op.watch, putIn, live, ownL, cArgs, apartArgs, outDs, putOuts, noBrw, takeSlot, shallow, isW, lateIn, Es.vars, Tg.set, setAll, wipeR, startE, initE, outsOf, if_true, if_false, reduceIte, Nat.reduceEqDiff, Nat.reduceLT, Nat.reduceLeDiff, Nat.reduceAdd, Nat.reduceSub, ne_eq, reduceCtorEq, wKeys, wKey, Int.reduceToNat, Nat.reduceBEq] <;> refine fin _ ?_ ?_ <;> first | omega | (split <;> omega)
def d_bound : Def := ⟨["pot", "web"], ["pot", "web", "near"], [true, false],
 (.cons (.asg 2 (.call "_law_take" (.cons (.var 0) (.cons (.cst (.int 30)) .nil))))
 (.cons (.ifS (.op (.cmp .ne) (.cons (.op .idx (.cons (.var 1) (.cons (.cst (.int 1)) .nil))) (.cons (.op .tup .nil) .nil)))
 (.cons (.asg 2 (.op (.bin .sub) (.cons (.op (.bin .add) (.cons (.op .idx (.cons (.op .idx (.cons (.op .idx (.cons (.var 1) (.cons (.cst (.int 1)) .nil))) (.cons (.call "_law_take" (.cons (.var 0) (.cons (.op .len (.cons (.op .idx (.cons (.var 1) (.cons (.cst (.int 1)) .nil))) .nil)) .nil))) .nil))) (.cons (.cst (.int 0)) .nil))) (.cons (.call "_law_take" (.cons (.var 0) (.cons (.cst (.int 3)) .nil))) .nil))) (.cons (.cst (.int 1)) .nil))))
 .nil)
 .nil)
 (.cons (.ret (.op .idx (.cons (.op .lst (.cons (.var 2) (.cons (.var 2) (.cons (.var 2) (.cons (.call "_law_take" (.cons (.var 0) (.cons (.op (.bin .pow) (.cons (.cst (.int 10)) (.cons (.cst (.int 30)) .nil))) .nil))) (.cons (.op .neg (.cons (.call "_law_take" (.cons (.var 0) (.cons (.op (.bin .pow) (.cons (.cst (.int 10)) (.cons (.cst (.int 30)) .nil))) .nil))) .nil)) .nil)))))) (.cons (.call "_law_take" (.cons (.var 0) (.cons (.cst (.int 5)) .nil))) .nil))))
 .nil)))⟩
def T_bound : Tab := [F_take]
theorem tf_bound_take : T_bound.find "_law_take" = some F_take := rfl
def sp_bound : FSpec := fun ds Q X => ∃ (n m : Int) (g : Web), ds = [pot n m, dWeb g] ∧ (PotOk n m ∧ g.ms.length ≤ 24 ∧ ∀ n' m' t, PotOk n' m' → Q (dI t) [pot n' m'])
def F_bound : Fn := ⟨"_law_bound", [true, false], 2, sp_bound⟩
theorem fs_bound : F_bound.sig = [true, false] := rfl
theorem fp_bound : F_bound.spec = sp_bound := rfl
theorem mk_bound (n m : Int) (g : Web) (Q : Kn (D → List D → Prop)) (X : Kn (Ex → List D → Prop)) : sB sp_bound [pot n m, dWeb g] = (PotOk n m ∧ g.ms.length ≤ 24 ∧ ∀ n' m' t, PotOk n' m' → Q.k (dI t) [pot n' m']) := by
  refine propext ⟨fun h => ?_, fun h => ⟨n, m, g, rfl, h⟩⟩
  obtain ⟨n', m', g', e, h⟩ := h
  simp only [and_assoc, List.cons.injEq, and_true, true_and, D.w.injEq, D.lst.injEq, D.tup.injEq, D.fz.injEq, D.dK.injEq, D.dT.injEq, W.int.injEq, W.bl.injEq, W.tup.injEq, W.str.injEq, wWeb_inj, dl_inj3, dl_injI, map_inj3, map_injI, w3_inj, dl_injO, dl_injS, wO_inj, wS_inj, w2_inj, dl_inj2, wG_inj, dl_injG] at e
  obtain ⟨rfl, rfl, rfl⟩ := e
  exact h
theorem v_bound : Ver T_bound d_bound sp_bound := by
  intro ds Q1 X1 h
  obtain ⟨n, m, g, rfl, hp, h24, k⟩ := h
  try simp only [d_bound, wpA1, wpA2, wpA3, wpA4, wpA5, wpA6, wpA7, implies_true, forall_const, ↓bc_t, ↓bc_f, rds, rd, tks, tks1, tk, brwArg, allW, mkTup, heldB, Op.pm, Op.wm, Op.watch, putIn, live, ownL, cArgs, apartArgs, outDs, putOuts, noBrw, takeSlot, shallow, isW, lateIn, Es.vars, Tg.set, setAll, wipeR, startE, initE, outsOf, if_true, if_false, reduceIte, Nat.reduceEqDiff, Nat.reduceLT, Nat.reduceLeDiff, Nat.reduceAdd, Nat.reduceSub, ne_eq, reduceCtorEq, wKeys, wKey, Int.reduceToNat, Nat.reduceBEq, eqA1, eqA2, tf_bound_take, fs_take, fp_take, mk_take]
  refine ⟨hp, by decide, by decide, fun n m d hp d0 d1 => bc_of (fun e => ?_) fun e => ?_⟩
  · rw [Bool.not_eq_true', decide_eq_false_iff_not] at e
    have hpos := List.length_pos_iff.mpr e
    refine ⟨hp, by omega, by omega, fun n m d hp d0 d1 => ob_map d0 d1 fun x _ => ?_⟩
    try simp only [wpA1, wpA2, wpA3, wpA4, wpA5, wpA6, wpA7, implies_true, forall_const, ↓bc_t, ↓bc_f, rds, rd, tks, tks1, tk, brwArg, allW, mkTup, heldB, Op.pm, Op.wm, Op.watch, putIn, live, ownL, cArgs, apartArgs, outDs, putOuts, noBrw, takeSlot, shallow, isW, lateIn, Es.vars, Tg.set, setAll, wipeR, startE, initE, outsOf, if_true, if_false, reduceIte, Nat.reduceEqDiff, Nat.reduceLT, Nat.reduceLeDiff, Nat.reduceAdd, Nat.reduceSub, ne_eq, reduceCtorEq, wKeys, wKey, Int.reduceToNat, Nat.reduceBEq, eqA1, eqA2, tf_bound_take, fs_take, fp_take, mk_take]
    refine ⟨hp, by decide, by decide, fun n m c hp _ _ => ⟨⟨by decide, by decide, by decide⟩, hp, by decide, by decide, fun n m d1 hp _ _ => ⟨⟨by decide, by decide, by decide⟩, hp, by decide, by decide, fun n m d2 hp _ _ => ⟨hp, by decide, by decide, fun n m d3 hp e0 e1 => ?_⟩⟩⟩⟩
    refine ob_at e0 e1 fun y hy => ?_
    simp only [List.mem_cons, List.not_mem_nil, or_false] at hy
    rcases hy with rfl | rfl | rfl | rfl | rfl <;> try simp only [wpA1, wpA2, wpA3, wpA4, wpA5, wpA6, wpA7, implies_true, forall_const, ↓bc_t, ↓bc_f, rds, rd, tks, tks1, tk, brwArg, allW, mkTup, heldB, Op.pm, Op.wm, Op.watch, putIn, live, ownL, cArgs, apartArgs, outDs, putOuts, noBrw, takeSlot, shallow, isW, lateIn, Es.vars, Tg.set, setAll, wipeR, startE, initE, outsOf, if_true, if_false, reduceIte, Nat.reduceEqDiff, Nat.reduceLT, Nat.reduceLeDiff, Nat.reduceAdd, Nat.reduceSub, ne_eq, reduceCtorEq, wKeys, wKey, Int.reduceToNat, Nat.reduceBEq] <;> exact k _ _ _ hp
  · refine ⟨⟨by decide, by decide, by decide⟩, hp, by decide, by decide, fun n m d1 hp _ _ => ⟨⟨by decide, by decide, by decide⟩, hp, by decide, by decide, fun n m d2 hp _ _ => ⟨hp, by decide, by decide, fun n m d3 hp e0 e1 => ?_⟩⟩⟩
    refine ob_at e0 e1 fun y hy => ?_
    simp only [List.mem_cons, List.not_mem_nil, or_false] at hy
    rcases hy with rfl | rfl | rfl | rfl | rfl <;> try simp only [wpA1, wpA2, wpA3, wpA4, wpA5, wpA6, wpA7, implies_true, forall_const, ↓bc_t, ↓bc_f, rds, rd, tks, tks1, tk, brwArg, allW, mkTup, heldB, Op.pm, Op.wm, Op.watch, putIn, live, ownL, cArgs, apartArgs, outDs, putOuts, noBrw, takeSlot, shallow, isW, lateIn, Es.vars, Tg.set, setAll, wipeR, startE, initE, outsOf, if_true, if_false, reduceIte, Nat.reduceEqDiff, Nat.reduceLT, Nat.reduceLeDiff, Nat.reduceAdd, Nat.reduceSub, ne_eq, reduceCtorEq, wKeys, wKey, Int.reduceToNat, Nat.reduceBEq] <;> exact k _ _ _ hp
end Wm
namespace Wm
open PySem PySem.Spec PyProof.Rows L2
def d_nextC : Def := ⟨["pool", "base"], ["pool", "base", "mixed", "stir", "digit"], [true, false],
 (.cons (.ifS (.op (.cmp .gt) (.cons (.op .idx (.cons (.var 0) (.cons (.cst (.int 0)) .nil))) (.cons (.cst (.int 0)) .nil)))
 (.cons (.asg 4 (.op (.bin .mod) (.cons (.op .idx (.cons (.var 0) (.cons (.cst (.int 0)) .nil))) (.cons (.var 1) .nil))))
 (.cons (.setI 0 (.cst (.int 0)) (.op (.bin .fdiv) (.cons (.op .idx (.cons (.var 0) (.cons (.cst (.int 0)) .nil))) (.cons (.var 1) .nil))))
 (.cons (.ret (.var 4))
 .nil)))
 .nil)
 (.cons (.setI 0 (.cst (.int 2)) (.op (.bin .add) (.cons (.op .idx (.cons (.var 0) (.cons (.cst (.int 2)) .nil))) (.cons (.cst (.int 1)) .nil))))
 (.cons (.asg 2 (.op (.bin .mod) (.cons (.op (.bin .add) (.cons (.op .idx (.cons (.var 0) (.cons (.cst (.int 1)) .nil))) (.cons (.op (.bin .mul) (.cons (.cst (.int 7919)) (.cons (.op .idx (.cons (.var 0) (.cons (.cst (.int 2)) .nil))) .nil))) .nil))) (.cons (.cst (.int 1000000007)) .nil))))
 (.cons (.asg 3 (.op (.bin .mod) (.cons (.op (.bin .mul) (.cons (.op (.bin .add) (.cons (.var 2) (.cons (.cst (.int 11)) .nil))) (.cons (.op (.bin .add) (.cons (.var 2) (.cons (.cst (.int 48271)) .nil))) .nil))) (.cons (.cst (.int 998244353)) .nil))))
 (.cons (.ret (.op (.bin .mod) (.cons (.op (.bin .fdiv) (.cons (.op (.bin .mod) (.cons (.op (.bin .mul) (.cons (.var 3) (.cons (.var 3) .nil))) (.cons (.cst (.int 2147483647)) .nil))) (.cons (.cst (.int 8)) .nil))) (.cons (.var 1) .nil))))
 .nil)))))⟩
def T_nextC : Tab := []
def sp_nextC : FSpec := fun ds Q X => ∃ (a b c base : Int), ds = [pool a b c, dI base] ∧ (PoolOk a b c ∧ 0 < base ∧ base < 2 ^ 200 ∧ ∀ a' b' c' d, PoolOk a' b' c' → 0 ≤ d → d < base → Q (dI d) [pool a' b' c'])
def F_nextC : Fn := ⟨"_law_next", [true, false], 1, sp_nextC⟩
theorem fs_nextC : F_nextC.sig = [true, false] := rfl
theorem fp_nextC : F_nextC.spec = sp_nextC := rfl
theorem mk_nextC (a b c base : Int) (Q : Kn (D → List D → Prop)) (X : Kn (Ex → List D → Prop)) : sB sp_nextC [pool a b c, dI base] = (PoolOk a b c ∧ 0 < base ∧ base < 2 ^ 200 ∧ ∀ a' b' c' d, PoolOk a' b' c' → 0 ≤ d → d < base → Q.k (dI d) [pool a' b' c']) := by
  refine propext ⟨fun h => ?_, fun h => ⟨a, b, c, base, rfl, h⟩⟩
  obtain ⟨a', b', c', base', e, h⟩ := h
  simp only [and_assoc, List.cons.injEq, and_true, true_and, D.w.injEq, D.lst.injEq, D.tup.injEq, D.fz.injEq, D.dK.injEq, D.dT.injEq, W.int.injEq, W.bl.injEq, W.tup.injEq, W.str.injEq, wWeb_inj, dl_inj3, dl_injI, map_inj3, map_injI, w3_inj, dl_injO, dl_injS, wO_inj, wS_inj, w2_inj, dl_inj2, wG_inj, dl_injG] at e
  obtain ⟨rfl, rfl, rfl, rfl⟩ := e
  exact h
theorem v_nextC : Ver T_nextC d_nextC sp_nextC := by
  intro ds Q1 X1 h
  obtain ⟨a, b, c, base, rfl, ⟨ha, hb, hb2, hc⟩, h0, h1, k⟩ := h
  try simp only [d_nextC, wpA1, wpA2, wpA3, wpA4, wpA5, wpA6, wpA7, implies_true, forall_const, ↓bc_t, ↓bc_f, rds, rd, tks, tks1, tk, brwArg, allW, mkTup, heldB, Op.pm, Op.wm, Op.watch, putIn, live, ownL, cArgs, apartArgs, outDs, putOuts, noBrw, takeSlot, shallow, isW, lateIn, Es.vars, Tg.set, setAll, wipeR, startE, initE, outsOf, if_true, if_false, reduceIte, Nat.reduceEqDiff, Nat.reduceLT, Nat.reduceLeDiff, Nat.reduceAdd, Nat.reduceSub, ne_eq, reduceCtorEq, wKeys, wKey, Int.reduceToNat, Nat.reduceBEq]
  refine bc_dec (fun e => ?_) fun e => ?_
  · exact ⟨h0, cdivB h0 h1, k _ _ _ _ ⟨Int.ediv_nonneg ha (by omega), hb, hb2, hc⟩ (Int.emod_nonneg _ (by omega)) (Int.emod_lt_of_pos _ h0)⟩
  · exact ⟨cmul_l (by decide) (by decide), by decide, cmul_l (by omega) (by omega), by decide, cmul_l (by omega) (by omega), by decide, cdiv (by decide) (by decide), h0, k _ _ _ _ ⟨ha, hb, hb2, by omega⟩ (Int.emod_nonneg _ (by omega)) (Int.emod_lt_of_pos _ h0)⟩
def d_cellsC : Def := ⟨["script", "most"], ["script", "most", "cells", "k"], [false, false],
 (.cons (.asg 2 (.op .list (.cons (.op (.slice false true) (.cons (.var 0) (.cons (.var 1) .nil))) .nil)))
 (.cons (.forS (.one 3) (.rng (.cons (.var 1) (.cons (.op .len (.cons (.var 0) .nil)) .nil)))
 (.cons (.setI 2 (.op (.bin .mod) (.cons (.var 3) (.cons (.var 1) .nil))) (.op (.bin .add) (.cons (.op (.bin .mul) (.cons (.op (.bin .mod) (.cons (.op .idx (.cons (.var 2) (.cons (.op (.bin .mod) (.cons (.var 3) (.cons (.var 1) .nil))) .nil))) (.cons (.op (.bin .pow) (.cons (.cst (.int 10)) (.cons (.cst (.int 60)) .nil))) .nil))) (.cons (.cst (.int 31)) .nil))) (.cons (.op .idx (.cons (.var 0) (.cons (.var 3) .nil))) .nil))))
 .nil))
 (.cons (.ret (.var 2))
 .nil)))⟩
def T_cellsC : Tab := []
def sp_cellsC : FSpec := fun ds Q X => ∃ (l : List Int) (most : Int), ds = [.fz (l.map .int), dI most] ∧ (l.length ≤ 63 ∧ 0 < most ∧ most ≤ 63 ∧ ∀ c : List Int, c.length ≤ most → Q (.lst (dl W.int c)) [])
def F_cellsC : Fn := ⟨"_law_cells", [false, false], 1, sp_cellsC⟩
theorem fs_cellsC : F_cellsC.sig = [false, false] := rfl
theorem fp_cellsC : F_cellsC.spec = sp_cellsC := rfl
theorem mk_cellsC (l : List Int) (most : Int) (Q : Kn (D → List D → Prop)) (X : Kn (Ex → List D → Prop)) : sB sp_cellsC [.fz (l.map .int), dI most] = (l.length ≤ 63 ∧ 0 < most ∧ most ≤ 63 ∧ ∀ c : List Int, c.length ≤ most → Q.k (.lst (dl W.int c)) []) := by
  refine propext ⟨fun h => ?_, fun h => ⟨l, most, rfl, h⟩⟩
  obtain ⟨l', most', e, h⟩ := h
  simp only [and_assoc, List.cons.injEq, and_true, true_and, D.w.injEq, D.lst.injEq, D.tup.injEq, D.fz.injEq, D.dK.injEq, D.dT.injEq, W.int.injEq, W.bl.injEq, W.tup.injEq, W.str.injEq, wWeb_inj, dl_inj3, dl_injI, map_inj3, map_injI, w3_inj, dl_injO, dl_injS, wO_inj, wS_inj, w2_inj, dl_inj2, wG_inj, dl_injG] at e
  obtain ⟨rfl, rfl⟩ := e
  exact h
theorem v_cellsC : Ver T_cellsC d_cellsC sp_cellsC := by
  intro ds Q1 X1 h
  obtain ⟨l, most, rfl, h0, h1, h2, k⟩ := h
  try simp only [d_cellsC, wpA1, wpA2, wpA3, wpA4, wpA5, wpA6, wpA7, implies_true, forall_const, ↓bc_t, ↓bc_f, rds, rd, tks, tks1, tk, brwArg, allW, mkTup, heldB, Op.pm, Op.wm, Op.watch, putIn, live, ownL, cArgs, apartArgs, outDs, putOuts, noBrw, takeSlot, shallow, isW, lateIn, Es.vars, Tg.set, setAll, wipeR, startE, initE, outsOf, if_true, if_false, reduceIte, Nat.reduceEqDiff, Nat.reduceLT, Nat.reduceLeDiff, Nat.reduceAdd, Nat.reduceSub, ne_eq, reduceCtorEq, wKeys, wKey, Int.reduceToNat, Nat.reduceBEq]
  refine ⟨s62 (by omega) (by omega), s62 (by omega) (by omega), for_range (fun i ρ => ∃ c x3, ρ = [some ⟨.par, .fz (l.map .int)⟩, some (sw (.int most)), some ⟨.own, .lst (dl W.int c)⟩, x3] ∧ c.length = min most.toNat l.length) ⟨_, _, rfl, ?_⟩ (fun i ρ k hi h0 hk => ⟨stays_nil _, ?_⟩) fun ρ h0 => ⟨stays_nil _, ?_⟩⟩
  · rw [show most = ((most.toNat : Nat) : Int) by omega, cutL_hi, List.length_take]
    omega
  · obtain ⟨c, x3, rfl, hc⟩ := h0
    have g0 : 0 ≤ (most + ↑i) % most := Int.emod_nonneg _ (by omega)
    have g1 : (most + ↑i) % most < most := Int.emod_lt_of_pos _ (by omega)
    try simp only [turnF, wpA1, wpA2, wpA3, wpA4, wpA5, wpA6, wpA7, implies_true, forall_const, ↓bc_t, ↓bc_f, rds, rd, tks, tks1, tk, brwArg, allW, mkTup, heldB, Op.pm, Op.wm, Op.watch, putIn, live, ownL, cArgs, apartArgs, outDs, putOuts, noBrw, takeSlot, shallow, isW, lateIn, Es.vars, Tg.set, setAll, wipeR, startE, initE, outsOf, if_true, if_false, reduceIte, Nat.reduceEqDiff, Nat.reduceLT, Nat.reduceLeDiff, Nat.reduceAdd, Nat.reduceSub, ne_eq, reduceCtorEq, wKeys, wKey, Int.reduceToNat, Nat.reduceBEq]
    refine ⟨h1, ob_dl g0 (by omega) fun x _ => ?_⟩
    try simp only [wpA1, wpA2, wpA3, wpA4, wpA5, wpA6, wpA7, implies_true, forall_const, ↓bc_t, ↓bc_f, rds, rd, tks, tks1, tk, brwArg, allW, mkTup, heldB, Op.pm, Op.wm, Op.watch, putIn, live, ownL, cArgs, apartArgs, outDs, putOuts, noBrw, takeSlot, shallow, isW, lateIn, Es.vars, Tg.set, setAll, wipeR, startE, initE, outsOf, if_true, if_false, reduceIte, Nat.reduceEqDiff, Nat.reduceLT, Nat.reduceLeDiff, Nat.reduceAdd, Nat.reduceSub, ne_eq, reduceCtorEq, wKeys, wKey, Int.reduceToNat, Nat.reduceBEq]
    refine ⟨⟨by decide, by decide, by decide⟩, by decide, cmul_r (by decide) (by decide), ?_⟩
    refine ob_dl (by omega) (by omega) fun y _ => ?_
    try simp only [wpA1, wpA2, wpA3, wpA4, wpA5, wpA6, wpA7, implies_true, forall_const, ↓bc_t, ↓bc_f, rds, rd, tks, tks1, tk, brwArg, allW, mkTup, heldB, Op.pm, Op.wm, Op.watch, putIn, live, ownL, cArgs, apartArgs, outDs, putOuts, noBrw, takeSlot, shallow, isW, lateIn, Es.vars, Tg.set, setAll, wipeR, startE, initE, outsOf, if_true, if_false, reduceIte, Nat.reduceEqDiff, Nat.reduceLT, Nat.reduceLeDiff, Nat.reduceAdd, Nat.reduceSub, ne_eq, reduceCtorEq, wKeys, wKey, Int.reduceToNat, Nat.reduceBEq]
    refine ⟨h1, ob_of (ix_at g0 (by omega)) ?_⟩
    try simp only [wpA1, wpA2, wpA3, wpA4, wpA5, wpA6, wpA7, implies_true, forall_const, ↓bc_t, ↓bc_f, rds, rd, tks, tks1, tk, brwArg, allW, mkTup, heldB, Op.pm, Op.wm, Op.watch, putIn, live, ownL, cArgs, apartArgs, outDs, putOuts, noBrw, takeSlot, shallow, isW, lateIn, Es.vars, Tg.set, setAll, wipeR, startE, initE, outsOf, if_true, if_false, reduceIte, Nat.reduceEqDiff, Nat.reduceLT, Nat.reduceLeDiff, Nat.reduceAdd, Nat.reduceSub, ne_eq, reduceCtorEq, wKeys, wKey, Int.reduceToNat, Nat.reduceBEq]
    exact hk _ ⟨_, _, rfl, by rw [List.length_set]; exact hc⟩
  · obtain ⟨c, x3, rfl, hc⟩ := h0
    try simp only [wpA1, wpA2, wpA3, wpA4, wpA5, wpA6, wpA7, implies_true, forall_const, ↓bc_t, ↓bc_f, rds, rd, tks, tks1, tk, brwArg, allW, mkTup, heldB, Op.pm, Op.wm, Op.watch, putIn, live, ownL, cArgs, apartArgs, outDs, putOuts, noBrw, takeSlot, shallow, isW, lateIn, Es.vars, Tg.set, setAll, wipeR, startE, initE, outsOf, if_true, if_false, reduceIte, Nat.reduceEqDiff, Nat.reduceLT, Nat.reduceLeDiff, Nat.reduceAdd, Nat.reduceSub, ne_eq, reduceCtorEq, wKeys, wKey, Int.reduceToNat, Nat.reduceBEq]
    exact k c (by omega)
def d_momentC : Def := ⟨["pool", "kind"], ["pool", "kind"], [true, false],
 (.cons (.ifS (.op (.cmp .eq) (.cons (.var 1) (.cons (.cst (.int 0)) .nil)))
 (.cons (.ret (.call "_law_next" (.cons (.var 0) (.cons (.cst (.int 7)) .nil))))
 .nil)
 .nil)
 (.cons (.ifS (.op (.cmp .eq) (.cons (.var 1) (.cons (.cst (.int 1)) .nil)))
 (.cons (.ret (.call "_law_next" (.cons (.var 0) (.cons (.cst (.int 31)) .nil))))
 .nil)
 .nil)
 (.cons (.ifS (.op (.cmp .eq) (.cons (.var 1) (.cons (.cst (.int 2)) .nil)))
 (.cons (.ret (.op (.bin .mul) (.cons (.cst (.int 3)) (.cons (.call "_law_next" (.cons (.var 0) (.cons (.cst (.int 12)) .nil))) .nil))))
 .nil)
 .nil)
 (.cons (.ifS (.op (.cmp .eq) (.cons (.var 1) (.cons (.cst (.int 3)) .nil)))
 (.cons (.ret (.op (.bin .sub) (.cons (.call "_law_next" (.cons (.var 0) (.cons (.cst (.int 21)) .nil))) (.cons (.cst (.int 10)) .nil))))
 .nil)
 .nil)
 (.cons (.ret (.op (.bin .sub) (.cons (.call "_law_next" (.cons (.var 0) (.cons (.op (.bin .add) (.cons (.op (.bin .mul) (.cons (.cst (.int 2)) (.cons (.op (.bin .pow) (.cons (.cst (.int 10)) (.cons (.cst (.int 9)) .nil))) .nil))) (.cons (.cst (.int 1)) .nil))) .nil))) (.cons (.op (.bin .pow) (.cons (.cst (.int 10)) (.cons (.cst (.int 9)) .nil))) .nil))))
 .nil)))))⟩
def T_momentC : Tab := [F_nextC]
theorem tf_momentC_nextC : T_momentC.find "_law_next" = some F_nextC := rfl
def sp_momentC : FSpec := fun ds Q X => ∃ (a b c kind : Int), ds = [pool a b c, dI kind] ∧ (PoolOk a b c ∧ 0 ≤ kind ∧ kind < 5 ∧ ∀ a' b' c' d, PoolOk a' b' c' → -(10 ^ 9) ≤ d → d ≤ 10 ^ 9 → Q (dI d) [pool a' b' c'])
def F_momentC : Fn := ⟨"_law_moment", [true, false], 2, sp_momentC⟩
theorem fs_momentC : F_momentC.sig = [true, false] := rfl
theorem fp_momentC : F_momentC.spec = sp_momentC := rfl
theorem mk_momentC (a b c kind : Int) (Q : Kn (D → List D → Prop)) (X : Kn (Ex → List D → Prop)) : sB sp_momentC [pool a b c, dI kind] = (PoolOk a b c ∧ 0 ≤ kind ∧ kind < 5 ∧ ∀ a' b' c' d, PoolOk a' b' c' → -(10 ^ 9) ≤ d → d ≤ 10 ^ 9 → Q.k (dI d) [pool a' b' c']) := by
  refine propext ⟨fun h => ?_, fun h => ⟨a, b, c, kind, rfl, h⟩⟩
  obtain ⟨a', b', c', kind', e, h⟩ := h
  simp only [and_assoc, List.cons.injEq, and_true, true_and, D.w.injEq, D.lst.injEq, D.tup.injEq, D.fz.injEq, D.dK.injEq, D.dT.injEq, W.int.injEq, W.bl.injEq, W.tup.injEq, W.str.injEq, wWeb_inj, dl_inj3, dl_injI, map_inj3, map_injI, w3_inj, dl_injO, dl_injS, wO_inj, wS_inj, w2_inj, dl_inj2, wG_inj, dl_injG] at e
  obtain ⟨rfl, rfl, rfl, rfl⟩ := e
  exact h
theorem v_momentC : Ver T_momentC d_momentC sp_momentC := by
  intro ds Q1 X1 h
  obtain ⟨a, b, c, kind, rfl, hp, h0, h1, k⟩ := h
  try simp only [d_momentC, wpA1, wpA2, wpA3, wpA4, wpA5, wpA6, wpA7, implies_true, forall_const, ↓bc_t, ↓bc_f, rds, rd, tks, tks1, tk, brwArg, allW, mkTup, heldB, Op.pm, Op.wm, Op.watch, putIn, live, ownL, cArgs, apartArgs, outDs, putOuts, noBrw, takeSlot, shallow, isW, lateIn, Es.vars, Tg.set, setAll, wipeR, startE, initE, outsOf, if_true, if_false, reduceIte, Nat.reduceEqDiff, Nat.reduceLT, Nat.reduceLeDiff, Nat.reduceAdd, Nat.reduceSub, ne_eq, reduceCtorEq, wKeys, wKey, Int.reduceToNat, Nat.reduceBEq, tf_momentC_nextC, fs_nextC, fp_nextC, mk_nextC]
  refine bc_dec (fun e => ?_) fun e => bc_dec (fun e => ?_) fun e => bc_dec (fun e => ?_) fun e => bc_dec (fun e => ?_) fun e => ?_
  · exact ⟨hp, by decide, by decide, fun a b c d hp d0 d1 => k _ _ _ _ hp (by omega) (by omega)⟩
  · exact ⟨hp, by decide, by decide, fun a b c d hp d0 d1 => k _ _ _ _ hp (by omega) (by omega)⟩
  · exact ⟨hp, by decide, by decide, fun a b c d hp d0 d1 => ⟨cmul_l (by decide) (by decide), k _ _ _ _ hp (by omega) (by omega)⟩⟩
  · exact ⟨hp, by decide, by decide, fun a b c d hp d0 d1 => k _ _ _ _ hp (by omega) (by omega)⟩
  · exact ⟨⟨by decide, by decide, by decide⟩, cmul_l (by decide) (by decide), hp, by decide, by decide, fun a b c d hp d0 d1 => ⟨⟨by decide, by decide, by decide⟩, k _ _ _ _ hp (by omega) (by omega)⟩⟩
def d_webC : Def := ⟨["pool", "kind"], ["pool", "kind", "many", "count", "found", "k", "one", "other", "meet"], [true, false],
 (.cons (.asg 2 (.op .idx (.cons (.op .lst (.cons (.cst (.int 3)) (.cons (.cst (.int 4)) (.cons (.cst (.int 5)) (.cons (.cst (.int 2)) (.cons (.cst (.int 6)) (.cons (.cst (.int 7)) (.cons (.cst (.int 1)) (.cons (.cst (.int 4)) .nil))))))))) (.cons (.call "_law_next" (.cons (.var 0) (.cons (.cst (.int 8)) .nil))) .nil))))
 (.cons (.asg 3 (.op .idx (.cons (.op .lst (.cons (.cst (.int 6)) (.cons (.cst (.int 3)) (.cons (.cst (.int 9)) (.cons (.cst (.int 12)) (.cons (.cst (.int 16)) (.cons (.cst (.int 24)) (.cons (.cst (.int 1)) (.cons (.cst (.int 0)) .nil))))))))) (.cons (.call "_law_next" (.cons (.var 0) (.cons (.cst (.int 8)) .nil))) .nil))))
 (.cons (.asg 4 (.op .lst .nil))
 (.cons (.forS (.one 5) (.rng (.cons (.op (.bin .mul) (.cons (.var 3) (.cons (.op .int (.cons (.op (.cmp .gt) (.cons (.var 2) (.cons (.cst (.int 1)) .nil))) .nil)) .nil))) .nil))
 (.cons (.asg 6 (.call "_law_next" (.cons (.var 0) (.cons (.var 2) .nil))))
 (.cons (.asg 7 (.op (.bin .mod) (.cons (.op (.bin .add) (.cons (.op (.bin .add) (.cons (.var 6) (.cons (.cst (.int 1)) .nil))) (.cons (.call "_law_next" (.cons (.var 0) (.cons (.op (.bin .sub) (.cons (.var 2) (.cons (.cst (.int 1)) .nil))) .nil))) .nil))) (.cons (.var 2) .nil))))
 (.cons (.asg 8 (.op .tup (.cons (.call "_law_moment" (.cons (.var 0) (.cons (.var 1) .nil))) (.cons (.op .min2 (.cons (.var 6) (.cons (.var 7) .nil))) (.cons (.op .max2 (.cons (.var 6) (.cons (.var 7) .nil))) .nil)))))
 (.cons (.ifS (.op (.cmp .notin) (.cons (.var 8) (.cons (.var 4) .nil)))
 (.cons (.expr (.mth .append 4 (.cons (.var 8) .nil)))
 .nil)
 .nil)
 .nil)))))
 (.cons (.ret (.op .tup (.cons (.var 2) (.cons (.op .tuple (.cons (.op .sorted (.cons (.var 4) .nil)) .nil)) .nil))))
 .nil)))))⟩
def T_webC : Tab := [F_nextC, F_momentC]
theorem tf_webC_nextC : T_webC.find "_law_next" = some F_nextC := rfl
theorem tf_webC_momentC : T_webC.find "_law_moment" = some F_momentC := rfl
def sp_webC : FSpec := fun ds Q X => ∃ (a b c kind : Int), ds = [pool a b c, dI kind] ∧ (PoolOk a b c ∧ 0 ≤ kind ∧ kind < 5 ∧ ∀ a' b' c' g, PoolOk a' b' c' → WebOk g → Q (dWeb g) [pool a' b' c'])
def F_webC : Fn := ⟨"_law_web", [true, false], 3, sp_webC⟩
theorem fs_webC : F_webC.sig = [true, false] := rfl
theorem fp_webC : F_webC.spec = sp_webC := rfl
theorem mk_webC (a b c kind : Int) (Q : Kn (D → List D → Prop)) (X : Kn (Ex → List D → Prop)) : sB sp_webC [pool a b c, dI kind] = (PoolOk a b c ∧ 0 ≤ kind ∧ kind < 5 ∧ ∀ a' b' c' g, PoolOk a' b' c' → WebOk g → Q.k (dWeb g) [pool a' b' c']) := by
  refine propext ⟨fun h => ?_, fun h => ⟨a, b, c, kind, rfl, h⟩⟩
  obtain ⟨a', b', c', kind', e, h⟩ := h
  simp only [and_assoc, List.cons.injEq, and_true, true_and, D.w.injEq, D.lst.injEq, D.tup.injEq, D.fz.injEq, D.dK.injEq, D.dT.injEq, W.int.injEq, W.bl.injEq, W.tup.injEq, W.str.injEq, wWeb_inj, dl_inj3, dl_injI, map_inj3, map_injI, w3_inj, dl_injO, dl_injS, wO_inj, wS_inj, w2_inj, dl_inj2, wG_inj, dl_injG] at e
  obtain ⟨rfl, rfl, rfl, rfl⟩ := e
  exact h
theorem v_webC : Ver T_webC d_webC sp_webC := by
  intro ds Q1 X1 h
  obtain ⟨a, b, c, kind, rfl, hp, k0, k1, k⟩ := h
  try simp only [d_webC, wpA1, wpA2, wpA3, wpA4, wpA5, wpA6, wpA7, implies_true, forall_const, ↓bc_t, ↓bc_f, rds, rd, tks, tks1, tk, brwArg, allW, mkTup, heldB, Op.pm, Op.wm, Op.watch, putIn, live, ownL, cArgs, apartArgs, outDs, putOuts, noBrw, takeSlot, shallow, isW, lateIn, Es.vars, Tg.set, setAll, wipeR, startE, initE, outsOf, if_true, if_false, reduceIte, Nat.reduceEqDiff, Nat.reduceLT, Nat.reduceLeDiff, Nat.reduceAdd, Nat.reduceSub, ne_eq, reduceCtorEq, wKeys, wKey, Int.reduceToNat, Nat.reduceBEq, tf_webC_nextC, tf_webC_momentC, fs_nextC, fp_nextC, mk_nextC, fs_momentC, fp_momentC, mk_momentC]
  refine ⟨hp, by decide, by decide, fun a b c d hp d0 d1 => ?_⟩
  refine ob_dl (f := W.int) (xs := [3, 4, 5, 2, 6, 7, 1, 4]) d0 d1 fun many hm => ?_
  have hm : 1 ≤ many ∧ many ≤ 7 := by
    simp only [List.mem_cons, List.not_mem_nil, or_false] at hm
    omega
  try simp only [wpA1, wpA2, wpA3, wpA4, wpA5, wpA6, wpA7, implies_true, forall_const, ↓bc_t, ↓bc_f, rds, rd, tks, tks1, tk, brwArg, allW, mkTup, heldB, Op.pm, Op.wm, Op.watch, putIn, live, ownL, cArgs, apartArgs, outDs, putOuts, noBrw, takeSlot, shallow, isW, lateIn, Es.vars, Tg.set, setAll, wipeR, startE, initE, outsOf, if_true, if_false, reduceIte, Nat.reduceEqDiff, Nat.reduceLT, Nat.reduceLeDiff, Nat.reduceAdd, Nat.reduceSub, ne_eq, reduceCtorEq, wKeys, wKey, Int.reduceToNat, Nat.reduceBEq, tf_webC_nextC, tf_webC_momentC, fs_nextC, fp_nextC, mk_nextC, fs_momentC, fp_momentC, mk_momentC]
  refine ⟨hp, by decide, by decide, fun a b c d hp d0 d1 => ?_⟩
  refine ob_dl (f := W.int) (xs := [6, 3, 9, 12, 16, 24, 1, 0]) d0 d1 fun j hj => ?_
  have hj : 0 ≤ j ∧ j ≤ 24 := by
    simp only [List.mem_cons, List.not_mem_nil, or_false] at hj
    omega
  try simp only [wpA1, wpA2, wpA3, wpA4, wpA5, wpA6, wpA7, implies_true, forall_const, ↓bc_t, ↓bc_f, rds, rd, tks, tks1, tk, brwArg, allW, mkTup, heldB, Op.pm, Op.wm, Op.watch, putIn, live, ownL, cArgs, apartArgs, outDs, putOuts, noBrw, takeSlot, shallow, isW, lateIn, Es.vars, Tg.set, setAll, wipeR, startE, initE, outsOf, if_true, if_false, reduceIte, Nat.reduceEqDiff, Nat.reduceLT, Nat.reduceLeDiff, Nat.reduceAdd, Nat.reduceSub, ne_eq, reduceCtorEq, wKeys, wKey, Int.reduceToNat, Nat.reduceBEq, tf_webC_nextC, tf_webC_momentC, fs_nextC, fp_nextC, mk_nextC, fs_momentC, fp_momentC, mk_momentC]
  have hcnt : 0 ≤ j * (if decide (1 < many) = true then 1 else 0) ∧ j * (if decide (1 < many) = true then 1 else 0) ≤ 24 ∧ (0 < j * (if decide (1 < many) = true then 1 else 0) → 1 < many) := by
    by_cases hm : 1 < many
    · rw [decide_eq_true hm, if_pos rfl]
      omega
    · rw [decide_eq_false hm, if_neg Bool.false_ne_true]
      omega
  refine ⟨cmul_l (by omega) (by omega), ?_⟩
  generalize j * (if decide (1 < many) = true then 1 else 0) = J at hcnt ⊢
  refine ⟨s62 (by omega) (by omega), for_range (fun i ρ => ∃ a b c l x3 x5 x6 x7 x8, ρ = [some ⟨.own, pool a b c⟩, some (sw (.int kind)), some (sw (.int many)), x3, some ⟨.own, .lst (dl w3 l)⟩, x5, x6, x7, x8] ∧ PoolOk a b c ∧ l.length ≤ i ∧ l.Nodup ∧ ∀ q ∈ l, MeetOk many q) ⟨_, _, _, [], _, _, _, _, _, rfl, hp, Nat.zero_le _, List.nodup_nil, fun _ h => nomatch h⟩ (fun i ρ k2 hi h2 hk => ⟨stays_nil _, ?_⟩) fun ρ h2 => ⟨stays_nil _, ?_⟩⟩
  · obtain ⟨a, b, c, l, x3, x5, x6, x7, x8, rfl, hp, hl, hn, hm2⟩ := h2
    have mp : 1 < many := hcnt.2.2 (by omega)
    try simp only [turnF, wpA1, wpA2, wpA3, wpA4, wpA5, wpA6, wpA7, implies_true, forall_const, ↓bc_t, ↓bc_f, rds, rd, tks, tks1, tk, brwArg, allW, mkTup, heldB, Op.pm, Op.wm, Op.watch, putIn, live, ownL, cArgs, apartArgs, outDs, putOuts, noBrw, takeSlot, shallow, isW, lateIn, Es.vars, Tg.set, setAll, wipeR, startE, initE, outsOf, if_true, if_false, reduceIte, Nat.reduceEqDiff, Nat.reduceLT, Nat.reduceLeDiff, Nat.reduceAdd, Nat.reduceSub, ne_eq, reduceCtorEq, wKeys, wKey, Int.reduceToNat, Nat.reduceBEq, eqA1, eqA2, tf_webC_nextC, tf_webC_momentC, fs_nextC, fp_nextC, mk_nextC, fs_momentC, fp_momentC, mk_momentC]
    refine ⟨hp, by omega, by omega, fun a b c one hp o0 o1 => ⟨hp, by omega, by omega, fun a b c oth hp t0 t1 => ⟨by omega, ?_⟩⟩⟩
    have g0 : 0 ≤ (one + 1 + oth) % many := Int.emod_nonneg _ (by omega)
    have g1 : (one + 1 + oth) % many < many := Int.emod_lt_of_pos _ (by omega)
    have ne := mod_ne o0 o1 t0 (by omega)
    generalize (one + 1 + oth) % many = other at g0 g1 ne ⊢
    refine ⟨hp, k0, k1, fun a b c d hp e0 e1 => ?_⟩
    have hab := pair_ok o0 o1 g0 g1 ne
    have := add_ok (x := (d, (if other < one then other else one), (if other > one then other else one))) hl hn hm2 ⟨e0, e1, hab⟩
    rw [bc_not]
    refine bc_dec (fun z => ?_) fun z => ?_
    · rw [if_pos z] at this
      exact hk _ ⟨_, _, _, l, _, _, _, _, _, rfl, hp, this⟩
    · rw [if_neg z] at this
      exact ⟨szl (by omega), hk _ ⟨_, _, _, _, _, _, _, _, _, rfl, hp, this⟩⟩
  · obtain ⟨a, b, c, l, x3, x5, x6, x7, x8, rfl, hp, hl, hn, hm2⟩ := h2
    try simp only [wpA1, wpA2, wpA3, wpA4, wpA5, wpA6, wpA7, implies_true, forall_const, ↓bc_t, ↓bc_f, rds, rd, tks, tks1, tk, brwArg, allW, mkTup, heldB, Op.pm, Op.wm, Op.watch, putIn, live, ownL, cArgs, apartArgs, outDs, putOuts, noBrw, takeSlot, shallow, isW, lateIn, Es.vars, Tg.set, setAll, wipeR, startE, initE, outsOf, if_true, if_false, reduceIte, Nat.reduceEqDiff, Nat.reduceLT, Nat.reduceLeDiff, Nat.reduceAdd, Nat.reduceSub, ne_eq, reduceCtorEq, wKeys, wKey, Int.reduceToNat, Nat.reduceBEq, eqA1, eqA2]
    exact ⟨by omega, k _ _ _ ⟨_, srt3 l⟩ hp (web_of (by omega) (by omega) (by omega) hn hm2)⟩
def d_restC : Def := ⟨["pool", "kind"], ["pool", "kind"], [true, false],
 (.cons (.ifS (.op (.cmp .eq) (.cons (.var 1) (.cons (.cst (.int 4)) .nil)))
 (.cons (.ret (.op .idx (.cons (.op .lst (.cons (.cst (.int 0)) (.cons (.cst (.int 1)) (.cons (.op (.bin .pow) (.cons (.cst (.int 10)) (.cons (.cst (.int 9)) .nil))) (.cons (.call "_law_next" (.cons (.var 0) (.cons (.op (.bin .pow) (.cons (.cst (.int 10)) (.cons (.cst (.int 9)) .nil))) .nil))) .nil))))) (.cons (.call "_law_next" (.cons (.var 0) (.cons (.cst (.int 4)) .nil))) .nil))))
 .nil)
 .nil)
 (.cons (.ret (.op .idx (.cons (.op .lst (.cons (.cst (.int 0)) (.cons (.cst (.int 1)) (.cons (.cst (.int 1)) (.cons (.cst (.int 2)) (.cons (.cst (.int 3)) (.cons (.cst (.int 0)) (.cons (.cst (.int 7)) (.cons (.op (.bin .pow) (.cons (.cst (.int 10)) (.cons (.cst (.int 9)) .nil))) .nil))))))))) (.cons (.call "_law_next" (.cons (.var 0) (.cons (.cst (.int 8)) .nil))) .nil))))
 .nil))⟩
def T_restC : Tab := [F_nextC]
theorem tf_restC_nextC : T_restC.find "_law_next" = some F_nextC := rfl
def sp_restC : FSpec := fun ds Q X => ∃ (a b c kind : Int), ds = [pool a b c, dI kind] ∧ (PoolOk a b c ∧ ∀ a' b' c' d, PoolOk a' b' c' → 0 ≤ d → d ≤ 10 ^ 9 → Q (dI d) [pool a' b' c'])
def F_restC : Fn := ⟨"_law_rest", [true, false], 2, sp_restC⟩
theorem fs_restC : F_restC.sig = [true, false] := rfl
theorem fp_restC : F_restC.spec = sp_restC := rfl
theorem mk_restC (a b c kind : Int) (Q : Kn (D → List D → Prop)) (X : Kn (Ex → List D → Prop)) : sB sp_restC [pool a b c, dI kind] = (PoolOk a b c ∧ ∀ a' b' c' d, PoolOk a' b' c' → 0 ≤ d → d ≤ 10 ^ 9 → Q.k (dI d) [pool a' b' c']) := by
  refine propext ⟨fun h => ?_, fun h => ⟨a, b, c, kind, rfl, h⟩⟩
  obtain ⟨a', b', c', kind', e, h⟩ := h
  simp only [and_assoc, List.cons.injEq, and_true, true_and, D.w.injEq, D.lst.injEq, D.tup.injEq, D.fz.injEq, D.dK.injEq, D.dT.injEq, W.int.injEq, W.bl.injEq, W.tup.injEq, W.str.injEq, wWeb_inj, dl_inj3, dl_injI, map_inj3, map_injI, w3_inj, dl_injO, dl_injS, wO_inj, wS_inj, w2_inj, dl_inj2, wG_inj, dl_injG] at e
  obtain ⟨rfl, rfl, rfl, rfl⟩ := e
  exact h
theorem v_restC : Ver T_restC d_restC sp_restC := by
  intro ds Q1 X1 h
  obtain ⟨a, b, c, kind, rfl, hp, k⟩ := h
  try simp only [d_restC, wpA1, wpA2, wpA3, wpA4, wpA5, wpA6, wpA7, implies_true, forall_const, ↓bc_t, ↓bc_f, rds, rd, tks, tks1, tk, brwArg, allW, mkTup, heldB, Op.pm, Op.wm, Op.watch, putIn, live, ownL, cArgs, apartArgs, outDs, putOuts, noBrw, takeSlot, shallow, isW, lateIn, Es.vars, Tg.set, setAll, wipeR, startE, initE, outsOf, if_true, if_false, reduceIte, Nat.reduceEqDiff, Nat.reduceLT, Nat.reduceLeDiff, Nat.reduceAdd, Nat.reduceSub, ne_eq, reduceCtorEq, wKeys, wKey, Int.reduceToNat, Nat.reduceBEq, tf_restC_nextC, fs_nextC, fp_nextC, mk_nextC]
  refine bc_dec (fun _ => ?_) fun _ => ?_
  · refine ⟨⟨by decide, by decide, by decide⟩, ⟨by decide, by decide, by decide⟩, hp, by decide, by decide, fun a b c d hp d0 d1 => ⟨hp, by decide, by decide, fun a b c e hp e0 e1 => ?_⟩⟩
    refine ob_at e0 e1 fun y hy => ?_
    simp only [List.mem_cons, List.not_mem_nil, or_false] at hy
    rcases hy with rfl | rfl | rfl | rfl <;> try simp only [wpA1, wpA2, wpA3, wpA4, wpA5, wpA6, wpA7, implies_true, forall_const, ↓bc_t, ↓bc_f, rds, rd, tks, tks1, tk, brwArg, allW, mkTup, heldB, Op.pm, Op.wm, Op.watch, putIn, live, ownL, cArgs, apartArgs, outDs, putOuts, noBrw, takeSlot, shallow, isW, lateIn, Es.vars, Tg.set, setAll, wipeR, startE, initE, outsOf, if_true, if_false, reduceIte, Nat.reduceEqDiff, Nat.reduceLT, Nat.reduceLeDiff, Nat.reduceAdd, Nat.reduceSub, ne_eq, reduceCtorEq, wKeys, wKey, Int.reduceToNat, Nat.reduceBEq] <;> exact k _ _ _ _ hp (by omega) (by omega)
  · refine ⟨⟨by decide, by decide, by decide⟩, hp, by decide, by decide, fun a b c e hp e0 e1 => ?_⟩
    refine ob_at e0 e1 fun y hy => ?_
    simp only [List.mem_cons, List.not_mem_nil, or_false] at hy
    rcases hy with rfl | rfl | rfl | rfl | rfl | rfl | rfl | rfl <;> try simp only [wpA1, wpA2, wpA3, wpA4, wpA5, wpA6, wpA7, implies_true, forall_const, ↓bc_t, ↓bc_f, rds, rd, tks, tks1, tk, brwArg, allW, mkTup, heldB, Op.pm, Op.wm, Op.watch, putIn, live, ownL, cArgs, apartArgs, outDs, putOuts, noBrw, takeSlot, shallow, isW, lateIn, Es.vars, Tg.set, setAll, wipeR, startE, initE, outsOf, if_true, if_false, reduceIte, Nat.reduceEqDiff, Nat.reduceLT, Nat.reduceLeDiff, Nat.reduceAdd, Nat.reduceSub, ne_eq, reduceCtorEq, wKeys, wKey, Int.reduceToNat, Nat.reduceBEq] <;> exact k _ _ _ _ hp (by omega) (by omega)
def d_firstC : Def := ⟨["pool", "web"], ["pool", "web", "moments", "near", "some", "meet"], [true, false],
 (.cons (.asg 2 (.op (.bin .add) (.cons (.lc (.one 5) (.seq (.cons (.op .idx (.cons (.var 1) (.cons (.cst (.int 1)) .nil))) .nil)) (.op .idx (.cons (.var 5) (.cons (.cst (.int 0)) .nil))) [("meet", 5)]) (.cons (.op .lst (.cons (.cst (.int 0)) .nil)) .nil))))
 (.cons (.asg 3 (.op .idx (.cons (.var 2) (.cons (.call "_law_next" (.cons (.var 0) (.cons (.op .len (.cons (.var 2) .nil)) .nil))) .nil))))
 (.cons (.asg 4 (.op .lst (.cons (.op (.bin .sub) (.cons (.op .min1 (.cons (.var 2) .nil)) (.cons (.cst (.int 1)) .nil))) (.cons (.var 3) (.cons (.op (.bin .add) (.cons (.var 3) (.cons (.cst (.int 1)) .nil))) (.cons (.op (.bin .sub) (.cons (.var 3) (.cons (.cst (.int 1)) .nil))) (.cons (.op .min1 (.cons (.var 2) .nil)) .nil)))))))
 (.cons (.asg 4 (.op (.bin .add) (.cons (.var 4) (.cons (.op .lst (.cons (.op (.bin .add) (.cons (.op .max1 (.cons (.var 2) .nil)) (.cons (.cst (.int 1)) .nil))) (.cons (.op (.bin .sub) (.cons (.cst (.int 0)) (.cons (.op (.bin .pow) (.cons (.cst (.int 10)) (.cons (.cst (.int 20)) .nil))) .nil))) .nil))) .nil))))
 (.cons (.ret (.op .idx (.cons (.var 4) (.cons (.call "_law_next" (.cons (.var 0) (.cons (.cst (.int 7)) .nil))) .nil))))
 .nil)))))⟩
def T_firstC : Tab := [F_nextC]
theorem tf_firstC_nextC : T_firstC.find "_law_next" = some F_nextC := rfl
def sp_firstC : FSpec := fun ds Q X => ∃ (a b c : Int) (g : Web), ds = [pool a b c, dWeb g] ∧ (PoolOk a b c ∧ g.ms.length ≤ 31 ∧ ∀ a' b' c' d, PoolOk a' b' c' → Q (dI d) [pool a' b' c'])
def F_firstC : Fn := ⟨"_law_first", [true, false], 2, sp_firstC⟩
theorem fs_firstC : F_firstC.sig = [true, false] := rfl
theorem fp_firstC : F_firstC.spec = sp_firstC := rfl
theorem mk_firstC (a b c : Int) (g : Web) (Q : Kn (D → List D → Prop)) (X : Kn (Ex → List D → Prop)) : sB sp_firstC [pool a b c, dWeb g] = (PoolOk a b c ∧ g.ms.length ≤ 31 ∧ ∀ a' b' c' d, PoolOk a' b' c' → Q.k (dI d) [pool a' b' c']) := by
  refine propext ⟨fun h => ?_, fun h => ⟨a, b, c, g, rfl, h⟩⟩
  obtain ⟨a', b', c', g', e, h⟩ := h
  simp only [and_assoc, List.cons.injEq, and_true, true_and, D.w.injEq, D.lst.injEq, D.tup.injEq, D.fz.injEq, D.dK.injEq, D.dT.injEq, W.int.injEq, W.bl.injEq, W.tup.injEq, W.str.injEq, wWeb_inj, dl_inj3, dl_injI, map_inj3, map_injI, w3_inj, dl_injO, dl_injS, wO_inj, wS_inj, w2_inj, dl_inj2, wG_inj, dl_injG] at e
  obtain ⟨rfl, rfl, rfl, rfl⟩ := e
  exact h
theorem v_firstC : Ver T_firstC d_firstC sp_firstC := by
  intro ds Q1 X1 h
  obtain ⟨a, b, c, g, rfl, hp, hl, k⟩ := h
  try simp only [d_firstC, wpA1, wpA2, wpA3, wpA4, wpA5, wpA6, wpA7, implies_true, forall_const, ↓bc_t, ↓bc_f, rds, rd, tks, tks1, tk, brwArg, allW, mkTup, heldB, Op.pm, Op.wm, Op.watch, putIn, live, ownL, cArgs, apartArgs, outDs, putOuts, noBrw, takeSlot, shallow, isW, lateIn, Es.vars, Tg.set, setAll, wipeR, startE, initE, outsOf, if_true, if_false, reduceIte, Nat.reduceEqDiff, Nat.reduceLT, Nat.reduceLeDiff, Nat.reduceAdd, Nat.reduceSub, ne_eq, reduceCtorEq, wKeys, wKey, Int.reduceToNat, Nat.reduceBEq, tf_firstC_nextC, fs_nextC, fp_nextC, mk_nextC]
  refine lc_dl W.int (fun q => q.1) g.ms (stays_nil _) (sz (by omega)) (fun x hx k hk => ?_) ?_
  · try simp only [turnL, wpA1, wpA2, wpA3, wpA4, wpA5, wpA6, wpA7, implies_true, forall_const, ↓bc_t, ↓bc_f, rds, rd, tks, tks1, tk, brwArg, allW, mkTup, heldB, Op.pm, Op.wm, Op.watch, putIn, live, ownL, cArgs, apartArgs, outDs, putOuts, noBrw, takeSlot, shallow, isW, lateIn, Es.vars, Tg.set, setAll, wipeR, startE, initE, outsOf, if_true, if_false, reduceIte, Nat.reduceEqDiff, Nat.reduceLT, Nat.reduceLeDiff, Nat.reduceAdd, Nat.reduceSub, ne_eq, reduceCtorEq, wKeys, wKey, Int.reduceToNat, Nat.reduceBEq]
    exact hk
  try simp only [wpA1, wpA2, wpA3, wpA4, wpA5, wpA6, wpA7, implies_true, forall_const, ↓bc_t, ↓bc_f, rds, rd, tks, tks1, tk, brwArg, allW, mkTup, heldB, Op.pm, Op.wm, Op.watch, putIn, live, ownL, cArgs, apartArgs, outDs, putOuts, noBrw, takeSlot, shallow, isW, lateIn, Es.vars, Tg.set, setAll, wipeR, startE, initE, outsOf, if_true, if_false, reduceIte, Nat.reduceEqDiff, Nat.reduceLT, Nat.reduceLeDiff, Nat.reduceAdd, Nat.reduceSub, ne_eq, reduceCtorEq, wKeys, wKey, Int.reduceToNat, Nat.reduceBEq, eqA1, eqA2, tf_firstC_nextC, fs_nextC, fp_nextC, mk_nextC]
  have lp : 0 < (g.ms.map (fun q : M3 => q.1) ++ [0]).length := by rw [List.length_append]; exact Nat.succ_pos _
  have lp2 : (g.ms.map (fun q : M3 => q.1) ++ [0]).length ≤ 32 := by rw [List.length_append, List.length_map, List.length_singleton]; omega
  refine ⟨sz (by omega), hp, by omega, by omega, fun a b c d hp d0 d1 => ob_dl d0 d1 fun near _ => ?_⟩
  try simp only [wpA1, wpA2, wpA3, wpA4, wpA5, wpA6, wpA7, implies_true, forall_const, ↓bc_t, ↓bc_f, rds, rd, tks, tks1, tk, brwArg, allW, mkTup, heldB, Op.pm, Op.wm, Op.watch, putIn, live, ownL, cArgs, apartArgs, outDs, putOuts, noBrw, takeSlot, shallow, isW, lateIn, Es.vars, Tg.set, setAll, wipeR, startE, initE, outsOf, if_true, if_false, reduceIte, Nat.reduceEqDiff, Nat.reduceLT, Nat.reduceLeDiff, Nat.reduceAdd, Nat.reduceSub, ne_eq, reduceCtorEq, wKeys, wKey, Int.reduceToNat, Nat.reduceBEq, eqA1, eqA2, tf_firstC_nextC, fs_nextC, fp_nextC, mk_nextC]
  refine ⟨lp, fun m _ _ => ⟨lp, fun m1 _ _ => ⟨lp, fun m2 _ _ => ⟨⟨by decide, by decide, by decide⟩, sz (by decide), hp, by decide, by decide, fun a b c d hp d0 d1 => ?_⟩⟩⟩⟩
  refine ob_at d0 d1 fun y hy => ?_
  simp only [List.mem_cons, List.not_mem_nil, or_false] at hy
  rcases hy with rfl | rfl | rfl | rfl | rfl | rfl | rfl <;> try simp only [wpA1, wpA2, wpA3, wpA4, wpA5, wpA6, wpA7, implies_true, forall_const, ↓bc_t, ↓bc_f, rds, rd, tks, tks1, tk, brwArg, allW, mkTup, heldB, Op.pm, Op.wm, Op.watch, putIn, live, ownL, cArgs, apartArgs, outDs, putOuts, noBrw, takeSlot, shallow, isW, lateIn, Es.vars, Tg.set, setAll, wipeR, startE, initE, outsOf, if_true, if_false, reduceIte, Nat.reduceEqDiff, Nat.reduceLT, Nat.reduceLeDiff, Nat.reduceAdd, Nat.reduceSub, ne_eq, reduceCtorEq, wKeys, wKey, Int.reduceToNat, Nat.reduceBEq] <;> exact k _ _ _ _ hp
def d_sceneC : Def := ⟨["cell"], ["cell", "pool", "kind", "web", "rest"], [false],
 (.cons (.asg 1 (.call "_law_pool" (.cons (.var 0) .nil)))
 (.cons (.asg 2 (.call "_law_next" (.cons (.var 1) (.cons (.cst (.int 5)) .nil))))
 (.cons (.asg 3 (.call "_law_web" (.cons (.var 1) (.cons (.var 2) .nil))))
 (.cons (.asg 4 (.call "_law_rest" (.cons (.var 1) (.cons (.var 2) .nil))))
 (.cons (.ret (.op .tup (.cons (.var 1) (.cons (.var 3) (.cons (.var 4) (.cons (.call "_law_next" (.cons (.var 1) (.cons (.op .idx (.cons (.var 3) (.cons (.cst (.int 0)) .nil))) .nil))) (.cons (.call "_law_first" (.cons (.var 1) (.cons (.var 3) .nil))) .nil)))))))
 .nil)))))⟩
def T_sceneC : Tab := [F_poolB, F_nextC, F_webC, F_restC, F_firstC]
theorem tf_sceneC_poolB : T_sceneC.find "_law_pool" = some F_poolB := rfl
theorem tf_sceneC_nextC : T_sceneC.find "_law_next" = some F_nextC := rfl
theorem tf_sceneC_webC : T_sceneC.find "_law_web" = some F_webC := rfl
theorem tf_sceneC_restC : T_sceneC.find "_law_rest" = some F_restC := rfl
theorem tf_sceneC_firstC : T_sceneC.find "_law_first" = some F_firstC := rfl
def sp_sceneC : FSpec := fun ds Q X => ∃ (cell : Int), ds = [dI cell] ∧ (∀ a b c g rest start first, PoolOk a b c → WebOk g → 0 ≤ rest → rest ≤ 10 ^ 9 → 0 ≤ start → start < g.n → Q (.tup [pool a b c, dWeb g, dI rest, dI start, dI first]) [])
def F_sceneC : Fn := ⟨"_law_scene", [false], 4, sp_sceneC⟩
theorem fs_sceneC : F_sceneC.sig = [false] := rfl
theorem fp_sceneC : F_sceneC.spec = sp_sceneC := rfl
theorem mk_sceneC (cell : Int) (Q : Kn (D → List D → Prop)) (X : Kn (Ex → List D → Prop)) : sB sp_sceneC [dI cell] = (∀ a b c g rest start first, PoolOk a b c → WebOk g → 0 ≤ rest → rest ≤ 10 ^ 9 → 0 ≤ start → start < g.n → Q.k (.tup [pool a b c, dWeb g, dI rest, dI start, dI first]) []) := by
  refine propext ⟨fun h => ?_, fun h => ⟨cell, rfl, h⟩⟩
  obtain ⟨cell', e, h⟩ := h
  simp only [and_assoc, List.cons.injEq, and_true, true_and, D.w.injEq, D.lst.injEq, D.tup.injEq, D.fz.injEq, D.dK.injEq, D.dT.injEq, W.int.injEq, W.bl.injEq, W.tup.injEq, W.str.injEq, wWeb_inj, dl_inj3, dl_injI, map_inj3, map_injI, w3_inj, dl_injO, dl_injS, wO_inj, wS_inj, w2_inj, dl_inj2, wG_inj, dl_injG] at e
  obtain rfl := e
  exact h
theorem v_sceneC : Ver T_sceneC d_sceneC sp_sceneC := by
  intro ds Q1 X1 h
  obtain ⟨cell, rfl, k⟩ := h
  try simp only [d_sceneC, wpA1, wpA2, wpA3, wpA4, wpA5, wpA6, wpA7, implies_true, forall_const, ↓bc_t, ↓bc_f, rds, rd, tks, tks1, tk, brwArg, allW, mkTup, heldB, Op.pm, Op.wm, Op.watch, putIn, live, ownL, cArgs, apartArgs, outDs, putOuts, noBrw, takeSlot, shallow, isW, lateIn, Es.vars, Tg.set, setAll, wipeR, startE, initE, outsOf, if_true, if_false, reduceIte, Nat.reduceEqDiff, Nat.reduceLT, Nat.reduceLeDiff, Nat.reduceAdd, Nat.reduceSub, ne_eq, reduceCtorEq, wKeys, wKey, Int.reduceToNat, Nat.reduceBEq, eqA1, eqA2, tf_sceneC_poolB, tf_sceneC_nextC, tf_sceneC_webC, tf_sceneC_restC, tf_sceneC_firstC, fs_poolB, fp_poolB, mk_poolB, fs_nextC, fp_nextC, mk_nextC, fs_webC, fp_webC, mk_webC, fs_restC, fp_restC, mk_restC, fs_firstC, fp_firstC, mk_firstC]
  intro a b c hp
  refine ⟨hp, by decide, by decide, fun a b c kind hp k0 k1 => ⟨hp, k0, k1, fun a b c g hp hg => ⟨hp, fun a b c rest hp r0 r1 => ?_⟩⟩⟩
  have n1 := hg.n1
  have n7 := hg.n7
  have h24 := hg.len
  try simp only [wpA1, wpA2, wpA3, wpA4, wpA5, wpA6, wpA7, implies_true, forall_const, ↓bc_t, ↓bc_f, rds, rd, tks, tks1, tk, brwArg, allW, mkTup, heldB, Op.pm, Op.wm, Op.watch, putIn, live, ownL, cArgs, apartArgs, outDs, putOuts, noBrw, takeSlot, shallow, isW, lateIn, Es.vars, Tg.set, setAll, wipeR, startE, initE, outsOf, if_true, if_false, reduceIte, Nat.reduceEqDiff, Nat.reduceLT, Nat.reduceLeDiff, Nat.reduceAdd, Nat.reduceSub, ne_eq, reduceCtorEq, wKeys, wKey, Int.reduceToNat, Nat.reduceBEq, eqA1, eqA2, tf_sceneC_poolB, tf_sceneC_nextC, tf_sceneC_webC, tf_sceneC_restC, tf_sceneC_firstC, fs_poolB, fp_poolB, mk_poolB, fs_nextC, fp_nextC, mk_nextC, fs_webC, fp_webC, mk_webC, fs_restC, fp_restC, mk_restC, fs_firstC, fp_firstC, mk_firstC]
  exact ⟨hp, by omega, by omega, fun a b c d hp d0 d1 => ⟨hp, by omega, fun a b c f hp => k _ _ _ g rest d f hp hg r0 r1 d0 d1⟩⟩
def d_orderC : Def := ⟨["pool", "many"], ["pool", "many", "order", "place"], [true, false],
 (.cons (.asg 2 (.op .lst .nil))
 (.cons (.forS (.one 3) (.rng (.cons (.var 1) .nil))
 (.cons (.expr (.mth .insert 2 (.cons (.call "_law_next" (.cons (.var 0) (.cons (.op (.bin .add) (.cons (.var 3) (.cons (.cst (.int 1)) .nil))) .nil))) (.cons (.var 3) .nil))))
 .nil))
 (.cons (.ret (.op .tuple (.cons (.var 2) .nil)))
 .nil)))⟩
def T_orderC : Tab := [F_nextC]
theorem tf_orderC_nextC : T_orderC.find "_law_next" = some F_nextC := rfl
def sp_orderC : FSpec := fun ds Q X => ∃ (a b c many : Int), ds = [pool a b c, dI many] ∧ (PoolOk a b c ∧ 0 ≤ many ∧ many ≤ 100 ∧ ∀ a' b' c' o, PoolOk a' b' c' → IsOrder many o → Q (.w (.tup (o.map .int))) [pool a' b' c'])
def F_orderC : Fn := ⟨"_law_order", [true, false], 2, sp_orderC⟩
theorem fs_orderC : F_orderC.sig = [true, false] := rfl
theorem fp_orderC : F_orderC.spec = sp_orderC := rfl
theorem mk_orderC (a b c many : Int) (Q : Kn (D → List D → Prop)) (X : Kn (Ex → List D → Prop)) : sB sp_orderC [pool a b c, dI many] = (PoolOk a b c ∧ 0 ≤ many ∧ many ≤ 100 ∧ ∀ a' b' c' o, PoolOk a' b' c' → IsOrder many o → Q.k (.w (.tup (o.map .int))) [pool a' b' c']) := by
  refine propext ⟨fun h => ?_, fun h => ⟨a, b, c, many, rfl, h⟩⟩
  obtain ⟨a', b', c', many', e, h⟩ := h
  simp only [and_assoc, List.cons.injEq, and_true, true_and, D.w.injEq, D.lst.injEq, D.tup.injEq, D.fz.injEq, D.dK.injEq, D.dT.injEq, W.int.injEq, W.bl.injEq, W.tup.injEq, W.str.injEq, wWeb_inj, dl_inj3, dl_injI, map_inj3, map_injI, w3_inj, dl_injO, dl_injS, wO_inj, wS_inj, w2_inj, dl_inj2, wG_inj, dl_injG] at e
  obtain ⟨rfl, rfl, rfl, rfl⟩ := e
  exact h
theorem v_orderC : Ver T_orderC d_orderC sp_orderC := by
  intro ds Q1 X1 h
  obtain ⟨n, m, w, many, rfl, hp, h0, h1, k⟩ := h
  try simp only [d_orderC, wpA1, wpA2, wpA3, wpA4, wpA5, wpA6, wpA7, implies_true, forall_const, ↓bc_t, ↓bc_f, rds, rd, tks, tks1, tk, brwArg, allW, mkTup, heldB, Op.pm, Op.wm, Op.watch, putIn, live, ownL, cArgs, apartArgs, outDs, putOuts, noBrw, takeSlot, shallow, isW, lateIn, Es.vars, Tg.set, setAll, wipeR, startE, initE, outsOf, if_true, if_false, reduceIte, Nat.reduceEqDiff, Nat.reduceLT, Nat.reduceLeDiff, Nat.reduceAdd, Nat.reduceSub, ne_eq, reduceCtorEq, wKeys, wKey, Int.reduceToNat, Nat.reduceBEq]
  refine ⟨s62 (by omega) (by omega), for_range (fun i ρ => ∃ n m w o x3, ρ = [some ⟨.own, pool n m w⟩, some (sw (.int many)), some ⟨.own, .lst (dl W.int o)⟩, x3] ∧ PoolOk n m w ∧ o.Perm ((List.range i).map fun (k : Nat) => (k : Int))) ⟨_, _, _, [], _, rfl, hp, .refl _⟩ (fun i ρ k2 hi h2 hk => ⟨stays_nil _, ?_⟩) fun ρ h2 => ⟨stays_nil _, ?_⟩⟩
  · obtain ⟨n, m, w, o, x3, rfl, hp, hO⟩ := h2
    have hl := hO.length_eq
    rw [List.length_map, List.length_range] at hl
    try simp only [turnF, wpA1, wpA2, wpA3, wpA4, wpA5, wpA6, wpA7, implies_true, forall_const, ↓bc_t, ↓bc_f, rds, rd, tks, tks1, tk, brwArg, allW, mkTup, heldB, Op.pm, Op.wm, Op.watch, putIn, live, ownL, cArgs, apartArgs, outDs, putOuts, noBrw, takeSlot, shallow, isW, lateIn, Es.vars, Tg.set, setAll, wipeR, startE, initE, outsOf, if_true, if_false, reduceIte, Nat.reduceEqDiff, Nat.reduceLT, Nat.reduceLeDiff, Nat.reduceAdd, Nat.reduceSub, ne_eq, reduceCtorEq, wKeys, wKey, Int.reduceToNat, Nat.reduceBEq, tf_orderC_nextC, fs_nextC, fp_nextC, mk_nextC]
    refine ⟨hp, by omega, by omega, fun n m w d hp d0 d1 => ⟨szl (by omega), d0, by omega, ?_⟩⟩
    refine hk _ ⟨_, _, _, o.take d.toNat ++ (i : Int) :: o.drop d.toNat, some (sw (.int (0 + (i : Int)))), ?_, hp, ?_⟩
    · unfold dl
      rw [List.map_append, List.map_cons, List.map_take, List.map_drop, Int.zero_add]
    · rw [List.range_succ, List.map_append]
      refine List.perm_middle.trans ?_
      rw [List.take_append_drop]
      exact (hO.cons _).trans (List.perm_append_comm (l₁ := [(i : Int)]))
  · obtain ⟨n, m, w, o, x3, rfl, hp, hO⟩ := h2
    try simp only [wpA1, wpA2, wpA3, wpA4, wpA5, wpA6, wpA7, implies_true, forall_const, ↓bc_t, ↓bc_f, rds, rd, tks, tks1, tk, brwArg, allW, mkTup, heldB, Op.pm, Op.wm, Op.watch, putIn, live, ownL, cArgs, apartArgs, outDs, putOuts, noBrw, takeSlot, shallow, isW, lateIn, Es.vars, Tg.set, setAll, wipeR, startE, initE, outsOf, if_true, if_false, reduceIte, Nat.reduceEqDiff, Nat.reduceLT, Nat.reduceLeDiff, Nat.reduceAdd, Nat.reduceSub, ne_eq, reduceCtorEq, wKeys, wKey, Int.reduceToNat, Nat.reduceBEq]
    exact k _ _ _ o hp hO
end Wm
namespace Wm
open PySem PySem.Spec PyProof.Rows L2
theorem ck_map {c : List (Option Int)} {f : Option Int → Option Int} (hf : f none = none) (p : Int) : ck (c.map f) p = f (ck c p) := by
  unfold ck
  rw [List.getD_eq_getElem?_getD, List.getD_eq_getElem?_getD, List.getElem?_map]
  cases c[p.toNat]? with
  | none => exact hf.symm
  | some o => rfl
section
variable {S S' : M3 → Prop} {rest rest' start start' first first' n n' : Int} {c c' : List (Option Int)}
/-- fewer walks, none sooner -/
theorem later_le (hr : 0 ≤ rest) (hb : ClkB S' rest' start' first' n' c') (hs : ClkOk S rest start first n c) (h : ∀ p t, Arr S' rest' start' first' p t → Arr S rest start first p t) {p t : Int} (h0 : 0 ≤ p) (hp' : p ≠ start') (hp : p ≠ start) (e : ck c' p = some t) : ∃ s, ck c p = some s ∧ s ≤ t :=
  (h p t (hb.snd p t h0 hp' e)).comes hr hs.cls hp
theorem Arr.rest_le (h : rest ≤ rest') {p t : Int} (a : Arr S rest' start first p t) : Arr S rest start first p t := by
  induction a with
  | one h1 h2 => exact .one h1 h2
  | more _ h2 h3 ih => exact .more ih h2 (by omega)
theorem Arr.first_le (h : first ≤ first') {p t : Int} (a : Arr S rest start first' p t) : Arr S rest start first p t := by
  induction a with
  | one h1 h2 => exact .one h1 (by omega)
  | more _ h2 h3 ih => exact .more ih h2 h3
theorem Arr.sub (h : ∀ m, S' m → S m) {p t : Int} (a : Arr S' rest start first p t) : Arr S rest start first p t := by
  induction a with
  | one h1 h2 => exact .one (h _ h1) h2
  | more _ h2 h3 ih => exact .more ih (h _ h2) h3
/-- going on from a place that one comes to -/
theorem Arr.on {q soon : Int} (h : (q = start ∧ first ≤ soon) ∨ ∃ s, Arr S rest start first q s ∧ s + rest ≤ soon) {p t : Int} (a : Arr S rest q soon p t) : Arr S rest start first p t := by
  induction a with
  | one h1 h2 =>
    rcases h with ⟨rfl, h⟩ | ⟨s, hs, h⟩
    · exact .one h1 (by omega)
    · exact .more hs h1 (by omega)
  | more _ h2 h3 ih => exact .more ih h2 h3
/-- put off -/
theorem Arr.off (t : Int) (h : ∀ m, S m → S' (m.1 + t, m.2.1, m.2.2)) {p s : Int} (a : Arr S rest start first p s) : Arr S' rest start (first + t) p (s + t) := by
  induction a with
  | @one u v h1 h2 => exact .one (h (u, start, v) h1) (by omega)
  | @more s u w v h1 h2 h3 ih => exact .more ih (h (w, u, v) h2) (by omega)
theorem ClkOk.off (t : Int) (h : ∀ m, S' m ↔ S (m.1 - t, m.2.1, m.2.2)) (hc : ClkOk S rest start first n c) : ClkOk S' rest start (first + t) n (c.map fun o => o.map (· + t)) := by
  have cm : ∀ p, ck (c.map fun o => o.map (· + t)) p = (ck c p).map (· + t) := fun p => ck_map (f := fun o : Option Int => o.map (· + t)) rfl p
  have h' : ∀ m, S m → S' (m.1 + t, m.2.1, m.2.2) := fun m hm => (h _).mpr (by
    show S (m.1 + t - t, m.2.1, m.2.2)
    rw [Int.add_sub_cancel]
    exact hm)
  refine ⟨⟨by rw [List.length_map]; exact hc.len, by rw [cm, hc.st]; rfl, fun p s h0 hp e => ?_⟩, fun m hm hv hg => ?_⟩
  · rw [cm] at e
    cases q : ck c p with
    | none => rw [q] at e; cases e
    | some u =>
      rw [q] at e
      cases e
      exact (hc.snd p u h0 hp q).off t h'
  · have hm' := (h m).mp hm
    have : goB c rest start first (m.1 - t, m.2.1, m.2.2) = true := by
      rcases goB_iff.mp hg with ⟨z, k⟩ | ⟨z, s, e, k⟩
      · exact goB_iff.mpr (.inl ⟨z, by show first ≤ m.1 - t; omega⟩)
      · rw [cm] at e
        cases q : ck c m.2.1 with
        | none => rw [q] at e; cases e
        | some u =>
          rw [q] at e
          have e : some (u + t) = some s := e
          cases e
          exact goB_iff.mpr (.inr ⟨z, u, q, by show u + rest ≤ m.1 - t; omega⟩)
    obtain ⟨s, e, k⟩ := hc.cls _ hm' hv this
    have e : ck c m.2.2 = some s := e
    have k : s ≤ m.1 - t := k
    rw [cm, e]
    exact ⟨s + t, rfl, by omega⟩
/-- kept to a stretch from the first moment on -/
theorem ClkOk.kept (hr : 0 ≤ rest) (last : Int) (h : ∀ m, S' m ↔ S m ∧ first ≤ m.1 ∧ m.1 ≤ last) (hS : ∀ m, S m → InN n m) (hc : ClkOk S rest start first n c) (hs0 : 0 ≤ start) (hs1 : start < n) (f : List (Option Int)) (hf : f.length = n.toNat) (hfe : ∀ p, 0 ≤ p → ck f p = if p = start then some first else match ck c p with | some s => if s ≤ last then some s else none | none => none) : ClkOk S' rest start first n f := by
  have low : ∀ {p t : Int}, Arr S rest start first p t → t ≤ last → Arr S' rest start first p t := fun {p t} a => by
    induction a with
    | @one u v h1 h2 => exact fun h3 => .one ((h _).mpr ⟨h1, h2, h3⟩) h2
    | @more s u w v h1 h2 h3 ih =>
      intro h4
      have := h1.ge hr
      exact .more (ih (by omega)) ((h _).mpr ⟨h2, by show first ≤ w; omega, h4⟩) h3
  refine ⟨⟨hf, by rw [hfe _ hs0, if_pos rfl], fun p s h0 hp e => ?_⟩, fun m hm hv hg => ?_⟩
  · rw [hfe p h0, if_neg hp] at e
    split at e
    · rename_i s' q
      split at e
      · rename_i hle
        cases e
        exact low (hc.snd p s h0 hp q) hle
      · cases e
    · cases e
  · obtain ⟨hm1, hm2, hm3⟩ := (h m).mp hm
    have hn := hS m hm1
    have : goB c rest start first m = true := by
      rcases goB_iff.mp hg with z | ⟨z, s, e, k⟩
      · exact goB_iff.mpr (.inl z)
      · rw [hfe _ hn.1, if_neg z] at e
        split at e
        · rename_i s' q
          split at e
          · cases e
            exact goB_iff.mpr (.inr ⟨z, s, q, k⟩)
          · cases e
        · cases e
    obtain ⟨s, e, k⟩ := hc.cls m hm1 hv this
    rw [hfe _ hn.2.2.1, if_neg hv, e]
    show ∃ s', (if s ≤ last then some s else none) = some s' ∧ _
    rw [if_pos (by omega)]
    exact ⟨s, rfl, k⟩
/-- places named anew -/
theorem Arr.named (f : Int → Int) (h : ∀ m, S m → S' (m.1, f m.2.1, f m.2.2)) {p s : Int} (a : Arr S rest start first p s) : Arr S' rest (f start) first (f p) s := by
  induction a with
  | @one u v h1 h2 => exact .one (h (u, start, v) h1) h2
  | @more s u w v h1 h2 h3 ih => exact .more ih (h (w, u, v) h2) h3
theorem ClkOk.named (f : Int → Int) (hi : ∀ p q, 0 ≤ p → p < n → 0 ≤ q → q < n → f p = f q → p = q) (hS : ∀ m, S m → InN n m) (h : ∀ m', S' m' ↔ ∃ m, S m ∧ m' = (m.1, f m.2.1, f m.2.2)) (hs0 : 0 ≤ start) (hs1 : start < n) (hc : ClkOk S rest start first n c) (d : List (Option Int)) (hd : d.length = n.toNat) (hf : ∀ p, 0 ≤ p → p < n → 0 ≤ f p ∧ f p < n) (hsur : ∀ q, 0 ≤ q → q < n → ∃ p, 0 ≤ p ∧ p < n ∧ f p = q) (hde : ∀ p, 0 ≤ p → p < n → ck d (f p) = ck c p) : ClkOk S' rest (f start) first n d := by
  refine ⟨⟨hd, by rw [hde _ hs0 hs1, hc.st], fun q s h0 hq e => ?_⟩, fun m' hmm hv hg => ?_⟩
  · have hqn : q < n := Classical.byContradiction fun z => by
      rw [ck_out hd (by omega)] at e
      cases e
    obtain ⟨p, p0, p1, rfl⟩ := hsur q h0 hqn
    rw [hde p p0 p1] at e
    exact (hc.snd p s p0 (fun z => hq (by rw [z])) e).named f fun m hm => (h _).mpr ⟨m, hm, rfl⟩
  · obtain ⟨m, hm, rfl⟩ := (h m').mp hmm
    have hn := hS m hm
    have hv' : m.2.2 ≠ start := fun z => hv (by show f m.2.2 = f start; rw [z])
    have : goB c rest start first m = true := by
      rcases goB_iff.mp hg with ⟨z, k⟩ | ⟨z, s, e, k⟩
      · exact goB_iff.mpr (.inl ⟨hi _ _ hn.1 hn.2.1 hs0 hs1 z, k⟩)
      · have e : ck d (f m.2.1) = some s := e
        rw [hde _ hn.1 hn.2.1] at e
        exact goB_iff.mpr (.inr ⟨fun y => z (by show f m.2.1 = f start; rw [y]), s, e, k⟩)
    obtain ⟨s, e, k⟩ := hc.cls m hm hv' this
    show ∃ s, ck d (f m.2.2) = some s ∧ s ≤ m.1
    rw [hde _ hn.2.2.1 hn.2.2.2.1]
    exact ⟨s, e, k⟩
end
theorem st_later (g : Web) (t : Int) (m : M3) : St3 (laterWeb g t) m ↔ St3 g (m.1 - t, m.2.1, m.2.2) := by
  have key : ∀ m : M3, m ∈ (laterWeb g t).ms ↔ (m.1 - t, m.2.1, m.2.2) ∈ g.ms := fun m => by
    unfold laterWeb
    rw [List.mem_map]
    constructor
    · rintro ⟨x, hx, rfl⟩
      show (x.1 + t - t, x.2.1, x.2.2) ∈ g.ms
      rw [Int.add_sub_cancel]
      exact hx
    · intro h
      refine ⟨_, h, ?_⟩
      show (m.1 - t + t, m.2.1, m.2.2) = m
      rw [Int.sub_add_cancel]
  unfold St3
  rw [key m, key]
theorem st_kept (g : Web) (a b : Int) (m : M3) : St3 (keptWeb g a b) m ↔ St3 g m ∧ a ≤ m.1 ∧ m.1 ≤ b := by
  have key : ∀ m : M3, m ∈ (keptWeb g a b).ms ↔ m ∈ g.ms ∧ a ≤ m.1 ∧ m.1 ≤ b := fun m => by
    unfold keptWeb
    rw [List.mem_filter, Bool.and_eq_true, decide_eq_true_iff, decide_eq_true_iff]
  unfold St3
  rw [key m, key]
  constructor
  · rintro (⟨h, k⟩ | ⟨h, k⟩)
    · exact ⟨.inl h, k⟩
    · exact ⟨.inr h, k⟩
  · rintro ⟨h | h, k⟩
    · exact .inl ⟨h, k⟩
    · exact .inr ⟨h, k⟩
end Wm
namespace Wm
open PySem PySem.Spec PyProof.Rows L2
def negO (o : Option Int) : Option Int := o.map fun t => 0 - t
def d_turned_moment : Def := ⟨["moment"], ["moment"], [false],
 (.cons (.ifS (.op (.cmp .isN) (.cons (.var 0) (.cons (.cst .non) .nil)))
 (.cons (.ret (.cst .non))
 .nil)
 .nil)
 (.cons (.ret (.op (.bin .sub) (.cons (.cst (.int 0)) (.cons (.var 0) .nil))))
 .nil))⟩
def T_turned_moment : Tab := []
def sp_turned_moment : FSpec := fun ds Q X => ∃ (o : Option Int), ds = [.w (wO o)] ∧ (Q (.w (wO (negO o))) [])
def F_turned_moment : Fn := ⟨"turned_moment", [false], 1, sp_turned_moment⟩
theorem fs_turned_moment : F_turned_moment.sig = [false] := rfl
theorem fp_turned_moment : F_turned_moment.spec = sp_turned_moment := rfl
theorem mk_turned_moment (o : Option Int) (Q : Kn (D → List D → Prop)) (X : Kn (Ex → List D → Prop)) : sB sp_turned_moment [.w (wO o)] = (Q.k (.w (wO (negO o))) []) := by
  refine propext ⟨fun h => ?_, fun h => ⟨o, rfl, h⟩⟩
  obtain ⟨o', e, h⟩ := h
  simp only [and_assoc, List.cons.injEq, and_true, true_and, D.w.injEq, D.lst.injEq, D.tup.injEq, D.fz.injEq, D.dK.injEq, D.dT.injEq, W.int.injEq, W.bl.injEq, W.tup.injEq, W.str.injEq, wWeb_inj, dl_inj3, dl_injI, map_inj3, map_injI, w3_inj, dl_injO, dl_injS, wO_inj, wS_inj, w2_inj, dl_inj2, wG_inj, dl_injG] at e
  obtain rfl := e
  exact h
theorem v_turned_moment : Ver T_turned_moment d_turned_moment sp_turned_moment := by
  intro ds Q1 X1 h
  obtain ⟨o, rfl, k⟩ := h
  cases o <;> try simp only [d_turned_moment, wpA1, wpA2, wpA3, wpA4, wpA5, wpA6, wpA7, implies_true, forall_const, ↓bc_t, ↓bc_f, rds, rd, tks, tks1, tk, brwArg, allW, mkTup, heldB, Op.pm, Op.wm, Op.watch, putIn, live, ownL, cArgs, apartArgs, outDs, putOuts, noBrw, takeSlot, shallow, isW, lateIn, Es.vars, Tg.set, setAll, wipeR, startE, initE, outsOf, if_true, if_false, reduceIte, Nat.reduceEqDiff, Nat.reduceLT, Nat.reduceLeDiff, Nat.reduceAdd, Nat.reduceSub, ne_eq, reduceCtorEq, wKeys, wKey, Int.reduceToNat, Nat.reduceBEq, eqA1, eqA2] <;> exact k
def d_turned_list : Def := ⟨["moments"], ["moments", "moment"], [false],
 (.cons (.ret (.lc (.one 1) (.seq (.cons (.var 0) .nil)) (.call "turned_moment" (.cons (.var 1) .nil)) [("moment", 1)]))
 .nil)⟩
def T_turned_list : Tab := [F_turned_moment]
theorem tf_turned_list_turned_moment : T_turned_list.find "turned_moment" = some F_turned_moment := rfl
def sp_turned_list : FSpec := fun ds Q X => ∃ (c : List (Option Int)), ds = [.lst (dl wO c)] ∧ (c.length ≤ 1000 ∧ Q (.lst (dl wO (c.map negO))) [])
def F_turned_list : Fn := ⟨"turned_list", [false], 2, sp_turned_list⟩
theorem fs_turned_list : F_turned_list.sig = [false] := rfl
theorem fp_turned_list : F_turned_list.spec = sp_turned_list := rfl
theorem mk_turned_list (c : List (Option Int)) (Q : Kn (D → List D → Prop)) (X : Kn (Ex → List D → Prop)) : sB sp_turned_list [.lst (dl wO c)] = (c.length ≤ 1000 ∧ Q.k (.lst (dl wO (c.map negO))) []) := by
  refine propext ⟨fun h => ?_, fun h => ⟨c, rfl, h⟩⟩
  obtain ⟨c', e, h⟩ := h
  simp only [and_assoc, List.cons.injEq, and_true, true_and, D.w.injEq, D.lst.injEq, D.tup.injEq, D.fz.injEq, D.dK.injEq, D.dT.injEq, W.int.injEq, W.bl.injEq, W.tup.injEq, W.str.injEq, wWeb_inj, dl_inj3, dl_injI, map_inj3, map_injI, w3_inj, dl_injO, dl_injS, wO_inj, wS_inj, w2_inj, dl_inj2, wG_inj, dl_injG] at e
  obtain rfl := e
  exact h
theorem v_turned_list : Ver T_turned_list d_turned_list sp_turned_list := by
  intro ds Q1 X1 h
  obtain ⟨c, rfl, hl, k⟩ := h
  try simp only [d_turned_list, wpA1, wpA2, wpA3, wpA4, wpA5, wpA6, wpA7, implies_true, forall_const, ↓bc_t, ↓bc_f, rds, rd, tks, tks1, tk, brwArg, allW, mkTup, heldB, Op.pm, Op.wm, Op.watch, putIn, live, ownL, cArgs, apartArgs, outDs, putOuts, noBrw, takeSlot, shallow, isW, lateIn, Es.vars, Tg.set, setAll, wipeR, startE, initE, outsOf, if_true, if_false, reduceIte, Nat.reduceEqDiff, Nat.reduceLT, Nat.reduceLeDiff, Nat.reduceAdd, Nat.reduceSub, ne_eq, reduceCtorEq, wKeys, wKey, Int.reduceToNat, Nat.reduceBEq, eqA1, eqA2]
  refine lc_dl wO negO c (stays_one rfl) (sz hl) (fun x hx k hk => ?_) ?_
  · try simp only [turnL, wpA1, wpA2, wpA3, wpA4, wpA5, wpA6, wpA7, implies_true, forall_const, ↓bc_t, ↓bc_f, rds, rd, tks, tks1, tk, brwArg, allW, mkTup, heldB, Op.pm, Op.wm, Op.watch, putIn, live, ownL, cArgs, apartArgs, outDs, putOuts, noBrw, takeSlot, shallow, isW, lateIn, Es.vars, Tg.set, setAll, wipeR, startE, initE, outsOf, if_true, if_false, reduceIte, Nat.reduceEqDiff, Nat.reduceLT, Nat.reduceLeDiff, Nat.reduceAdd, Nat.reduceSub, ne_eq, reduceCtorEq, wKeys, wKey, Int.reduceToNat, Nat.reduceBEq, eqA1, eqA2, tf_turned_list_turned_moment, fs_turned_moment, fp_turned_moment, mk_turned_moment]
    exact hk
  try simp only [wpA1, wpA2, wpA3, wpA4, wpA5, wpA6, wpA7, implies_true, forall_const, ↓bc_t, ↓bc_f, rds, rd, tks, tks1, tk, brwArg, allW, mkTup, heldB, Op.pm, Op.wm, Op.watch, putIn, live, ownL, cArgs, apartArgs, outDs, putOuts, noBrw, takeSlot, shallow, isW, lateIn, Es.vars, Tg.set, setAll, wipeR, startE, initE, outsOf, if_true, if_false, reduceIte, Nat.reduceEqDiff, Nat.reduceLT, Nat.reduceLeDiff, Nat.reduceAdd, Nat.reduceSub, ne_eq, reduceCtorEq, wKeys, wKey, Int.reduceToNat, Nat.reduceBEq, eqA1, eqA2]
  exact k
theorem st_turned (g : Web) (m : M3) : St3 (turnedWeb g) m ↔ St3 g (0 - m.1, m.2.1, m.2.2) := by
  have key : ∀ m : M3, m ∈ (turnedWeb g).ms ↔ (0 - m.1, m.2.1, m.2.2) ∈ g.ms := fun m => by
    show m ∈ srt3 _ ↔ _
    rw [(srt_perm t3 _).mem_iff, List.mem_map]
    constructor
    · rintro ⟨x, hx, rfl⟩
      show (0 - (0 - x.1), x.2.1, x.2.2) ∈ g.ms
      rw [show 0 - (0 - x.1) = x.1 by omega]
      exact hx
    · intro h
      refine ⟨_, h, ?_⟩
      show (0 - (0 - m.1), m.2.1, m.2.2) = m
      rw [show 0 - (0 - m.1) = m.1 by omega]
  unfold St3
  rw [key m, key]
theorem WebA.turned {g : Web} (h : WebA g) : WebA (turnedWeb g) := ⟨h.n0, h.n9, by show (srt3 _).length ≤ 31; rw [srt_len, List.length_map]; exact h.len, fun m hm => by
  have hm : m ∈ srt3 _ := hm
  rw [(srt_perm t3 _).mem_iff] at hm
  obtain ⟨x, hx, rfl⟩ := List.mem_map.mp hm
  have := h.ok x hx
  unfold MeetOk at this
  exact ⟨by show -(10 ^ 9) ≤ 0 - x.1; omega, by show 0 - x.1 ≤ 10 ^ 9; omega, this.2.2⟩⟩
def d_latest_to : Def := ⟨["web", "rest", "goal", "last"], ["web", "rest", "goal", "last"], [false, false, false, false],
 (.cons (.ret (.call "turned_list" (.cons (.call "soonest_from" (.cons (.call "turned_web" (.cons (.var 0) .nil)) (.cons (.var 1) (.cons (.var 2) (.cons (.op (.bin .sub) (.cons (.cst (.int 0)) (.cons (.var 3) .nil))) .nil))))) .nil)))
 .nil)⟩
def T_latest_to : Tab := [F_turned_list, F_soonest_from, F_turned_web]
theorem tf_latest_to_turned_list : T_latest_to.find "turned_list" = some F_turned_list := rfl
theorem tf_latest_to_soonest_from : T_latest_to.find "soonest_from" = some F_soonest_from := rfl
theorem tf_latest_to_turned_web : T_latest_to.find "turned_web" = some F_turned_web := rfl
def sp_latest_to : FSpec := fun ds Q X => ∃ (g : Web) (rest goal last : Int), ds = [dWeb g, dI rest, dI goal, dI last] ∧ (WebA g ∧ 0 ≤ rest ∧ 0 ≤ goal ∧ goal < g.n ∧ ∀ c, ClkOk (St3 (turnedWeb g)) rest goal (0 - last) g.n c → Q (.lst (dl wO (c.map negO))) [])
def F_latest_to : Fn := ⟨"latest_to", [false, false, false, false], 4, sp_latest_to⟩
theorem fs_latest_to : F_latest_to.sig = [false, false, false, false] := rfl
theorem fp_latest_to : F_latest_to.spec = sp_latest_to := rfl
theorem mk_latest_to (g : Web) (rest goal last : Int) (Q : Kn (D → List D → Prop)) (X : Kn (Ex → List D → Prop)) : sB sp_latest_to [dWeb g, dI rest, dI goal, dI last] = (WebA g ∧ 0 ≤ rest ∧ 0 ≤ goal ∧ goal < g.n ∧ ∀ c, ClkOk (St3 (turnedWeb g)) rest goal (0 - last) g.n c → Q.k (.lst (dl wO (c.map negO))) []) := by
  refine propext ⟨fun h => ?_, fun h => ⟨g, rest, goal, last, rfl, h⟩⟩
  obtain ⟨g', rest', goal', last', e, h⟩ := h
  simp only [and_assoc, List.cons.injEq, and_true, true_and, D.w.injEq, D.lst.injEq, D.tup.injEq, D.fz.injEq, D.dK.injEq, D.dT.injEq, W.int.injEq, W.bl.injEq, W.tup.injEq, W.str.injEq, wWeb_inj, dl_inj3, dl_injI, map_inj3, map_injI, w3_inj, dl_injO, dl_injS, wO_inj, wS_inj, w2_inj, dl_inj2, wG_inj, dl_injG] at e
  obtain ⟨rfl, rfl, rfl, rfl⟩ := e
  exact h
theorem v_latest_to : Ver T_latest_to d_latest_to sp_latest_to := by
  intro ds Q1 X1 h
  obtain ⟨g, rest, goal, last, rfl, hg, hr, s0, s1, k⟩ := h
  have n9 := hg.n9
  try simp only [d_latest_to, wpA1, wpA2, wpA3, wpA4, wpA5, wpA6, wpA7, implies_true, forall_const, ↓bc_t, ↓bc_f, rds, rd, tks, tks1, tk, brwArg, allW, mkTup, heldB, Op.pm, Op.wm, Op.watch, putIn, live, ownL, cArgs, apartArgs, outDs, putOuts, noBrw, takeSlot, shallow, isW, lateIn, Es.vars, Tg.set, setAll, wipeR, startE, initE, outsOf, if_true, if_false, reduceIte, Nat.reduceEqDiff, Nat.reduceLT, Nat.reduceLeDiff, Nat.reduceAdd, Nat.reduceSub, ne_eq, reduceCtorEq, wKeys, wKey, Int.reduceToNat, Nat.reduceBEq, eqA1, eqA2, tf_latest_to_turned_list, tf_latest_to_soonest_from, tf_latest_to_turned_web, fs_turned_list, fp_turned_list, mk_turned_list, fs_soonest_from, fp_soonest_from, mk_soonest_from, fs_turned_web, fp_turned_web, mk_turned_web]
  refine ⟨by have := hg.len; omega, hg.turned, hr, s0, s1, fun c hc => ?_⟩
  have hl : c.length = g.n.toNat := hc.len
  try simp only [wpA1, wpA2, wpA3, wpA4, wpA5, wpA6, wpA7, implies_true, forall_const, ↓bc_t, ↓bc_f, rds, rd, tks, tks1, tk, brwArg, allW, mkTup, heldB, Op.pm, Op.wm, Op.watch, putIn, live, ownL, cArgs, apartArgs, outDs, putOuts, noBrw, takeSlot, shallow, isW, lateIn, Es.vars, Tg.set, setAll, wipeR, startE, initE, outsOf, if_true, if_false, reduceIte, Nat.reduceEqDiff, Nat.reduceLT, Nat.reduceLeDiff, Nat.reduceAdd, Nat.reduceSub, ne_eq, reduceCtorEq, wKeys, wKey, Int.reduceToNat, Nat.reduceBEq, eqA1, eqA2, tf_latest_to_turned_list, tf_latest_to_soonest_from, tf_latest_to_turned_web, fs_turned_list, fp_turned_list, mk_turned_list, fs_soonest_from, fp_soonest_from, mk_soonest_from, fs_turned_web, fp_turned_web, mk_turned_web]
  exact ⟨by omega, k c hc⟩
end Wm
namespace Wm
open PySem PySem.Spec PyProof.Rows L2
/-- what comes behind a statement is shown once -/
theorem st_cut {T : Tab} {X : Ex → REnv → Prop} {p : Bool} {s : S} {ss : Ss} {ρ : REnv} {k : WK} (J : REnv → Prop) (h2 : ∀ ρ', J ρ' → @bSs T X p ss ρ' ⟨k⟩)
    (h1 : ∀ K : WK, (∀ ρ', J ρ' → @knx ρ' ⟨K⟩) → (∀ d ρ', @krt d ρ' ⟨k⟩ → @krt d ρ' ⟨K⟩) → (∀ ρ', @kbk ρ' ⟨k⟩ → @kbk ρ' ⟨K⟩) → (∀ ρ', @kct ρ' ⟨k⟩ → @kct ρ' ⟨K⟩) → @bS T X p s ρ ⟨K⟩) : @bSs T X p (.cons s ss) ρ ⟨k⟩ :=
  h1 (seqK T X p ss k) h2 (fun _ _ h => h) (fun _ h => h) fun _ h => h
end Wm
namespace Wm
open PySem PySem.Spec PyProof.Rows L2
def passC (rest start first : Int) (L : List M3) (c : List (Option Int)) : List (Option Int) := L.foldl (stC rest start first) c
def iterC (rest start first : Int) (L : List M3) (c : List (Option Int)) : Nat → List (Option Int)
  | 0 => c
  | i + 1 => passC rest start first L (iterC rest start first L c i)
theorem passC_snoc (rest start first : Int) (L : List M3) (m : M3) (c : List (Option Int)) : passC rest start first (L ++ [m]) c = stC rest start first (passC rest start first L c) m := by
  unfold passC
  rw [List.foldl_append]
  rfl
section
variable {S : M3 → Prop} {rest start first n : Int} {c c' cs : List (Option Int)} {tr : List (Option M3)}
theorem pass_ok (hs : 0 ≤ start) (hS : ∀ m, S m → InN n m) : ∀ (L : List M3) {c : List (Option Int)}, (∀ m ∈ L, S m) → ClkB S rest start first n c → ClkB S rest start first n (passC rest start first L c) ∧ Le (passC rest start first L c) c ∧ Cov (fun m => m ∈ L) rest start first c (passC rest start first L c)
  | [], c, _, hb => ⟨hb, Le.refl c, fun _ h => nomatch h⟩
  | m :: L, c, hL, hb => by
    have hm := hL m List.mem_cons_self
    have hN := hS m hm
    have hb1 := hb.step hs hm hN
    have hl1 : Le (stC rest start first c m) c := stC_le hN hb.len
    obtain ⟨b, le, cov⟩ := pass_ok hs hS L (fun x hx => hL x (List.mem_cons_of_mem _ hx)) hb1
    refine ⟨b, le.trans hl1, fun x hx hv hg => ?_⟩
    rcases List.mem_cons.mp hx with rfl | hx
    · obtain ⟨s, e, k⟩ := stC_done hN hb.len hv hg
      obtain ⟨s', e', k'⟩ := le _ s hN.2.2.1 e
      exact ⟨s', e', by omega⟩
    · exact cov x hx hv (goB_le hl1 (hS x (hL x (List.mem_cons_of_mem _ hx))).1 hg)
theorem iter_ok (hr : 0 ≤ rest) (h0 : 0 ≤ start) (h1 : start < n) (hS : ∀ m, S m → InN n m) {L : List M3} (hL : ∀ m, S m ↔ m ∈ L) : ClkOk S rest start first n (iterC rest start first L (clk0 n start first) n.toNat) := by
  obtain ⟨cs, tr, hs, ht⟩ := clk_exists (first := first) hr h0 L hL hS _ _ _ (Nat.le_refl _) (clk0_B h0 h1) (clk0_T h0 h1)
  have key : ∀ i, ClkB S rest start first n (iterC rest start first L (clk0 n start first) i) ∧ (iterC rest start first L (clk0 n start first) i = cs ∨ i < cor n (iterC rest start first L (clk0 n start first) i) cs) := by
    intro i
    induction i with
    | zero => exact ⟨clk0_B h0 h1, .inr (cor_pos h0 h1 (clk0_B h0 h1) hs)⟩
    | succ i ih =>
      obtain ⟨hb, hc⟩ := ih
      obtain ⟨hb', hle, hcov⟩ := pass_ok h0 hS L (fun m hm => (hL m).mpr hm) hb
      refine ⟨hb', ?_⟩
      have cov : Cov S rest start first (iterC rest start first L (clk0 n start first) i) (passC rest start first L (iterC rest start first L (clk0 n start first) i)) := fun m hm => hcov m ((hL m).mp hm)
      rcases cor_grow hr hs ht hS hb hb' hle cov with z | z
      · exact .inl z
      · rcases hc with hc | hc
        · exact .inl (hb'.eq_of_le hr hs (by rw [← hc]; exact hle))
        · exact .inr (Nat.lt_of_le_of_lt hc z)
  obtain ⟨hb, hc⟩ := key n.toNat
  rcases hc with hc | hc
  · rw [hc]
    exact hs
  · have := cor_le (n := n) (c := iterC rest start first L (clk0 n start first) n.toNat) (cs := cs)
    omega
end
def twoWays (g : Web) : List M3 := g.ms ++ g.ms.map fun m => (m.1, m.2.2, m.2.1)
theorem mem_twoWays {g : Web} {m : M3} : m ∈ twoWays g ↔ St3 g m := by
  unfold twoWays St3
  rw [List.mem_append, List.mem_map]
  constructor
  · rintro (h | ⟨x, hx, rfl⟩)
    · exact .inl h
    · exact .inr hx
  · rintro (h | h)
    · exact .inl h
    · exact .inr ⟨_, h, rfl⟩
theorem negO_neg (o : Option Int) : negO (negO o) = o := by
  cases o with
  | none => rfl
  | some t => show some (0 - (0 - t)) = _; rw [show 0 - (0 - t) = t by omega]
theorem negs_negs (c : List (Option Int)) : (c.map negO).map negO = c := by
  rw [List.map_map]
  exact (List.map_congr_left fun o _ => negO_neg o).trans (List.map_id c)
theorem ck_neg1 (c : List (Option Int)) (p : Int) : ck (c.map negO) p = negO (ck c p) := by
  unfold ck
  rw [List.getD_eq_getElem?_getD, List.getD_eq_getElem?_getD, List.getElem?_map]
  cases c[p.toNat]? <;> rfl
theorem set_neg (c : List (Option Int)) (i : Nat) (t : Int) : (c.map negO).set i (some t) = (c.set i (some (0 - t))).map negO := by
  rw [List.map_set]
  show _ = (c.map negO).set i (some (0 - (0 - t)))
  rw [show 0 - (0 - t) = t by omega]
/-- a step, turned about -/
def tn (m : M3) : M3 := (0 - m.1, m.2.2, m.2.1)
theorem mem_tn {g : Web} {m : M3} : m ∈ (twoWays g).map tn ↔ St3 (turnedWeb g) m := by
  rw [st_turned, List.mem_map]
  constructor
  · rintro ⟨x, hx, rfl⟩
    have := mem_twoWays.mp hx
    unfold St3 at this ⊢
    show (0 - (0 - x.1), x.2.2, x.2.1) ∈ g.ms ∨ (0 - (0 - x.1), x.2.1, x.2.2) ∈ g.ms
    rw [show 0 - (0 - x.1) = x.1 by omega]
    exact this.symm
  · intro h
    refine ⟨(0 - m.1, m.2.2, m.2.1), mem_twoWays.mpr ?_, ?_⟩
    · unfold St3 at h ⊢
      exact h.symm
    · show (0 - (0 - m.1), m.2.1, m.2.2) = m
      rw [show 0 - (0 - m.1) = m.1 by omega]
end Wm
namespace Wm
open PySem PySem.Spec PyProof.Rows L2
def d_wideD : Def := ⟨["pool", "base"], ["pool", "base", "found", "k"], [true, false],
 (.cons (.ifS (.op (.cmp .gt) (.cons (.op .idx (.cons (.var 0) (.cons (.cst (.int 0)) .nil))) (.cons (.cst (.int 0)) .nil)))
 (.cons (.ret (.call "_law_next" (.cons (.var 0) (.cons (.var 1) .nil))))
 .nil)
 .nil)
 (.cons (.asg 2 (.cst (.int 0)))
 (.cons (.forS (.one 3) (.rng (.cons (.cst (.int 5)) .nil))
 (.cons (.asg 2 (.op (.bin .add) (.cons (.op (.bin .mul) (.cons (.var 2) (.cons (.op (.bin .pow) (.cons (.cst (.int 10)) (.cons (.cst (.int 7)) .nil))) .nil))) (.cons (.call "_law_next" (.cons (.var 0) (.cons (.op (.bin .pow) (.cons (.cst (.int 10)) (.cons (.cst (.int 7)) .nil))) .nil))) .nil))))
 .nil))
 (.cons (.ret (.op (.bin .mod) (.cons (.var 2) (.cons (.var 1) .nil))))
 .nil))))⟩
def T_wideD : Tab := [F_nextB]
theorem tf_wideD_nextB : T_wideD.find "_law_next" = some F_nextB := rfl
def sp_wideD : FSpec := fun ds Q X => ∃ (a b c base : Int), ds = [pool a b c, dI base] ∧ (PoolOk a b c ∧ 0 < base ∧ base < 2 ^ 200 ∧ ∀ a' b' c' d, PoolOk a' b' c' → 0 ≤ d → d < base → Q (dI d) [pool a' b' c'])
def F_wideD : Fn := ⟨"_law_wide", [true, false], 2, sp_wideD⟩
theorem fs_wideD : F_wideD.sig = [true, false] := rfl
theorem fp_wideD : F_wideD.spec = sp_wideD := rfl
theorem mk_wideD (a b c base : Int) (Q : Kn (D → List D → Prop)) (X : Kn (Ex → List D → Prop)) : sB sp_wideD [pool a b c, dI base] = (PoolOk a b c ∧ 0 < base ∧ base < 2 ^ 200 ∧ ∀ a' b' c' d, PoolOk a' b' c' → 0 ≤ d → d < base → Q.k (dI d) [pool a' b' c']) := by
  refine propext ⟨fun h => ?_, fun h => ⟨a, b, c, base, rfl, h⟩⟩
  obtain ⟨a', b', c', base', e, h⟩ := h
  simp only [and_assoc, List.cons.injEq, and_true, true_and, D.w.injEq, D.lst.injEq, D.tup.injEq, D.fz.injEq, D.dK.injEq, D.dT.injEq, W.int.injEq, W.bl.injEq, W.tup.injEq, W.str.injEq, wWeb_inj, dl_inj3, dl_injI, map_inj3, map_injI, w3_inj, dl_injO, dl_injS, wO_inj, wS_inj, w2_inj, dl_inj2, wG_inj, dl_injG] at e
  obtain ⟨rfl, rfl, rfl, rfl⟩ := e
  exact h
theorem v_wideD : Ver T_wideD d_wideD sp_wideD := by
  intro ds Q1 X1 h
  obtain ⟨a, b, c, base, rfl, hp, h0, h1, k⟩ := h
  try simp only [d_wideD, wpA1, wpA2, wpA3, wpA4, wpA5, wpA6, wpA7, implies_true, forall_const, ↓bc_t, ↓bc_f, rds, rd, tks, tks1, tk, brwArg, allW, mkTup, heldB, Op.pm, Op.wm, Op.watch, putIn, live, ownL, cArgs, apartArgs, outDs, putOuts, noBrw, takeSlot, shallow, isW, lateIn, Es.vars, Tg.set, setAll, wipeR, startE, initE, outsOf, if_true, if_false, reduceIte, Nat.reduceEqDiff, Nat.reduceLT, Nat.reduceLeDiff, Nat.reduceAdd, Nat.reduceSub, ne_eq, reduceCtorEq, wKeys, wKey, Int.reduceToNat, Nat.reduceBEq, tf_wideD_nextB, fs_nextB, fp_nextB, mk_nextB]
  refine bc_dec (fun e => ⟨hp, h0, h1, fun a b c d hp d0 d1 => k _ _ _ _ hp d0 d1⟩) fun e => ⟨s62 (by decide) (by decide), ?_⟩
  refine for_range (fun i ρ => ∃ a b c d x3, ρ = [some ⟨.own, pool a b c⟩, some (sw (.int base)), some (sw (.int d)), x3] ∧ PoolOk a b c) ⟨_, _, _, _, _, rfl, hp⟩ (fun i ρ k2 hi h2 hk => ⟨stays_nil _, ?_⟩) fun ρ h2 => ⟨stays_nil _, ?_⟩
  · obtain ⟨a, b, c, d, x3, rfl, hp⟩ := h2
    try simp only [turnF, wpA1, wpA2, wpA3, wpA4, wpA5, wpA6, wpA7, implies_true, forall_const, ↓bc_t, ↓bc_f, rds, rd, tks, tks1, tk, brwArg, allW, mkTup, heldB, Op.pm, Op.wm, Op.watch, putIn, live, ownL, cArgs, apartArgs, outDs, putOuts, noBrw, takeSlot, shallow, isW, lateIn, Es.vars, Tg.set, setAll, wipeR, startE, initE, outsOf, if_true, if_false, reduceIte, Nat.reduceEqDiff, Nat.reduceLT, Nat.reduceLeDiff, Nat.reduceAdd, Nat.reduceSub, ne_eq, reduceCtorEq, wKeys, wKey, Int.reduceToNat, Nat.reduceBEq, tf_wideD_nextB, fs_nextB, fp_nextB, mk_nextB]
    exact ⟨⟨by decide, by decide, by decide⟩, cmul_r (by decide) (by decide), ⟨by decide, by decide, by decide⟩, hp, by decide, by decide, fun a b c d hp d0 d1 => hk _ ⟨_, _, _, _, _, rfl, hp⟩⟩
  · obtain ⟨a, b, c, d, x3, rfl, hp⟩ := h2
    try simp only [wpA1, wpA2, wpA3, wpA4, wpA5, wpA6, wpA7, implies_true, forall_const, ↓bc_t, ↓bc_f, rds, rd, tks, tks1, tk, brwArg, allW, mkTup, heldB, Op.pm, Op.wm, Op.watch, putIn, live, ownL, cArgs, apartArgs, outDs, putOuts, noBrw, takeSlot, shallow, isW, lateIn, Es.vars, Tg.set, setAll, wipeR, startE, initE, outsOf, if_true, if_false, reduceIte, Nat.reduceEqDiff, Nat.reduceLT, Nat.reduceLeDiff, Nat.reduceAdd, Nat.reduceSub, ne_eq, reduceCtorEq, wKeys, wKey, Int.reduceToNat, Nat.reduceBEq]
    exact ⟨h0, k _ _ _ _ hp (Int.emod_nonneg _ (by omega)) (Int.emod_lt_of_pos _ h0)⟩
def d_momentD : Def := ⟨["pool", "size"], ["pool", "size"], [true, false],
 (.cons (.ifS (.op (.cmp .eq) (.cons (.var 1) (.cons (.cst (.int 4)) .nil)))
 (.cons (.ret (.op (.bin .sub) (.cons (.call "_law_wide" (.cons (.var 0) (.cons (.op (.bin .add) (.cons (.op (.bin .mul) (.cons (.cst (.int 2)) (.cons (.op (.bin .pow) (.cons (.cst (.int 10)) (.cons (.cst (.int 9)) .nil))) .nil))) (.cons (.cst (.int 1)) .nil))) .nil))) (.cons (.op (.bin .pow) (.cons (.cst (.int 10)) (.cons (.cst (.int 9)) .nil))) .nil))))
 .nil)
 .nil)
 (.cons (.ifS (.op (.cmp .eq) (.cons (.var 1) (.cons (.cst (.int 2)) .nil)))
 (.cons (.ret (.op (.bin .mul) (.cons (.cst (.int 3)) (.cons (.call "_law_next" (.cons (.var 0) (.cons (.cst (.int 13)) .nil))) .nil))))
 .nil)
 .nil)
 (.cons (.ret (.op (.bin .sub) (.cons (.call "_law_next" (.cons (.var 0) (.cons (.op .idx (.cons (.op .lst (.cons (.cst (.int 7)) (.cons (.cst (.int 31)) (.cons (.cst (.int 1)) (.cons (.cst (.int 25)) .nil))))) (.cons (.var 1) .nil))) .nil))) (.cons (.op .idx (.cons (.op .lst (.cons (.cst (.int 0)) (.cons (.cst (.int 0)) (.cons (.cst (.int 0)) (.cons (.cst (.int 12)) .nil))))) (.cons (.var 1) .nil))) .nil))))
 .nil)))⟩
def T_momentD : Tab := [F_nextB, F_wideD]
theorem tf_momentD_nextB : T_momentD.find "_law_next" = some F_nextB := rfl
theorem tf_momentD_wideD : T_momentD.find "_law_wide" = some F_wideD := rfl
def sp_momentD : FSpec := fun ds Q X => ∃ (a b c kind : Int), ds = [pool a b c, dI kind] ∧ (PoolOk a b c ∧ 0 ≤ kind ∧ kind < 5 ∧ ∀ a' b' c' d, PoolOk a' b' c' → -(10 ^ 9) ≤ d → d ≤ 10 ^ 9 → Q (dI d) [pool a' b' c'])
def F_momentD : Fn := ⟨"_law_moment", [true, false], 3, sp_momentD⟩
theorem fs_momentD : F_momentD.sig = [true, false] := rfl
theorem fp_momentD : F_momentD.spec = sp_momentD := rfl
theorem mk_momentD (a b c kind : Int) (Q : Kn (D → List D → Prop)) (X : Kn (Ex → List D → Prop)) : sB sp_momentD [pool a b c, dI kind] = (PoolOk a b c ∧ 0 ≤ kind ∧ kind < 5 ∧ ∀ a' b' c' d, PoolOk a' b' c' → -(10 ^ 9) ≤ d → d ≤ 10 ^ 9 → Q.k (dI d) [pool a' b' c']) := by
  refine propext ⟨fun h => ?_, fun h => ⟨a, b, c, kind, rfl, h⟩⟩
  obtain ⟨a', b', c', kind', e, h⟩ := h
  simp only [and_assoc, List.cons.injEq, and_true, true_and, D.w.injEq, D.lst.injEq, D.tup.injEq, D.fz.injEq, D.dK.injEq, D.dT.injEq, W.int.injEq, W.bl.injEq, W.tup.injEq, W.str.injEq, wWeb_inj, dl_inj3, dl_injI, map_inj3, map_injI, w3_inj, dl_injO, dl_injS, wO_inj, wS_inj, w2_inj, dl_inj2, wG_inj, dl_injG] at e
  obtain ⟨rfl, rfl, rfl, rfl⟩ := e
  exact h
theorem v_momentD : Ver T_momentD d_momentD sp_momentD := by
  intro ds Q1 X1 h
  obtain ⟨a, b, c, kind, rfl, hp, h0, h1, k⟩ := h
  try simp only [d_momentD, wpA1, wpA2, wpA3, wpA4, wpA5, wpA6, wpA7, implies_true, forall_const, ↓bc_t, ↓bc_f, rds, rd, tks, tks1, tk, brwArg, allW, mkTup, heldB, Op.pm, Op.wm, Op.watch, putIn, live, ownL, cArgs, apartArgs, outDs, putOuts, noBrw, takeSlot, shallow, isW, lateIn, Es.vars, Tg.set, setAll, wipeR, startE, initE, outsOf, if_true, if_false, reduceIte, Nat.reduceEqDiff, Nat.reduceLT, Nat.reduceLeDiff, Nat.reduceAdd, Nat.reduceSub, ne_eq, reduceCtorEq, wKeys, wKey, Int.reduceToNat, Nat.reduceBEq, tf_momentD_nextB, tf_momentD_wideD, fs_nextB, fp_nextB, mk_nextB, fs_wideD, fp_wideD, mk_wideD]
  refine bc_dec (fun e => ?_) fun e => bc_dec (fun e => ?_) fun e => ?_
  · exact ⟨⟨by decide, by decide, by decide⟩, cmul_l (by decide) (by decide), hp, by decide, by decide, fun a b c d hp d0 d1 => ⟨⟨by decide, by decide, by decide⟩, k _ _ _ _ hp (by omega) (by omega)⟩⟩
  · exact ⟨hp, by decide, by decide, fun a b c d hp d0 d1 => ⟨cmul_l (by decide) (by decide), k _ _ _ _ hp (by omega) (by omega)⟩⟩
  · have : kind = 0 ∨ kind = 1 ∨ kind = 3 := by omega
    rcases this with rfl | rfl | rfl <;> try simp only [wpA1, wpA2, wpA3, wpA4, wpA5, wpA6, wpA7, implies_true, forall_const, ↓bc_t, ↓bc_f, rds, rd, tks, tks1, tk, brwArg, allW, mkTup, heldB, Op.pm, Op.wm, Op.watch, putIn, live, ownL, cArgs, apartArgs, outDs, putOuts, noBrw, takeSlot, shallow, isW, lateIn, Es.vars, Tg.set, setAll, wipeR, startE, initE, outsOf, if_true, if_false, reduceIte, Nat.reduceEqDiff, Nat.reduceLT, Nat.reduceLeDiff, Nat.reduceAdd, Nat.reduceSub, ne_eq, reduceCtorEq, wKeys, wKey, Int.reduceToNat, Nat.reduceBEq, tf_momentD_nextB, tf_momentD_wideD, fs_nextB, fp_nextB, mk_nextB, fs_wideD, fp_wideD, mk_wideD] <;> exact ⟨hp, by decide, by decide, fun a b c d hp d0 d1 => k _ _ _ _ hp (by omega) (by omega)⟩
def r_webD_1 : Ss := (.cons (.asg 6 (.call "_law_next" (.cons (.var 0) (.cons (.var 1) .nil))))
 (.cons (.asg 7 (.op (.bin .mod) (.cons (.op (.bin .add) (.cons (.op (.bin .add) (.cons (.var 6) (.cons (.cst (.int 1)) .nil))) (.cons (.call "_law_next" (.cons (.var 0) (.cons (.op (.bin .sub) (.cons (.var 1) (.cons (.cst (.int 1)) .nil))) .nil))) .nil))) (.cons (.var 1) .nil))))
 (.cons (.setI 3 (.op .tup (.cons (.var 4) (.cons (.op .min2 (.cons (.var 6) (.cons (.var 7) .nil))) (.cons (.op .max2 (.cons (.var 6) (.cons (.var 7) .nil))) .nil)))) (.cst (.bl true)))
 .nil)))
def r_webD_2 : Ss := (.cons (.ifS (.or (.op (.cmp .eq) (.cons (.var 5) (.cons (.cst (.int 0)) .nil))) (.op (.cmp .gt) (.cons (.call "_law_next" (.cons (.var 0) (.cons (.cst (.int 4)) .nil))) (.cons (.cst (.int 0)) .nil))))
 (.cons (.asg 4 (.call "_law_moment" (.cons (.var 0) (.cons (.var 2) .nil))))
 .nil)
 .nil)
 r_webD_1)
def d_webD : Def := ⟨["pool"], ["pool", "many", "size", "meets", "moment", "k", "one", "other"], [true],
 (.cons (.asg 1 (.op (.bin .add) (.cons (.cst (.int 1)) (.cons (.call "_law_next" (.cons (.var 0) (.cons (.cst (.int 7)) .nil))) .nil))))
 (.cons (.asg 2 (.call "_law_next" (.cons (.var 0) (.cons (.cst (.int 5)) .nil))))
 (.cons (.asg 3 (.op .dnewT .nil))
 (.cons (.asg 4 (.cst (.int 0)))
 (.cons (.forS (.one 5) (.rng (.cons (.call "_law_next" (.cons (.var 0) (.cons (.cst (.int 25)) .nil))) .nil))
 (.cons (.ifS (.op (.cmp .gt) (.cons (.var 1) (.cons (.cst (.int 1)) .nil)))
 r_webD_2
 .nil)
 .nil))
 (.cons (.ret (.op .tup (.cons (.var 1) (.cons (.op .tuple (.cons (.op .sorted (.cons (.var 3) .nil)) .nil)) .nil))))
 .nil))))))⟩
def T_webD : Tab := [F_nextB, F_momentD]
theorem tf_webD_nextB : T_webD.find "_law_next" = some F_nextB := rfl
theorem tf_webD_momentD : T_webD.find "_law_moment" = some F_momentD := rfl
def sp_webD : FSpec := fun ds Q X => ∃ (a b c : Int), ds = [pool a b c] ∧ (PoolOk a b c ∧ ∀ a' b' c' g, PoolOk a' b' c' → WebOk g → Q (dWeb g) [pool a' b' c'])
def F_webD : Fn := ⟨"_law_web", [true], 4, sp_webD⟩
theorem fs_webD : F_webD.sig = [true] := rfl
theorem fp_webD : F_webD.spec = sp_webD := rfl
theorem mk_webD (a b c : Int) (Q : Kn (D → List D → Prop)) (X : Kn (Ex → List D → Prop)) : sB sp_webD [pool a b c] = (PoolOk a b c ∧ ∀ a' b' c' g, PoolOk a' b' c' → WebOk g → Q.k (dWeb g) [pool a' b' c']) := by
  refine propext ⟨fun h => ?_, fun h => ⟨a, b, c, rfl, h⟩⟩
  obtain ⟨a', b', c', e, h⟩ := h
  simp only [and_assoc, List.cons.injEq, and_true, true_and, D.w.injEq, D.lst.injEq, D.tup.injEq, D.fz.injEq, D.dK.injEq, D.dT.injEq, W.int.injEq, W.bl.injEq, W.tup.injEq, W.str.injEq, wWeb_inj, dl_inj3, dl_injI, map_inj3, map_injI, w3_inj, dl_injO, dl_injS, wO_inj, wS_inj, w2_inj, dl_inj2, wG_inj, dl_injG] at e
  obtain ⟨rfl, rfl, rfl⟩ := e
  exact h
theorem v_webD : Ver T_webD d_webD sp_webD := by
  intro ds Q1 X1 h
  obtain ⟨a, b, c, rfl, hp, k⟩ := h
  try simp only [d_webD, wpA1, wpA2, wpA3, wpA4, wpA5, wpA6, wpA7, implies_true, forall_const, ↓bc_t, ↓bc_f, rds, rd, tks, tks1, tk, brwArg, allW, mkTup, heldB, Op.pm, Op.wm, Op.watch, putIn, live, ownL, cArgs, apartArgs, outDs, putOuts, noBrw, takeSlot, shallow, isW, lateIn, Es.vars, Tg.set, setAll, wipeR, startE, initE, outsOf, if_true, if_false, reduceIte, Nat.reduceEqDiff, Nat.reduceLT, Nat.reduceLeDiff, Nat.reduceAdd, Nat.reduceSub, ne_eq, reduceCtorEq, wKeys, wKey, Int.reduceToNat, Nat.reduceBEq, tf_webD_nextB, tf_webD_momentD, fs_nextB, fp_nextB, mk_nextB, fs_momentD, fp_momentD, mk_momentD]
  refine ⟨hp, by decide, by decide, fun a b c many hp h0 h1 => ⟨hp, by decide, by decide, fun a b c size hp k0 k1 => ⟨hp, by decide, by decide, fun a b c J hp c0 c1 => ?_⟩⟩⟩
  refine ⟨s62 (by omega) (by omega), for_range (fun i ρ => ∃ a b c l m x5 x6 x7, ρ = [some ⟨.own, pool a b c⟩, some (sw (.int (1 + many))), some (sw (.int size)), some ⟨.own, .dT (kd (.bl true) l)⟩, some (sw (.int m)), x5, x6, x7] ∧ PoolOk a b c ∧ -(10 ^ 9) ≤ m ∧ m ≤ 10 ^ 9 ∧ l.length ≤ i ∧ l.Nodup ∧ ∀ q ∈ l, MeetOk (1 + many) q) ⟨_, _, _, [], 0, _, _, _, rfl, hp, by decide, by decide, Nat.zero_le _, List.nodup_nil, fun _ h => nomatch h⟩ (fun i ρ k2 hi h2 hk => ⟨stays_nil _, ?_⟩) fun ρ h2 => ⟨stays_nil _, ?_⟩⟩
  · obtain ⟨a, b, c, l, m, x5, x6, x7, rfl, hp, m0, m1, hl, hn, hm⟩ := h2
    try simp only [turnF, wpA1, wpA2, wpA3, wpA4, wpA5, wpA6, wpA7, implies_true, forall_const, ↓bc_t, ↓bc_f, rds, rd, tks, tks1, tk, brwArg, allW, mkTup, heldB, Op.pm, Op.wm, Op.watch, putIn, live, ownL, cArgs, apartArgs, outDs, putOuts, noBrw, takeSlot, shallow, isW, lateIn, Es.vars, Tg.set, setAll, wipeR, startE, initE, outsOf, if_true, if_false, reduceIte, Nat.reduceEqDiff, Nat.reduceLT, Nat.reduceLeDiff, Nat.reduceAdd, Nat.reduceSub, ne_eq, reduceCtorEq, wKeys, wKey, Int.reduceToNat, Nat.reduceBEq, tf_webD_nextB, tf_webD_momentD, fs_nextB, fp_nextB, mk_nextB, fs_momentD, fp_momentD, mk_momentD, kd_len]
    refine bc_dec (fun mp => ?_) fun mp => hk _ ⟨_, _, _, _, _, _, _, _, rfl, hp, m0, m1, by omega, hn, hm⟩
    refine st_cut (fun ρ => ∃ a b c m, ρ = [some ⟨.own, pool a b c⟩, some (sw (.int (1 + many))), some (sw (.int size)), some ⟨.own, .dT (kd (.bl true) l)⟩, some (sw (.int m)), some (sw (.int (0 + (i : Int)))), x6, x7] ∧ PoolOk a b c ∧ -(10 ^ 9) ≤ m ∧ m ≤ 10 ^ 9) ?_ ?_
    · rintro _ ⟨a, b, c, m, rfl, hp, m0, m1⟩
      try simp only [r_webD_1, wpA1, wpA2, wpA3, wpA4, wpA5, wpA6, wpA7, implies_true, forall_const, ↓bc_t, ↓bc_f, rds, rd, tks, tks1, tk, brwArg, allW, mkTup, heldB, Op.pm, Op.wm, Op.watch, putIn, live, ownL, cArgs, apartArgs, outDs, putOuts, noBrw, takeSlot, shallow, isW, lateIn, Es.vars, Tg.set, setAll, wipeR, startE, initE, outsOf, if_true, if_false, reduceIte, Nat.reduceEqDiff, Nat.reduceLT, Nat.reduceLeDiff, Nat.reduceAdd, Nat.reduceSub, ne_eq, reduceCtorEq, wKeys, wKey, Int.reduceToNat, Nat.reduceBEq, tf_webD_nextB, tf_webD_momentD, fs_nextB, fp_nextB, mk_nextB, fs_momentD, fp_momentD, mk_momentD, kd_len]
      refine ⟨hp, by omega, by omega, fun a b c one hp o0 o1 => ⟨hp, by omega, by omega, fun a b c oth hp t0 t1 => ⟨by omega, szl (by omega), ?_⟩⟩⟩
      have g0 : 0 ≤ (one + 1 + oth) % (1 + many) := Int.emod_nonneg _ (by omega)
      have g1 : (one + 1 + oth) % (1 + many) < 1 + many := Int.emod_lt_of_pos _ (by omega)
      have ne := mod_ne o0 o1 t0 (by omega)
      generalize (one + 1 + oth) % (1 + many) = other at g0 g1 ne ⊢
      have hab := pair_ok o0 o1 g0 g1 ne
      rw [kd_put]
      exact hk _ ⟨_, _, _, _, _, _, _, _, rfl, hp, m0, m1, add_ok hl hn hm ⟨m0, m1, hab⟩⟩
    · intro K hK _ _ _
      try simp only [wpA1, wpA2, wpA3, wpA4, wpA5, wpA6, wpA7, implies_true, forall_const, ↓bc_t, ↓bc_f, rds, rd, tks, tks1, tk, brwArg, allW, mkTup, heldB, Op.pm, Op.wm, Op.watch, putIn, live, ownL, cArgs, apartArgs, outDs, putOuts, noBrw, takeSlot, shallow, isW, lateIn, Es.vars, Tg.set, setAll, wipeR, startE, initE, outsOf, if_true, if_false, reduceIte, Nat.reduceEqDiff, Nat.reduceLT, Nat.reduceLeDiff, Nat.reduceAdd, Nat.reduceSub, ne_eq, reduceCtorEq, wKeys, wKey, Int.reduceToNat, Nat.reduceBEq, tf_webD_nextB, tf_webD_momentD, fs_nextB, fp_nextB, mk_nextB, fs_momentD, fp_momentD, mk_momentD]
      refine bc_dec (fun _ => ⟨hp, k0, k1, fun a b c d hp d0 d1 => hK _ ⟨_, _, _, _, rfl, hp, d0, d1⟩⟩) fun _ => ⟨hp, by decide, by decide, fun a b c d hp _ _ => bc_dec (fun _ => ⟨hp, k0, k1, fun a b c d hp d0 d1 => hK _ ⟨_, _, _, _, rfl, hp, d0, d1⟩⟩) fun _ => hK _ ⟨_, _, _, _, rfl, hp, m0, m1⟩⟩
  · obtain ⟨a, b, c, l, m, x5, x6, x7, rfl, hp, m0, m1, hl, hn, hm⟩ := h2
    try simp only [wpA1, wpA2, wpA3, wpA4, wpA5, wpA6, wpA7, implies_true, forall_const, ↓bc_t, ↓bc_f, rds, rd, tks, tks1, tk, brwArg, allW, mkTup, heldB, Op.pm, Op.wm, Op.watch, putIn, live, ownL, cArgs, apartArgs, outDs, putOuts, noBrw, takeSlot, shallow, isW, lateIn, Es.vars, Tg.set, setAll, wipeR, startE, initE, outsOf, if_true, if_false, reduceIte, Nat.reduceEqDiff, Nat.reduceLT, Nat.reduceLeDiff, Nat.reduceAdd, Nat.reduceSub, ne_eq, reduceCtorEq, wKeys, wKey, Int.reduceToNat, Nat.reduceBEq, p_sortedK]
    exact ⟨by omega, k _ _ _ ⟨_, srt3 l⟩ hp (web_of (by omega) (by omega) (by omega) hn hm)⟩
def d_restD : Def := ⟨["pool"], ["pool"], [true],
 (.cons (.ret (.op .idx (.cons (.op .lst (.cons (.cst (.int 0)) (.cons (.cst (.int 1)) (.cons (.cst (.int 2)) (.cons (.cst (.int 3)) (.cons (.op (.bin .sub) (.cons (.op (.bin .pow) (.cons (.cst (.int 10)) (.cons (.cst (.int 9)) .nil))) (.cons (.call "_law_next" (.cons (.var 0) (.cons (.cst (.int 2)) .nil))) .nil))) (.cons (.call "_law_next" (.cons (.var 0) (.cons (.cst (.int 13)) .nil))) .nil))))))) (.cons (.call "_law_next" (.cons (.var 0) (.cons (.cst (.int 6)) .nil))) .nil))))
 .nil)⟩
def T_restD : Tab := [F_nextB]
theorem tf_restD_nextB : T_restD.find "_law_next" = some F_nextB := rfl
def sp_restD : FSpec := fun ds Q X => ∃ (a b c : Int), ds = [pool a b c] ∧ (PoolOk a b c ∧ ∀ a' b' c' d, PoolOk a' b' c' → 0 ≤ d → d ≤ 10 ^ 9 → Q (dI d) [pool a' b' c'])
def F_restD : Fn := ⟨"_law_rest", [true], 2, sp_restD⟩
theorem fs_restD : F_restD.sig = [true] := rfl
theorem fp_restD : F_restD.spec = sp_restD := rfl
theorem mk_restD (a b c : Int) (Q : Kn (D → List D → Prop)) (X : Kn (Ex → List D → Prop)) : sB sp_restD [pool a b c] = (PoolOk a b c ∧ ∀ a' b' c' d, PoolOk a' b' c' → 0 ≤ d → d ≤ 10 ^ 9 → Q.k (dI d) [pool a' b' c']) := by
  refine propext ⟨fun h => ?_, fun h => ⟨a, b, c, rfl, h⟩⟩
  obtain ⟨a', b', c', e, h⟩ := h
  simp only [and_assoc, List.cons.injEq, and_true, true_and, D.w.injEq, D.lst.injEq, D.tup.injEq, D.fz.injEq, D.dK.injEq, D.dT.injEq, W.int.injEq, W.bl.injEq, W.tup.injEq, W.str.injEq, wWeb_inj, dl_inj3, dl_injI, map_inj3, map_injI, w3_inj, dl_injO, dl_injS, wO_inj, wS_inj, w2_inj, dl_inj2, wG_inj, dl_injG] at e
  obtain ⟨rfl, rfl, rfl⟩ := e
  exact h
theorem v_restD : Ver T_restD d_restD sp_restD := by
  intro ds Q1 X1 h
  obtain ⟨a, b, c, rfl, hp, k⟩ := h
  try simp only [d_restD, wpA1, wpA2, wpA3, wpA4, wpA5, wpA6, wpA7, implies_true, forall_const, ↓bc_t, ↓bc_f, rds, rd, tks, tks1, tk, brwArg, allW, mkTup, heldB, Op.pm, Op.wm, Op.watch, putIn, live, ownL, cArgs, apartArgs, outDs, putOuts, noBrw, takeSlot, shallow, isW, lateIn, Es.vars, Tg.set, setAll, wipeR, startE, initE, outsOf, if_true, if_false, reduceIte, Nat.reduceEqDiff, Nat.reduceLT, Nat.reduceLeDiff, Nat.reduceAdd, Nat.reduceSub, ne_eq, reduceCtorEq, wKeys, wKey, Int.reduceToNat, Nat.reduceBEq, tf_restD_nextB, fs_nextB, fp_nextB, mk_nextB]
  refine ⟨⟨by decide, by decide, by decide⟩, hp, by decide, by decide, fun a b c d hp d0 d1 => ⟨hp, by decide, by decide, fun a b c e hp e0 e1 => ⟨hp, by decide, by decide, fun a b c f hp f0 f1 => ?_⟩⟩⟩
  refine ob_at f0 f1 fun y hy => ?_
  simp only [List.mem_cons, List.not_mem_nil, or_false] at hy
  rcases hy with rfl | rfl | rfl | rfl | rfl | rfl <;> try simp only [wpA1, wpA2, wpA3, wpA4, wpA5, wpA6, wpA7, implies_true, forall_const, ↓bc_t, ↓bc_f, rds, rd, tks, tks1, tk, brwArg, allW, mkTup, heldB, Op.pm, Op.wm, Op.watch, putIn, live, ownL, cArgs, apartArgs, outDs, putOuts, noBrw, takeSlot, shallow, isW, lateIn, Es.vars, Tg.set, setAll, wipeR, startE, initE, outsOf, if_true, if_false, reduceIte, Nat.reduceEqDiff, Nat.reduceLT, Nat.reduceLeDiff, Nat.reduceAdd, Nat.reduceSub, ne_eq, reduceCtorEq, wKeys, wKey, Int.reduceToNat, Nat.reduceBEq] <;> exact k _ _ _ _ hp (by omega) (by omega)
def d_tillD : Def := ⟨["pool", "web"], ["pool", "web", "moments", "way", "meet"], [true, false],
 (.cons (.asg 2 (.op (.bin .add) (.cons (.lc (.one 4) (.seq (.cons (.op .idx (.cons (.var 1) (.cons (.cst (.int 1)) .nil))) .nil)) (.op .idx (.cons (.var 4) (.cons (.cst (.int 0)) .nil))) [("meet", 4)]) (.cons (.op .lst (.cons (.cst (.int 0)) .nil)) .nil))))
 (.cons (.asg 3 (.call "_law_next" (.cons (.var 0) (.cons (.cst (.int 6)) .nil))))
 (.cons (.ifS (.op (.cmp .eq) (.cons (.var 3) (.cons (.cst (.int 0)) .nil)))
 (.cons (.ret (.op (.bin .add) (.cons (.op (.bin .sub) (.cons (.call "_law_wide" (.cons (.var 0) (.cons (.op (.bin .sub) (.cons (.op (.bin .mul) (.cons (.cst (.int 2)) (.cons (.op (.bin .pow) (.cons (.cst (.int 10)) (.cons (.cst (.int 30)) .nil))) .nil))) (.cons (.cst (.int 1)) .nil))) .nil))) (.cons (.op (.bin .pow) (.cons (.cst (.int 10)) (.cons (.cst (.int 30)) .nil))) .nil))) (.cons (.cst (.int 1)) .nil))))
 .nil)
 .nil)
 (.cons (.ifS (.op (.cmp .eq) (.cons (.var 3) (.cons (.cst (.int 1)) .nil)))
 (.cons (.ret (.op (.bin .add) (.cons (.op .max1 (.cons (.var 2) .nil)) (.cons (.call "_law_next" (.cons (.var 0) (.cons (.cst (.int 4)) .nil))) .nil))))
 .nil)
 .nil)
 (.cons (.ret (.op (.bin .sub) (.cons (.op (.bin .add) (.cons (.op .idx (.cons (.var 2) (.cons (.call "_law_next" (.cons (.var 0) (.cons (.op .len (.cons (.var 2) .nil)) .nil))) .nil))) (.cons (.call "_law_next" (.cons (.var 0) (.cons (.cst (.int 5)) .nil))) .nil))) (.cons (.cst (.int 2)) .nil))))
 .nil)))))⟩
def T_tillD : Tab := [F_nextB, F_wideD]
theorem tf_tillD_nextB : T_tillD.find "_law_next" = some F_nextB := rfl
theorem tf_tillD_wideD : T_tillD.find "_law_wide" = some F_wideD := rfl
def sp_tillD : FSpec := fun ds Q X => ∃ (a b c : Int) (g : Web), ds = [pool a b c, dWeb g] ∧ (PoolOk a b c ∧ g.ms.length ≤ 31 ∧ ∀ a' b' c' d, PoolOk a' b' c' → Q (dI d) [pool a' b' c'])
def F_tillD : Fn := ⟨"_law_till", [true, false], 3, sp_tillD⟩
theorem fs_tillD : F_tillD.sig = [true, false] := rfl
theorem fp_tillD : F_tillD.spec = sp_tillD := rfl
theorem mk_tillD (a b c : Int) (g : Web) (Q : Kn (D → List D → Prop)) (X : Kn (Ex → List D → Prop)) : sB sp_tillD [pool a b c, dWeb g] = (PoolOk a b c ∧ g.ms.length ≤ 31 ∧ ∀ a' b' c' d, PoolOk a' b' c' → Q.k (dI d) [pool a' b' c']) := by
  refine propext ⟨fun h => ?_, fun h => ⟨a, b, c, g, rfl, h⟩⟩
  obtain ⟨a', b', c', g', e, h⟩ := h
  simp only [and_assoc, List.cons.injEq, and_true, true_and, D.w.injEq, D.lst.injEq, D.tup.injEq, D.fz.injEq, D.dK.injEq, D.dT.injEq, W.int.injEq, W.bl.injEq, W.tup.injEq, W.str.injEq, wWeb_inj, dl_inj3, dl_injI, map_inj3, map_injI, w3_inj, dl_injO, dl_injS, wO_inj, wS_inj, w2_inj, dl_inj2, wG_inj, dl_injG] at e
  obtain ⟨rfl, rfl, rfl, rfl⟩ := e
  exact h
theorem v_tillD : Ver T_tillD d_tillD sp_tillD := by
  intro ds Q1 X1 h
  obtain ⟨a, b, c, g, rfl, hp, hl, k⟩ := h
  try simp only [d_tillD, wpA1, wpA2, wpA3, wpA4, wpA5, wpA6, wpA7, implies_true, forall_const, ↓bc_t, ↓bc_f, rds, rd, tks, tks1, tk, brwArg, allW, mkTup, heldB, Op.pm, Op.wm, Op.watch, putIn, live, ownL, cArgs, apartArgs, outDs, putOuts, noBrw, takeSlot, shallow, isW, lateIn, Es.vars, Tg.set, setAll, wipeR, startE, initE, outsOf, if_true, if_false, reduceIte, Nat.reduceEqDiff, Nat.reduceLT, Nat.reduceLeDiff, Nat.reduceAdd, Nat.reduceSub, ne_eq, reduceCtorEq, wKeys, wKey, Int.reduceToNat, Nat.reduceBEq, tf_tillD_nextB, tf_tillD_wideD, fs_nextB, fp_nextB, mk_nextB, fs_wideD, fp_wideD, mk_wideD]
  refine lc_dl W.int (fun q => q.1) g.ms (stays_nil _) (sz (by omega)) (fun x hx k hk => ?_) ?_
  · try simp only [turnL, wpA1, wpA2, wpA3, wpA4, wpA5, wpA6, wpA7, implies_true, forall_const, ↓bc_t, ↓bc_f, rds, rd, tks, tks1, tk, brwArg, allW, mkTup, heldB, Op.pm, Op.wm, Op.watch, putIn, live, ownL, cArgs, apartArgs, outDs, putOuts, noBrw, takeSlot, shallow, isW, lateIn, Es.vars, Tg.set, setAll, wipeR, startE, initE, outsOf, if_true, if_false, reduceIte, Nat.reduceEqDiff, Nat.reduceLT, Nat.reduceLeDiff, Nat.reduceAdd, Nat.reduceSub, ne_eq, reduceCtorEq, wKeys, wKey, Int.reduceToNat, Nat.reduceBEq]
    exact hk
  have lp : 0 < (g.ms.map (fun q : M3 => q.1) ++ [0]).length := by rw [List.length_append]; exact Nat.succ_pos _
  have lp2 : (g.ms.map (fun q : M3 => q.1) ++ [0]).length ≤ 32 := by rw [List.length_append, List.length_map, List.length_singleton]; omega
  try simp only [wpA1, wpA2, wpA3, wpA4, wpA5, wpA6, wpA7, implies_true, forall_const, ↓bc_t, ↓bc_f, rds, rd, tks, tks1, tk, brwArg, allW, mkTup, heldB, Op.pm, Op.wm, Op.watch, putIn, live, ownL, cArgs, apartArgs, outDs, putOuts, noBrw, takeSlot, shallow, isW, lateIn, Es.vars, Tg.set, setAll, wipeR, startE, initE, outsOf, if_true, if_false, reduceIte, Nat.reduceEqDiff, Nat.reduceLT, Nat.reduceLeDiff, Nat.reduceAdd, Nat.reduceSub, ne_eq, reduceCtorEq, wKeys, wKey, Int.reduceToNat, Nat.reduceBEq, eqA1, eqA2, tf_tillD_nextB, tf_tillD_wideD, fs_nextB, fp_nextB, mk_nextB, fs_wideD, fp_wideD, mk_wideD]
  refine ⟨sz (by omega), hp, by decide, by decide, fun a b c way hp _ _ => bc_dec (fun _ => ?_) fun _ => bc_dec (fun _ => ?_) fun _ => ?_⟩
  · exact ⟨⟨by decide, by decide, by decide⟩, cmul_l (by decide) (by decide), hp, by decide, by decide, fun a b c d hp _ _ => ⟨⟨by decide, by decide, by decide⟩, k _ _ _ _ hp⟩⟩
  · exact ⟨lp, fun m _ _ => ⟨hp, by decide, by decide, fun a b c d hp _ _ => k _ _ _ _ hp⟩⟩
  · refine ⟨hp, by omega, by omega, fun a b c d hp d0 d1 => ob_dl d0 d1 fun near _ => ?_⟩
    try simp only [wpA1, wpA2, wpA3, wpA4, wpA5, wpA6, wpA7, implies_true, forall_const, ↓bc_t, ↓bc_f, rds, rd, tks, tks1, tk, brwArg, allW, mkTup, heldB, Op.pm, Op.wm, Op.watch, putIn, live, ownL, cArgs, apartArgs, outDs, putOuts, noBrw, takeSlot, shallow, isW, lateIn, Es.vars, Tg.set, setAll, wipeR, startE, initE, outsOf, if_true, if_false, reduceIte, Nat.reduceEqDiff, Nat.reduceLT, Nat.reduceLeDiff, Nat.reduceAdd, Nat.reduceSub, ne_eq, reduceCtorEq, wKeys, wKey, Int.reduceToNat, Nat.reduceBEq, eqA1, eqA2, tf_tillD_nextB, tf_tillD_wideD, fs_nextB, fp_nextB, mk_nextB, fs_wideD, fp_wideD, mk_wideD]
    exact ⟨hp, by decide, by decide, fun a b c d hp _ _ => k _ _ _ _ hp⟩
def d_foldedD : Def := ⟨["script", "most"], ["script", "most", "cells", "k"], [false, false],
 (.cons (.asg 2 (.op (.bin .mul) (.cons (.op .lst (.cons (.cst (.int 0)) .nil)) (.cons (.var 1) .nil))))
 (.cons (.forS (.one 3) (.rng (.cons (.op .len (.cons (.var 0) .nil)) .nil))
 (.cons (.setI 2 (.op (.bin .mod) (.cons (.var 3) (.cons (.var 1) .nil))) (.op (.bin .add) (.cons (.op (.bin .mul) (.cons (.op (.bin .mod) (.cons (.op .idx (.cons (.var 2) (.cons (.op (.bin .mod) (.cons (.var 3) (.cons (.var 1) .nil))) .nil))) (.cons (.op (.bin .pow) (.cons (.cst (.int 10)) (.cons (.cst (.int 64)) .nil))) .nil))) (.cons (.cst (.int 1000003)) .nil))) (.cons (.op .idx (.cons (.var 0) (.cons (.var 3) .nil))) .nil))))
 .nil))
 (.cons (.ret (.op (.slice false true) (.cons (.var 2) (.cons (.op .min2 (.cons (.op .len (.cons (.var 0) .nil)) (.cons (.var 1) .nil))) .nil))))
 .nil)))⟩
def T_foldedD : Tab := []
def sp_foldedD : FSpec := fun ds Q X => ∃ (l : List Int) (most : Int), ds = [.fz (l.map .int), dI most] ∧ (l.length ≤ 63 ∧ 0 < most ∧ most ≤ 63 ∧ ∀ c : List Int, c.length ≤ most → Q (.lst (dl W.int c)) [])
def F_foldedD : Fn := ⟨"_law_folded", [false, false], 1, sp_foldedD⟩
theorem fs_foldedD : F_foldedD.sig = [false, false] := rfl
theorem fp_foldedD : F_foldedD.spec = sp_foldedD := rfl
theorem mk_foldedD (l : List Int) (most : Int) (Q : Kn (D → List D → Prop)) (X : Kn (Ex → List D → Prop)) : sB sp_foldedD [.fz (l.map .int), dI most] = (l.length ≤ 63 ∧ 0 < most ∧ most ≤ 63 ∧ ∀ c : List Int, c.length ≤ most → Q.k (.lst (dl W.int c)) []) := by
  refine propext ⟨fun h => ?_, fun h => ⟨l, most, rfl, h⟩⟩
  obtain ⟨l', most', e, h⟩ := h
  simp only [and_assoc, List.cons.injEq, and_true, true_and, D.w.injEq, D.lst.injEq, D.tup.injEq, D.fz.injEq, D.dK.injEq, D.dT.injEq, W.int.injEq, W.bl.injEq, W.tup.injEq, W.str.injEq, wWeb_inj, dl_inj3, dl_injI, map_inj3, map_injI, w3_inj, dl_injO, dl_injS, wO_inj, wS_inj, w2_inj, dl_inj2, wG_inj, dl_injG] at e
  obtain ⟨rfl, rfl⟩ := e
  exact h
theorem v_foldedD : Ver T_foldedD d_foldedD sp_foldedD := by
  intro ds Q1 X1 h
  obtain ⟨l, most, rfl, h0, h1, h2, k⟩ := h
  try simp only [d_foldedD, wpA1, wpA2, wpA3, wpA4, wpA5, wpA6, wpA7, implies_true, forall_const, ↓bc_t, ↓bc_f, rds, rd, tks, tks1, tk, brwArg, allW, mkTup, heldB, Op.pm, Op.wm, Op.watch, putIn, live, ownL, cArgs, apartArgs, outDs, putOuts, noBrw, takeSlot, shallow, isW, lateIn, Es.vars, Tg.set, setAll, wipeR, startE, initE, outsOf, if_true, if_false, reduceIte, Nat.reduceEqDiff, Nat.reduceLT, Nat.reduceLeDiff, Nat.reduceAdd, Nat.reduceSub, ne_eq, reduceCtorEq, wKeys, wKey, Int.reduceToNat, Nat.reduceBEq, eqA1, eqA2]
  refine ⟨by omega, by omega, sz (by omega), s62 (by omega) (by omega), for_range (fun i ρ => ∃ c x3, ρ = [some ⟨.par, .fz (l.map .int)⟩, some (sw (.int most)), some ⟨.own, .lst (dl W.int c)⟩, x3] ∧ c.length = most.toNat) ⟨_, _, rfl, List.length_replicate⟩ (fun i ρ k hi h0 hk => ⟨stays_nil _, ?_⟩) fun ρ h0 => ⟨stays_nil _, ?_⟩⟩
  · obtain ⟨c, x3, rfl, hc⟩ := h0
    have g0 : 0 ≤ (0 + (i : Int)) % most := Int.emod_nonneg _ (by omega)
    have g1 : (0 + (i : Int)) % most < most := Int.emod_lt_of_pos _ (by omega)
    try simp only [turnF, wpA1, wpA2, wpA3, wpA4, wpA5, wpA6, wpA7, implies_true, forall_const, ↓bc_t, ↓bc_f, rds, rd, tks, tks1, tk, brwArg, allW, mkTup, heldB, Op.pm, Op.wm, Op.watch, putIn, live, ownL, cArgs, apartArgs, outDs, putOuts, noBrw, takeSlot, shallow, isW, lateIn, Es.vars, Tg.set, setAll, wipeR, startE, initE, outsOf, if_true, if_false, reduceIte, Nat.reduceEqDiff, Nat.reduceLT, Nat.reduceLeDiff, Nat.reduceAdd, Nat.reduceSub, ne_eq, reduceCtorEq, wKeys, wKey, Int.reduceToNat, Nat.reduceBEq]
    refine ⟨h1, ob_dl g0 (by omega) fun x _ => ?_⟩
    try simp only [wpA1, wpA2, wpA3, wpA4, wpA5, wpA6, wpA7, implies_true, forall_const, ↓bc_t, ↓bc_f, rds, rd, tks, tks1, tk, brwArg, allW, mkTup, heldB, Op.pm, Op.wm, Op.watch, putIn, live, ownL, cArgs, apartArgs, outDs, putOuts, noBrw, takeSlot, shallow, isW, lateIn, Es.vars, Tg.set, setAll, wipeR, startE, initE, outsOf, if_true, if_false, reduceIte, Nat.reduceEqDiff, Nat.reduceLT, Nat.reduceLeDiff, Nat.reduceAdd, Nat.reduceSub, ne_eq, reduceCtorEq, wKeys, wKey, Int.reduceToNat, Nat.reduceBEq]
    refine ⟨⟨by decide, by decide, by decide⟩, by decide, cmul_r (by decide) (by decide), ob_dl (by omega) (by omega) fun y _ => ?_⟩
    try simp only [wpA1, wpA2, wpA3, wpA4, wpA5, wpA6, wpA7, implies_true, forall_const, ↓bc_t, ↓bc_f, rds, rd, tks, tks1, tk, brwArg, allW, mkTup, heldB, Op.pm, Op.wm, Op.watch, putIn, live, ownL, cArgs, apartArgs, outDs, putOuts, noBrw, takeSlot, shallow, isW, lateIn, Es.vars, Tg.set, setAll, wipeR, startE, initE, outsOf, if_true, if_false, reduceIte, Nat.reduceEqDiff, Nat.reduceLT, Nat.reduceLeDiff, Nat.reduceAdd, Nat.reduceSub, ne_eq, reduceCtorEq, wKeys, wKey, Int.reduceToNat, Nat.reduceBEq]
    refine ⟨h1, ob_of (ix_at g0 (by omega)) ?_⟩
    try simp only [wpA1, wpA2, wpA3, wpA4, wpA5, wpA6, wpA7, implies_true, forall_const, ↓bc_t, ↓bc_f, rds, rd, tks, tks1, tk, brwArg, allW, mkTup, heldB, Op.pm, Op.wm, Op.watch, putIn, live, ownL, cArgs, apartArgs, outDs, putOuts, noBrw, takeSlot, shallow, isW, lateIn, Es.vars, Tg.set, setAll, wipeR, startE, initE, outsOf, if_true, if_false, reduceIte, Nat.reduceEqDiff, Nat.reduceLT, Nat.reduceLeDiff, Nat.reduceAdd, Nat.reduceSub, ne_eq, reduceCtorEq, wKeys, wKey, Int.reduceToNat, Nat.reduceBEq]
    exact hk _ ⟨_, _, rfl, by rw [List.length_set]; exact hc⟩
  · obtain ⟨c, x3, rfl, hc⟩ := h0
    try simp only [wpA1, wpA2, wpA3, wpA4, wpA5, wpA6, wpA7, implies_true, forall_const, ↓bc_t, ↓bc_f, rds, rd, tks, tks1, tk, brwArg, allW, mkTup, heldB, Op.pm, Op.wm, Op.watch, putIn, live, ownL, cArgs, apartArgs, outDs, putOuts, noBrw, takeSlot, shallow, isW, lateIn, Es.vars, Tg.set, setAll, wipeR, startE, initE, outsOf, if_true, if_false, reduceIte, Nat.reduceEqDiff, Nat.reduceLT, Nat.reduceLeDiff, Nat.reduceAdd, Nat.reduceSub, ne_eq, reduceCtorEq, wKeys, wKey, Int.reduceToNat, Nat.reduceBEq]
    refine k _ ?_
    unfold cutL
    rw [List.length_take, List.length_drop]
    omega
def d_stepsD : Def := ⟨["web"], ["web", "t", "a", "b"], [false],
 (.cons (.ret (.op (.bin .add) (.cons (.lc (.tup [1, 2, 3]) (.seq (.cons (.op .idx (.cons (.var 0) (.cons (.cst (.int 1)) .nil))) .nil)) (.op .tup (.cons (.var 1) (.cons (.var 2) (.cons (.var 3) .nil)))) [("t", 1), ("a", 2), ("b", 3)]) (.cons (.lc (.tup [1, 2, 3]) (.seq (.cons (.op .idx (.cons (.var 0) (.cons (.cst (.int 1)) .nil))) .nil)) (.op .tup (.cons (.var 1) (.cons (.var 3) (.cons (.var 2) .nil)))) [("t", 1), ("a", 2), ("b", 3)]) .nil))))
 .nil)⟩
def T_stepsD : Tab := []
def sp_stepsD : FSpec := fun ds Q X => ∃ (g : Web), ds = [dWeb g] ∧ (g.ms.length ≤ 100 ∧ Q (.lst (dl w3 (twoWays g))) [])
def F_stepsD : Fn := ⟨"_law_steps", [false], 1, sp_stepsD⟩
theorem fs_stepsD : F_stepsD.sig = [false] := rfl
theorem fp_stepsD : F_stepsD.spec = sp_stepsD := rfl
theorem mk_stepsD (g : Web) (Q : Kn (D → List D → Prop)) (X : Kn (Ex → List D → Prop)) : sB sp_stepsD [dWeb g] = (g.ms.length ≤ 100 ∧ Q.k (.lst (dl w3 (twoWays g))) []) := by
  refine propext ⟨fun h => ?_, fun h => ⟨g, rfl, h⟩⟩
  obtain ⟨g', e, h⟩ := h
  simp only [and_assoc, List.cons.injEq, and_true, true_and, D.w.injEq, D.lst.injEq, D.tup.injEq, D.fz.injEq, D.dK.injEq, D.dT.injEq, W.int.injEq, W.bl.injEq, W.tup.injEq, W.str.injEq, wWeb_inj, dl_inj3, dl_injI, map_inj3, map_injI, w3_inj, dl_injO, dl_injS, wO_inj, wS_inj, w2_inj, dl_inj2, wG_inj, dl_injG] at e
  obtain rfl := e
  exact h
theorem v_stepsD : Ver T_stepsD d_stepsD sp_stepsD := by
  intro ds Q1 X1 h
  obtain ⟨g, rfl, hl, k⟩ := h
  try simp only [d_stepsD, wpA1, wpA2, wpA3, wpA4, wpA5, wpA6, wpA7, implies_true, forall_const, ↓bc_t, ↓bc_f, rds, rd, tks, tks1, tk, brwArg, allW, mkTup, heldB, Op.pm, Op.wm, Op.watch, putIn, live, ownL, cArgs, apartArgs, outDs, putOuts, noBrw, takeSlot, shallow, isW, lateIn, Es.vars, Tg.set, setAll, wipeR, startE, initE, outsOf, if_true, if_false, reduceIte, Nat.reduceEqDiff, Nat.reduceLT, Nat.reduceLeDiff, Nat.reduceAdd, Nat.reduceSub, ne_eq, reduceCtorEq, wKeys, wKey, Int.reduceToNat, Nat.reduceBEq, eqA1, eqA2]
  refine lc_dl w3 id g.ms (stays_nil _) (sz (by omega)) (fun x hx k hk => ?_) ?_
  · try simp only [turnL, wpA1, wpA2, wpA3, wpA4, wpA5, wpA6, wpA7, implies_true, forall_const, ↓bc_t, ↓bc_f, rds, rd, tks, tks1, tk, brwArg, allW, mkTup, heldB, Op.pm, Op.wm, Op.watch, putIn, live, ownL, cArgs, apartArgs, outDs, putOuts, noBrw, takeSlot, shallow, isW, lateIn, Es.vars, Tg.set, setAll, wipeR, startE, initE, outsOf, if_true, if_false, reduceIte, Nat.reduceEqDiff, Nat.reduceLT, Nat.reduceLeDiff, Nat.reduceAdd, Nat.reduceSub, ne_eq, reduceCtorEq, wKeys, wKey, Int.reduceToNat, Nat.reduceBEq]
    exact hk
  try simp only [wpA1, wpA2, wpA3, wpA4, wpA5, wpA6, wpA7, implies_true, forall_const, ↓bc_t, ↓bc_f, rds, rd, tks, tks1, tk, brwArg, allW, mkTup, heldB, Op.pm, Op.wm, Op.watch, putIn, live, ownL, cArgs, apartArgs, outDs, putOuts, noBrw, takeSlot, shallow, isW, lateIn, Es.vars, Tg.set, setAll, wipeR, startE, initE, outsOf, if_true, if_false, reduceIte, Nat.reduceEqDiff, Nat.reduceLT, Nat.reduceLeDiff, Nat.reduceAdd, Nat.reduceSub, ne_eq, reduceCtorEq, wKeys, wKey, Int.reduceToNat, Nat.reduceBEq, eqA1, eqA2]
  refine lc_dl w3 (fun m : M3 => (m.1, m.2.2, m.2.1)) g.ms (stays_nil _) (sz (by omega)) (fun x hx k hk => ?_) ?_
  · try simp only [turnL, wpA1, wpA2, wpA3, wpA4, wpA5, wpA6, wpA7, implies_true, forall_const, ↓bc_t, ↓bc_f, rds, rd, tks, tks1, tk, brwArg, allW, mkTup, heldB, Op.pm, Op.wm, Op.watch, putIn, live, ownL, cArgs, apartArgs, outDs, putOuts, noBrw, takeSlot, shallow, isW, lateIn, Es.vars, Tg.set, setAll, wipeR, startE, initE, outsOf, if_true, if_false, reduceIte, Nat.reduceEqDiff, Nat.reduceLT, Nat.reduceLeDiff, Nat.reduceAdd, Nat.reduceSub, ne_eq, reduceCtorEq, wKeys, wKey, Int.reduceToNat, Nat.reduceBEq]
    exact hk
  try simp only [wpA1, wpA2, wpA3, wpA4, wpA5, wpA6, wpA7, implies_true, forall_const, ↓bc_t, ↓bc_f, rds, rd, tks, tks1, tk, brwArg, allW, mkTup, heldB, Op.pm, Op.wm, Op.watch, putIn, live, ownL, cArgs, apartArgs, outDs, putOuts, noBrw, takeSlot, shallow, isW, lateIn, Es.vars, Tg.set, setAll, wipeR, startE, initE, outsOf, if_true, if_false, reduceIte, Nat.reduceEqDiff, Nat.reduceLT, Nat.reduceLeDiff, Nat.reduceAdd, Nat.reduceSub, ne_eq, reduceCtorEq, wKeys, wKey, Int.reduceToNat, Nat.reduceBEq, eqA1, eqA2, List.map_id]
  exact ⟨sz (by omega), k⟩
end Wm
namespace Wm
open PySem PySem.Spec PyProof.Rows L2
theorem at_ckN {c : List (Option Int)} {p : Int} (h0 : 0 ≤ p) (h1 : p < c.length) : atI (dl wO (c.map negO)) p = some (.w (wO (negO (ck c p)))) := by
  rw [at_ck h0 (by rw [List.length_map]; exact h1), ck_neg1]
theorem negO_s (t : Int) : negO (some t) = some (0 - t) := rfl
theorem negO_n : negO none = none := rfl
theorem clk0_neg {n goal last : Int} : (List.replicate n.toNat none).set goal.toNat (some last) = (clk0 n goal (0 - last)).map negO := by
  unfold clk0
  rw [List.map_set, List.map_replicate]
  show _ = (List.replicate n.toNat none).set goal.toNat (some (0 - (0 - last)))
  rw [show 0 - (0 - last) = last by omega]
theorem iter_B {S : M3 → Prop} {rest start first n : Int} (h0 : 0 ≤ start) (h1 : start < n) (hS : ∀ m, S m → InN n m) {L : List M3} (hL : ∀ m ∈ L, S m) : ∀ i, ClkB S rest start first n (iterC rest start first L (clk0 n start first) i)
  | 0 => clk0_B h0 h1
  | i + 1 => (pass_ok h0 hS L hL (iter_B h0 h1 hS hL i)).1
def r_latestD_1 : Ss := (.cons (.ifS (.and (.op (.cmp .ne) (.cons (.var 7) (.cons (.var 2) .nil))) (.and (.var 9) (.or (.op (.cmp .isN) (.cons (.op .idx (.cons (.var 4) (.cons (.var 7) .nil))) (.cons (.cst .non) .nil))) (.op (.cmp .lt) (.cons (.op .idx (.cons (.var 4) (.cons (.var 7) .nil))) (.cons (.var 6) .nil))))))
 (.cons (.setI 4 (.var 7) (.var 6))
 .nil)
 .nil)
 .nil)
def r_latestD_2 : Ss := (.cons (.ifS (.and (.op (.cmp .ne) (.cons (.var 8) (.cons (.var 2) .nil))) (.op (.cmp .notN) (.cons (.op .idx (.cons (.var 4) (.cons (.var 8) .nil))) (.cons (.cst .non) .nil))))
 (.cons (.asg 9 (.op (.cmp .le) (.cons (.op (.bin .add) (.cons (.var 6) (.cons (.var 1) .nil))) (.cons (.op .idx (.cons (.var 4) (.cons (.var 8) .nil))) .nil))))
 .nil)
 .nil)
 r_latestD_1)
def d_latestD : Def := ⟨["web", "rest", "goal", "last"], ["web", "rest", "goal", "last", "found", "turn", "t", "u", "v", "free"], [false, false, false, false],
 (.cons (.asg 4 (.op (.bin .mul) (.cons (.op .lst (.cons (.cst .non) .nil)) (.cons (.op .idx (.cons (.var 0) (.cons (.cst (.int 0)) .nil))) .nil))))
 (.cons (.setI 4 (.var 2) (.var 3))
 (.cons (.forS (.one 5) (.rng (.cons (.op .idx (.cons (.var 0) (.cons (.cst (.int 0)) .nil))) .nil))
 (.cons (.forS (.tup [6, 7, 8]) (.seq (.cons (.call "_law_steps" (.cons (.var 0) .nil)) .nil))
 (.cons (.asg 9 (.and (.op (.cmp .eq) (.cons (.var 8) (.cons (.var 2) .nil))) (.op (.cmp .le) (.cons (.var 6) (.cons (.var 3) .nil)))))
 r_latestD_2))
 .nil))
 (.cons (.ret (.var 4))
 .nil))))⟩
def T_latestD : Tab := [F_stepsD]
theorem tf_latestD_stepsD : T_latestD.find "_law_steps" = some F_stepsD := rfl
def sp_latestD : FSpec := fun ds Q X => ∃ (g : Web) (rest goal last : Int), ds = [dWeb g, dI rest, dI goal, dI last] ∧ (WebA g ∧ 0 ≤ rest ∧ 0 ≤ goal ∧ goal < g.n ∧ ∀ c, ClkOk (St3 (turnedWeb g)) rest goal (0 - last) g.n c → Q (.lst (dl wO (c.map negO))) [])
def F_latestD : Fn := ⟨"_law_latest", [false, false, false, false], 2, sp_latestD⟩
theorem fs_latestD : F_latestD.sig = [false, false, false, false] := rfl
theorem fp_latestD : F_latestD.spec = sp_latestD := rfl
theorem mk_latestD (g : Web) (rest goal last : Int) (Q : Kn (D → List D → Prop)) (X : Kn (Ex → List D → Prop)) : sB sp_latestD [dWeb g, dI rest, dI goal, dI last] = (WebA g ∧ 0 ≤ rest ∧ 0 ≤ goal ∧ goal < g.n ∧ ∀ c, ClkOk (St3 (turnedWeb g)) rest goal (0 - last) g.n c → Q.k (.lst (dl wO (c.map negO))) []) := by
  refine propext ⟨fun h => ?_, fun h => ⟨g, rest, goal, last, rfl, h⟩⟩
  obtain ⟨g', rest', goal', last', e, h⟩ := h
  simp only [and_assoc, List.cons.injEq, and_true, true_and, D.w.injEq, D.lst.injEq, D.tup.injEq, D.fz.injEq, D.dK.injEq, D.dT.injEq, W.int.injEq, W.bl.injEq, W.tup.injEq, W.str.injEq, wWeb_inj, dl_inj3, dl_injI, map_inj3, map_injI, w3_inj, dl_injO, dl_injS, wO_inj, wS_inj, w2_inj, dl_inj2, wG_inj, dl_injG] at e
  obtain ⟨rfl, rfl, rfl, rfl⟩ := e
  exact h
theorem v_latestD : Ver T_latestD d_latestD sp_latestD := by
  intro ds Q1 X1 h
  obtain ⟨g, rest, goal, last, rfl, hg, hr, s0, s1, k⟩ := h
  have n0 := hg.n0
  have n9 := hg.n9
  have gl := hg.len
  try simp only [d_latestD, wpA1, wpA2, wpA3, wpA4, wpA5, wpA6, wpA7, implies_true, forall_const, ↓bc_t, ↓bc_f, rds, rd, tks, tks1, tk, brwArg, allW, mkTup, heldB, Op.pm, Op.wm, Op.watch, putIn, live, ownL, cArgs, apartArgs, outDs, putOuts, noBrw, takeSlot, shallow, isW, lateIn, Es.vars, Tg.set, setAll, wipeR, startE, initE, outsOf, if_true, if_false, reduceIte, Nat.reduceEqDiff, Nat.reduceLT, Nat.reduceLeDiff, Nat.reduceAdd, Nat.reduceSub, ne_eq, reduceCtorEq, wKeys, wKey, Int.reduceToNat, Nat.reduceBEq, eqA1, eqA2, tf_latestD_stepsD, fs_stepsD, fp_stepsD, mk_stepsD, repO, ix_at (n := g.n.toNat) s0 (show goal < (g.n.toNat : Int) by omega)]
  have hSn : ∀ m, St3 (turnedWeb g) m → InN g.n m := fun m hm => step_in (g := turnedWeb g) hg.turned.ok hm
  have hL : ∀ m ∈ (twoWays g).map tn, St3 (turnedWeb g) m := fun m hm => mem_tn.mp hm
  have hB := fun i => iter_B (rest := rest) (first := 0 - last) s0 s1 hSn hL i
  rw [clk0_neg]
  refine ⟨by omega, by omega, sz (by omega), s62 (by omega) (by omega), for_range (fun i ρ => ∃ x5 x6 x7 x8 x9, ρ = [some (sw (wWeb g)), some (sw (.int rest)), some (sw (.int goal)), some (sw (.int last)), some ⟨.own, .lst (dl wO ((iterC rest goal (0 - last) ((twoWays g).map tn) (clk0 g.n goal (0 - last)) i).map negO))⟩, x5, x6, x7, x8, x9]) ⟨_, _, _, _, _, rfl⟩ (fun i ρ k2 hi h2 hk => ⟨stays_nil _, ?_⟩) fun ρ h2 => ⟨stays_nil _, ?_⟩⟩
  · obtain ⟨x5, x6, x7, x8, x9, rfl⟩ := h2
    have hBi := hB i
    generalize hci : iterC rest goal (0 - last) ((twoWays g).map tn) (clk0 g.n goal (0 - last)) i = ci at hBi ⊢
    try simp only [turnF, wpA1, wpA2, wpA3, wpA4, wpA5, wpA6, wpA7, implies_true, forall_const, ↓bc_t, ↓bc_f, rds, rd, tks, tks1, tk, brwArg, allW, mkTup, heldB, Op.pm, Op.wm, Op.watch, putIn, live, ownL, cArgs, apartArgs, outDs, putOuts, noBrw, takeSlot, shallow, isW, lateIn, Es.vars, Tg.set, setAll, wipeR, startE, initE, outsOf, if_true, if_false, reduceIte, Nat.reduceEqDiff, Nat.reduceLT, Nat.reduceLeDiff, Nat.reduceAdd, Nat.reduceSub, ne_eq, reduceCtorEq, wKeys, wKey, Int.reduceToNat, Nat.reduceBEq, tf_latestD_stepsD, fs_stepsD, fp_stepsD, mk_stepsD]
    refine ⟨by omega, for_rule (fun pre ρ => ∃ x6 x7 x8 x9, ρ = [some (sw (wWeb g)), some (sw (.int rest)), some (sw (.int goal)), some (sw (.int last)), some ⟨.own, .lst (dl wO ((passC rest goal (0 - last) (pre.map tn) ci).map negO))⟩, some (sw (.int (0 + (i : Int)))), x6, x7, x8, x9]) ⟨_, _, _, _, rfl⟩ (fun pre x post ρ k3 e h3 hk3 => ⟨stays_nil _, ?_⟩) fun ρ h3 => ⟨stays_nil _, ?_⟩⟩
    · obtain ⟨x6, x7, x8, x9, rfl⟩ := h3
      have hxm : x ∈ twoWays g := by rw [e]; exact List.mem_append_right _ List.mem_cons_self
      have hxt : St3 (turnedWeb g) (tn x) := hL _ (List.mem_map_of_mem hxm)
      have hxN := hSn _ hxt
      have hb := (pass_ok (first := 0 - last) (rest := rest) s0 hSn (pre.map tn) (fun m hm => hL m (by rw [e, List.map_append]; exact List.mem_append_left _ hm)) hBi).1
      have nxt : ∀ y6 y7 y8 y9, k3 [some (sw (wWeb g)), some (sw (.int rest)), some (sw (.int goal)), some (sw (.int last)), some ⟨.own, .lst (dl wO ((stC rest goal (0 - last) (passC rest goal (0 - last) (pre.map tn) ci) (tn x)).map negO))⟩, some (sw (.int (0 + (i : Int)))), y6, y7, y8, y9] := fun y6 y7 y8 y9 => hk3 _ ⟨y6, y7, y8, y9, by rw [List.map_append, ← passC_snoc]; rfl⟩
      clear hk3
      generalize passC rest goal (0 - last) (pre.map tn) ci = c at hb nxt ⊢
      obtain ⟨t, u, v⟩ := x
      have u0 : 0 ≤ u := hxN.2.2.1
      have u1 : u < c.length := by rw [hb.len]; have : u < g.n := hxN.2.2.2.1; omega
      have v0 : 0 ≤ v := hxN.1
      have v1 : v < c.length := by rw [hb.len]; have : v < g.n := hxN.2.1; omega
      try simp only [turnF, wpA1, wpA2, wpA3, wpA4, wpA5, wpA6, wpA7, implies_true, forall_const, ↓bc_t, ↓bc_f, rds, rd, tks, tks1, tk, brwArg, allW, mkTup, heldB, Op.pm, Op.wm, Op.watch, putIn, live, ownL, cArgs, apartArgs, outDs, putOuts, noBrw, takeSlot, shallow, isW, lateIn, Es.vars, Tg.set, setAll, wipeR, startE, initE, outsOf, if_true, if_false, reduceIte, Nat.reduceEqDiff, Nat.reduceLT, Nat.reduceLeDiff, Nat.reduceAdd, Nat.reduceSub, ne_eq, reduceCtorEq, wKeys, wKey, Int.reduceToNat, Nat.reduceBEq, eqA1, eqA2]
      have goG : v = goal → goB c rest goal (0 - last) (0 - t, v, u) = decide (t ≤ last) := fun z => by
        unfold goB
        rw [if_pos z]
        exact decide_eq_decide.mpr (by show 0 - last ≤ 0 - t ↔ _; omega)
      refine bc_dec (fun ev => ?_) fun ev => ?_
      all_goals refine st_cut (fun ρ => ρ = [some (sw (wWeb g)), some (sw (.int rest)), some (sw (.int goal)), some (sw (.int last)), some ⟨.own, .lst (dl wO (c.map negO))⟩, some (sw (.int (0 + (i : Int)))), some (sw (.int t)), some (sw (.int u)), some (sw (.int v)), some (sw (.bl (goB c rest goal (0 - last) (0 - t, v, u))))]) ?_ ?_
      case' refine_1.refine_2 =>
        intro K hK _ _ _
        try simp only [wpA1, wpA2, wpA3, wpA4, wpA5, wpA6, wpA7, implies_true, forall_const, ↓bc_t, ↓bc_f, rds, rd, tks, tks1, tk, brwArg, allW, mkTup, heldB, Op.pm, Op.wm, Op.watch, putIn, live, ownL, cArgs, apartArgs, outDs, putOuts, noBrw, takeSlot, shallow, isW, lateIn, Es.vars, Tg.set, setAll, wipeR, startE, initE, outsOf, if_true, if_false, reduceIte, Nat.reduceEqDiff, Nat.reduceLT, Nat.reduceLeDiff, Nat.reduceAdd, Nat.reduceSub, ne_eq, reduceCtorEq, wKeys, wKey, Int.reduceToNat, Nat.reduceBEq, eqA1, eqA2, ev, decide_true]
        exact hK _ (by rw [goG ev, ev])
      case' refine_2.refine_2 =>
        intro K hK _ _ _
        try simp only [wpA1, wpA2, wpA3, wpA4, wpA5, wpA6, wpA7, implies_true, forall_const, ↓bc_t, ↓bc_f, rds, rd, tks, tks1, tk, brwArg, allW, mkTup, heldB, Op.pm, Op.wm, Op.watch, putIn, live, ownL, cArgs, apartArgs, outDs, putOuts, noBrw, takeSlot, shallow, isW, lateIn, Es.vars, Tg.set, setAll, wipeR, startE, initE, outsOf, if_true, if_false, reduceIte, Nat.reduceEqDiff, Nat.reduceLT, Nat.reduceLeDiff, Nat.reduceAdd, Nat.reduceSub, ne_eq, reduceCtorEq, wKeys, wKey, Int.reduceToNat, Nat.reduceBEq, eqA1, eqA2, ev, decide_false, at_ckN v0 v1]
        have goV : goB c rest goal (0 - last) (0 - t, v, u) = match ck c v with | none => false | some s => decide (s + rest ≤ 0 - t) := if_neg ev
        cases ec : ck c v with
        | none =>
          rw [ec] at goV
          try simp only [wpA1, wpA2, wpA3, wpA4, wpA5, wpA6, wpA7, implies_true, forall_const, ↓bc_t, ↓bc_f, rds, rd, tks, tks1, tk, brwArg, allW, mkTup, heldB, Op.pm, Op.wm, Op.watch, putIn, live, ownL, cArgs, apartArgs, outDs, putOuts, noBrw, takeSlot, shallow, isW, lateIn, Es.vars, Tg.set, setAll, wipeR, startE, initE, outsOf, if_true, if_false, reduceIte, Nat.reduceEqDiff, Nat.reduceLT, Nat.reduceLeDiff, Nat.reduceAdd, Nat.reduceSub, ne_eq, reduceCtorEq, wKeys, wKey, Int.reduceToNat, Nat.reduceBEq, eqA1, eqA2, negO_n]
          exact hK _ (by rw [goV])
        | some s =>
          rw [ec] at goV
          try simp only [wpA1, wpA2, wpA3, wpA4, wpA5, wpA6, wpA7, implies_true, forall_const, ↓bc_t, ↓bc_f, rds, rd, tks, tks1, tk, brwArg, allW, mkTup, heldB, Op.pm, Op.wm, Op.watch, putIn, live, ownL, cArgs, apartArgs, outDs, putOuts, noBrw, takeSlot, shallow, isW, lateIn, Es.vars, Tg.set, setAll, wipeR, startE, initE, outsOf, if_true, if_false, reduceIte, Nat.reduceEqDiff, Nat.reduceLT, Nat.reduceLeDiff, Nat.reduceAdd, Nat.reduceSub, ne_eq, reduceCtorEq, wKeys, wKey, Int.reduceToNat, Nat.reduceBEq, eqA1, eqA2, negO_s]
          exact hK _ (by rw [goV, decide_eq_decide.mpr (show t + rest ≤ 0 - s ↔ s + rest ≤ 0 - t by omega)])
      all_goals
        rintro _ rfl
        have eT : tn (t, u, v) = (0 - t, v, u) := rfl
        have same : (snB c goal (0 - t, v, u) && goB c rest goal (0 - last) (0 - t, v, u)) = false → stC rest goal (0 - last) c (tn (t, u, v)) = c := fun z => stC_same z
        have diff : (snB c goal (0 - t, v, u) && goB c rest goal (0 - last) (0 - t, v, u)) = true → (stC rest goal (0 - last) c (tn (t, u, v))).map negO = (c.map negO).set u.toNat (some t) := fun z => by
          unfold stC
          rw [eT, if_pos z, set_neg]
        have snV : u ≠ goal → snB c goal (0 - t, v, u) = match ck c u with | none => true | some s => decide (0 - t < s) := fun z => if_neg z
        by_cases hu : u = goal
        · have sn0 : snB c goal (0 - t, v, u) = false := if_pos hu
          try simp only [r_latestD_1, wpA1, wpA2, wpA3, wpA4, wpA5, wpA6, wpA7, implies_true, forall_const, ↓bc_t, ↓bc_f, rds, rd, tks, tks1, tk, brwArg, allW, mkTup, heldB, Op.pm, Op.wm, Op.watch, putIn, live, ownL, cArgs, apartArgs, outDs, putOuts, noBrw, takeSlot, shallow, isW, lateIn, Es.vars, Tg.set, setAll, wipeR, startE, initE, outsOf, if_true, if_false, reduceIte, Nat.reduceEqDiff, Nat.reduceLT, Nat.reduceLeDiff, Nat.reduceAdd, Nat.reduceSub, ne_eq, reduceCtorEq, wKeys, wKey, Int.reduceToNat, Nat.reduceBEq, eqA1, eqA2, hu, decide_true]
          rw [same (by rw [sn0]; rfl)] at nxt
          exact nxt _ _ _ _
        · try simp only [r_latestD_1, wpA1, wpA2, wpA3, wpA4, wpA5, wpA6, wpA7, implies_true, forall_const, ↓bc_t, ↓bc_f, rds, rd, tks, tks1, tk, brwArg, allW, mkTup, heldB, Op.pm, Op.wm, Op.watch, putIn, live, ownL, cArgs, apartArgs, outDs, putOuts, noBrw, takeSlot, shallow, isW, lateIn, Es.vars, Tg.set, setAll, wipeR, startE, initE, outsOf, if_true, if_false, reduceIte, Nat.reduceEqDiff, Nat.reduceLT, Nat.reduceLeDiff, Nat.reduceAdd, Nat.reduceSub, ne_eq, reduceCtorEq, wKeys, wKey, Int.reduceToNat, Nat.reduceBEq, eqA1, eqA2, hu, decide_false, at_ckN u0 u1]
          refine bc_of (fun hf => ?_) fun hf => ?_
          · cases ec : ck c u with
            | none =>
              try simp only [wpA1, wpA2, wpA3, wpA4, wpA5, wpA6, wpA7, implies_true, forall_const, ↓bc_t, ↓bc_f, rds, rd, tks, tks1, tk, brwArg, allW, mkTup, heldB, Op.pm, Op.wm, Op.watch, putIn, live, ownL, cArgs, apartArgs, outDs, putOuts, noBrw, takeSlot, shallow, isW, lateIn, Es.vars, Tg.set, setAll, wipeR, startE, initE, outsOf, if_true, if_false, reduceIte, Nat.reduceEqDiff, Nat.reduceLT, Nat.reduceLeDiff, Nat.reduceAdd, Nat.reduceSub, ne_eq, reduceCtorEq, wKeys, wKey, Int.reduceToNat, Nat.reduceBEq, eqA1, eqA2, negO_n]
              refine ob_of (ix_at u0 (by omega)) ?_
              try simp only [wpA1, wpA2, wpA3, wpA4, wpA5, wpA6, wpA7, implies_true, forall_const, ↓bc_t, ↓bc_f, rds, rd, tks, tks1, tk, brwArg, allW, mkTup, heldB, Op.pm, Op.wm, Op.watch, putIn, live, ownL, cArgs, apartArgs, outDs, putOuts, noBrw, takeSlot, shallow, isW, lateIn, Es.vars, Tg.set, setAll, wipeR, startE, initE, outsOf, if_true, if_false, reduceIte, Nat.reduceEqDiff, Nat.reduceLT, Nat.reduceLeDiff, Nat.reduceAdd, Nat.reduceSub, ne_eq, reduceCtorEq, wKeys, wKey, Int.reduceToNat, Nat.reduceBEq, eqA1, eqA2]
              rw [diff (by rw [snV hu, ec, hf]; rfl)] at nxt
              exact nxt _ _ _ _
            | some s =>
              try simp only [wpA1, wpA2, wpA3, wpA4, wpA5, wpA6, wpA7, implies_true, forall_const, ↓bc_t, ↓bc_f, rds, rd, tks, tks1, tk, brwArg, allW, mkTup, heldB, Op.pm, Op.wm, Op.watch, putIn, live, ownL, cArgs, apartArgs, outDs, putOuts, noBrw, takeSlot, shallow, isW, lateIn, Es.vars, Tg.set, setAll, wipeR, startE, initE, outsOf, if_true, if_false, reduceIte, Nat.reduceEqDiff, Nat.reduceLT, Nat.reduceLeDiff, Nat.reduceAdd, Nat.reduceSub, ne_eq, reduceCtorEq, wKeys, wKey, Int.reduceToNat, Nat.reduceBEq, eqA1, eqA2, negO_s]
              refine bc_dec (fun z => ?_) fun z => ?_
              · refine ob_of (ix_at u0 (by omega)) ?_
                try simp only [wpA1, wpA2, wpA3, wpA4, wpA5, wpA6, wpA7, implies_true, forall_const, ↓bc_t, ↓bc_f, rds, rd, tks, tks1, tk, brwArg, allW, mkTup, heldB, Op.pm, Op.wm, Op.watch, putIn, live, ownL, cArgs, apartArgs, outDs, putOuts, noBrw, takeSlot, shallow, isW, lateIn, Es.vars, Tg.set, setAll, wipeR, startE, initE, outsOf, if_true, if_false, reduceIte, Nat.reduceEqDiff, Nat.reduceLT, Nat.reduceLeDiff, Nat.reduceAdd, Nat.reduceSub, ne_eq, reduceCtorEq, wKeys, wKey, Int.reduceToNat, Nat.reduceBEq, eqA1, eqA2]
                rw [diff (by rw [snV hu, ec, hf, Bool.and_true]; exact decide_eq_true (by omega))] at nxt
                exact nxt _ _ _ _
              · rw [same (by rw [snV hu, ec, hf, Bool.and_true]; exact decide_eq_false (by omega))] at nxt
                exact nxt _ _ _ _
          · rw [same (by rw [hf, Bool.and_false])] at nxt
            exact nxt _ _ _ _
    · obtain ⟨x6, x7, x8, x9, rfl⟩ := h3
      try simp only [wpA1, wpA2, wpA3, wpA4, wpA5, wpA6, wpA7, implies_true, forall_const, ↓bc_t, ↓bc_f, rds, rd, tks, tks1, tk, brwArg, allW, mkTup, heldB, Op.pm, Op.wm, Op.watch, putIn, live, ownL, cArgs, apartArgs, outDs, putOuts, noBrw, takeSlot, shallow, isW, lateIn, Es.vars, Tg.set, setAll, wipeR, startE, initE, outsOf, if_true, if_false, reduceIte, Nat.reduceEqDiff, Nat.reduceLT, Nat.reduceLeDiff, Nat.reduceAdd, Nat.reduceSub, ne_eq, reduceCtorEq, wKeys, wKey, Int.reduceToNat, Nat.reduceBEq]
      exact hk _ ⟨_, _, _, _, _, by rw [← hci]; rfl⟩
  · obtain ⟨x5, x6, x7, x8, x9, rfl⟩ := h2
    try simp only [wpA1, wpA2, wpA3, wpA4, wpA5, wpA6, wpA7, implies_true, forall_const, ↓bc_t, ↓bc_f, rds, rd, tks, tks1, tk, brwArg, allW, mkTup, heldB, Op.pm, Op.wm, Op.watch, putIn, live, ownL, cArgs, apartArgs, outDs, putOuts, noBrw, takeSlot, shallow, isW, lateIn, Es.vars, Tg.set, setAll, wipeR, startE, initE, outsOf, if_true, if_false, reduceIte, Nat.reduceEqDiff, Nat.reduceLT, Nat.reduceLeDiff, Nat.reduceAdd, Nat.reduceSub, ne_eq, reduceCtorEq, wKeys, wKey, Int.reduceToNat, Nat.reduceBEq]
    exact k _ (iter_ok hr s0 s1 hSn fun m => mem_tn.symm)
def d_wholesD : Def := ⟨["told"], ["told", "one"], [false],
 (.cons (.ifS (.not (.op (.isi ["list"]) (.cons (.var 0) .nil)))
 (.cons (.ret (.cst (.bl false)))
 .nil)
 .nil)
 (.cons (.ret (.op .all (.cons (.lc (.one 1) (.seq (.cons (.var 0) .nil)) (.or (.op (.cmp .isN) (.cons (.var 1) (.cons (.cst .non) .nil))) (.and (.op (.isi ["int"]) (.cons (.var 1) .nil)) (.not (.op (.isi ["bool"]) (.cons (.var 1) .nil))))) [("one", 1)]) .nil)))
 .nil))⟩
def T_wholesD : Tab := []
def sp_wholesD : FSpec := fun ds Q X => ∃ (c : List (Option Int)), ds = [.lst (dl wO c)] ∧ (c.length ≤ 1000 ∧ Q (dB true) [])
def F_wholesD : Fn := ⟨"_law_wholes", [false], 1, sp_wholesD⟩
theorem fs_wholesD : F_wholesD.sig = [false] := rfl
theorem fp_wholesD : F_wholesD.spec = sp_wholesD := rfl
theorem mk_wholesD (c : List (Option Int)) (Q : Kn (D → List D → Prop)) (X : Kn (Ex → List D → Prop)) : sB sp_wholesD [.lst (dl wO c)] = (c.length ≤ 1000 ∧ Q.k (dB true) []) := by
  refine propext ⟨fun h => ?_, fun h => ⟨c, rfl, h⟩⟩
  obtain ⟨c', e, h⟩ := h
  simp only [and_assoc, List.cons.injEq, and_true, true_and, D.w.injEq, D.lst.injEq, D.tup.injEq, D.fz.injEq, D.dK.injEq, D.dT.injEq, W.int.injEq, W.bl.injEq, W.tup.injEq, W.str.injEq, wWeb_inj, dl_inj3, dl_injI, map_inj3, map_injI, w3_inj, dl_injO, dl_injS, wO_inj, wS_inj, w2_inj, dl_inj2, wG_inj, dl_injG] at e
  obtain rfl := e
  exact h
theorem v_wholesD : Ver T_wholesD d_wholesD sp_wholesD := by
  intro ds Q1 X1 h
  obtain ⟨c, rfl, hl, k⟩ := h
  try simp only [d_wholesD, wpA1, wpA2, wpA3, wpA4, wpA5, wpA6, wpA7, implies_true, forall_const, ↓bc_t, ↓bc_f, rds, rd, tks, tks1, tk, brwArg, allW, mkTup, heldB, Op.pm, Op.wm, Op.watch, putIn, live, ownL, cArgs, apartArgs, outDs, putOuts, noBrw, takeSlot, shallow, isW, lateIn, Es.vars, Tg.set, setAll, wipeR, startE, initE, outsOf, if_true, if_false, reduceIte, Nat.reduceEqDiff, Nat.reduceLT, Nat.reduceLeDiff, Nat.reduceAdd, Nat.reduceSub, ne_eq, reduceCtorEq, wKeys, wKey, Int.reduceToNat, Nat.reduceBEq, eqA1, eqA2, isoA1, isoA2]
  refine lc_dl W.bl (fun _ => true) c (stays_one rfl) (sz hl) (fun x hx k hk => ?_) ?_
  · cases x <;> try simp only [turnL, wpA1, wpA2, wpA3, wpA4, wpA5, wpA6, wpA7, implies_true, forall_const, ↓bc_t, ↓bc_f, rds, rd, tks, tks1, tk, brwArg, allW, mkTup, heldB, Op.pm, Op.wm, Op.watch, putIn, live, ownL, cArgs, apartArgs, outDs, putOuts, noBrw, takeSlot, shallow, isW, lateIn, Es.vars, Tg.set, setAll, wipeR, startE, initE, outsOf, if_true, if_false, reduceIte, Nat.reduceEqDiff, Nat.reduceLT, Nat.reduceLeDiff, Nat.reduceAdd, Nat.reduceSub, ne_eq, reduceCtorEq, wKeys, wKey, Int.reduceToNat, Nat.reduceBEq, eqA1, eqA2, isoA1, isoA2] <;> exact hk
  have at1 : (c.map fun _ => true).all id = true := by simp
  try simp only [wpA1, wpA2, wpA3, wpA4, wpA5, wpA6, wpA7, implies_true, forall_const, ↓bc_t, ↓bc_f, rds, rd, tks, tks1, tk, brwArg, allW, mkTup, heldB, Op.pm, Op.wm, Op.watch, putIn, live, ownL, cArgs, apartArgs, outDs, putOuts, noBrw, takeSlot, shallow, isW, lateIn, Es.vars, Tg.set, setAll, wipeR, startE, initE, outsOf, if_true, if_false, reduceIte, Nat.reduceEqDiff, Nat.reduceLT, Nat.reduceLeDiff, Nat.reduceAdd, Nat.reduceSub, ne_eq, reduceCtorEq, wKeys, wKey, Int.reduceToNat, Nat.reduceBEq, eqA1, eqA2, at1]
  exact k
def d_toldD : Def := ⟨["web", "rest", "goal", "last"], ["web", "rest", "goal", "last", "due", "turn", "found"], [false, false, false, false],
 (.cons (.asg 4 (.call "_law_latest" (.cons (.var 0) (.cons (.var 1) (.cons (.var 2) (.cons (.var 3) .nil))))))
 (.cons (.forS (.one 5) (.rng (.cons (.cst (.int 2)) .nil))
 (.cons (.asg 6 (.call "latest_to" (.cons (.var 0) (.cons (.var 1) (.cons (.var 2) (.cons (.var 3) .nil))))))
 (.cons (.ifS (.or (.not (.call "_law_wholes" (.cons (.var 6) .nil))) (.op (.cmp .ne) (.cons (.var 6) (.cons (.var 4) .nil))))
 (.cons (.ret (.cst (.bl false)))
 .nil)
 .nil)
 (.cons (.expr (.mth .append 6 (.cons (.cst (.int 7)) .nil)))
 (.cons (.expr (.mth .reverse 6 .nil))
 .nil)))))
 (.cons (.ret (.cst (.bl true)))
 .nil)))⟩
def T_toldD : Tab := [F_latestD, F_latest_to, F_wholesD]
theorem tf_toldD_latestD : T_toldD.find "_law_latest" = some F_latestD := rfl
theorem tf_toldD_latest_to : T_toldD.find "latest_to" = some F_latest_to := rfl
theorem tf_toldD_wholesD : T_toldD.find "_law_wholes" = some F_wholesD := rfl
def sp_toldD : FSpec := fun ds Q X => ∃ (g : Web) (rest goal last : Int), ds = [dWeb g, dI rest, dI goal, dI last] ∧ (WebA g ∧ 0 ≤ rest ∧ 0 ≤ goal ∧ goal < g.n ∧ Q (dB true) [])
def F_toldD : Fn := ⟨"_law_told", [false, false, false, false], 5, sp_toldD⟩
theorem fs_toldD : F_toldD.sig = [false, false, false, false] := rfl
theorem fp_toldD : F_toldD.spec = sp_toldD := rfl
theorem mk_toldD (g : Web) (rest goal last : Int) (Q : Kn (D → List D → Prop)) (X : Kn (Ex → List D → Prop)) : sB sp_toldD [dWeb g, dI rest, dI goal, dI last] = (WebA g ∧ 0 ≤ rest ∧ 0 ≤ goal ∧ goal < g.n ∧ Q.k (dB true) []) := by
  refine propext ⟨fun h => ?_, fun h => ⟨g, rest, goal, last, rfl, h⟩⟩
  obtain ⟨g', rest', goal', last', e, h⟩ := h
  simp only [and_assoc, List.cons.injEq, and_true, true_and, D.w.injEq, D.lst.injEq, D.tup.injEq, D.fz.injEq, D.dK.injEq, D.dT.injEq, W.int.injEq, W.bl.injEq, W.tup.injEq, W.str.injEq, wWeb_inj, dl_inj3, dl_injI, map_inj3, map_injI, w3_inj, dl_injO, dl_injS, wO_inj, wS_inj, w2_inj, dl_inj2, wG_inj, dl_injG] at e
  obtain ⟨rfl, rfl, rfl, rfl⟩ := e
  exact h
theorem v_toldD : Ver T_toldD d_toldD sp_toldD := by
  intro ds Q1 X1 h
  obtain ⟨g, rest, goal, last, rfl, hg, hr, s0, s1, k⟩ := h
  have n9 := hg.n9
  try simp only [d_toldD, wpA1, wpA2, wpA3, wpA4, wpA5, wpA6, wpA7, implies_true, forall_const, ↓bc_t, ↓bc_f, rds, rd, tks, tks1, tk, brwArg, allW, mkTup, heldB, Op.pm, Op.wm, Op.watch, putIn, live, ownL, cArgs, apartArgs, outDs, putOuts, noBrw, takeSlot, shallow, isW, lateIn, Es.vars, Tg.set, setAll, wipeR, startE, initE, outsOf, if_true, if_false, reduceIte, Nat.reduceEqDiff, Nat.reduceLT, Nat.reduceLeDiff, Nat.reduceAdd, Nat.reduceSub, ne_eq, reduceCtorEq, wKeys, wKey, Int.reduceToNat, Nat.reduceBEq, eqA1, eqA2, tf_toldD_latestD, tf_toldD_latest_to, tf_toldD_wholesD, fs_latestD, fp_latestD, mk_latestD, fs_latest_to, fp_latest_to, mk_latest_to, fs_wholesD, fp_wholesD, mk_wholesD]
  refine ⟨hg, hr, s0, s1, fun c hc => ?_⟩
  have hl : c.length = g.n.toNat := hc.len
  refine ⟨s62 (by decide) (by decide), for_range (fun i ρ => ∃ x5 x6, ρ = [some (sw (wWeb g)), some (sw (.int rest)), some (sw (.int goal)), some (sw (.int last)), some ⟨.own, .lst (dl wO (c.map negO))⟩, x5, x6]) ⟨_, _, rfl⟩ (fun i ρ k2 hi h2 hk => ⟨stays_nil _, ?_⟩) fun ρ h2 => ⟨stays_nil _, ?_⟩⟩
  · obtain ⟨x5, x6, rfl⟩ := h2
    try simp only [turnF, wpA1, wpA2, wpA3, wpA4, wpA5, wpA6, wpA7, implies_true, forall_const, ↓bc_t, ↓bc_f, rds, rd, tks, tks1, tk, brwArg, allW, mkTup, heldB, Op.pm, Op.wm, Op.watch, putIn, live, ownL, cArgs, apartArgs, outDs, putOuts, noBrw, takeSlot, shallow, isW, lateIn, Es.vars, Tg.set, setAll, wipeR, startE, initE, outsOf, if_true, if_false, reduceIte, Nat.reduceEqDiff, Nat.reduceLT, Nat.reduceLeDiff, Nat.reduceAdd, Nat.reduceSub, ne_eq, reduceCtorEq, wKeys, wKey, Int.reduceToNat, Nat.reduceBEq, eqA1, eqA2, tf_toldD_latestD, tf_toldD_latest_to, tf_toldD_wholesD, fs_latestD, fp_latestD, mk_latestD, fs_latest_to, fp_latest_to, mk_latest_to, fs_wholesD, fp_wholesD, mk_wholesD]
    refine ⟨hg, hr, s0, s1, fun c2 hc2 => ?_⟩
    obtain rfl := hc.uniq hr hc2
    try simp only [wpA1, wpA2, wpA3, wpA4, wpA5, wpA6, wpA7, implies_true, forall_const, ↓bc_t, ↓bc_f, rds, rd, tks, tks1, tk, brwArg, allW, mkTup, heldB, Op.pm, Op.wm, Op.watch, putIn, live, ownL, cArgs, apartArgs, outDs, putOuts, noBrw, takeSlot, shallow, isW, lateIn, Es.vars, Tg.set, setAll, wipeR, startE, initE, outsOf, if_true, if_false, reduceIte, Nat.reduceEqDiff, Nat.reduceLT, Nat.reduceLeDiff, Nat.reduceAdd, Nat.reduceSub, ne_eq, reduceCtorEq, wKeys, wKey, Int.reduceToNat, Nat.reduceBEq, eqA1, eqA2, tf_toldD_latestD, tf_toldD_latest_to, tf_toldD_wholesD, fs_latestD, fp_latestD, mk_latestD, fs_latest_to, fp_latest_to, mk_latest_to, fs_wholesD, fp_wholesD, mk_wholesD]
    exact ⟨by omega, szl (by omega), hk _ ⟨_, _, rfl⟩⟩
  · obtain ⟨x5, x6, rfl⟩ := h2
    try simp only [wpA1, wpA2, wpA3, wpA4, wpA5, wpA6, wpA7, implies_true, forall_const, ↓bc_t, ↓bc_f, rds, rd, tks, tks1, tk, brwArg, allW, mkTup, heldB, Op.pm, Op.wm, Op.watch, putIn, live, ownL, cArgs, apartArgs, outDs, putOuts, noBrw, takeSlot, shallow, isW, lateIn, Es.vars, Tg.set, setAll, wipeR, startE, initE, outsOf, if_true, if_false, reduceIte, Nat.reduceEqDiff, Nat.reduceLT, Nat.reduceLeDiff, Nat.reduceAdd, Nat.reduceSub, ne_eq, reduceCtorEq, wKeys, wKey, Int.reduceToNat, Nat.reduceBEq]
    exact k
def d_law19 : Def := ⟨["script"], ["script", "cell", "pool", "web", "rest", "turn", "last", "goal"], [false],
 (.cons (.forS (.one 1) (.seq (.cons (.op (.bin .add) (.cons (.op .lst (.cons (.cst (.int 0)) .nil)) (.cons (.call "_law_folded" (.cons (.var 0) (.cons (.cst (.int 16)) .nil))) .nil))) .nil))
 (.cons (.asg 2 (.call "_law_pool" (.cons (.var 1) .nil)))
 (.cons (.asg 3 (.call "_law_web" (.cons (.var 2) .nil)))
 (.cons (.asg 4 (.call "_law_rest" (.cons (.var 2) .nil)))
 (.cons (.forS (.one 5) (.rng (.cons (.cst (.int 3)) .nil))
 (.cons (.asg 6 (.call "_law_till" (.cons (.var 2) (.cons (.var 3) .nil))))
 (.cons (.ifS (.not (.op .all (.cons (.lc (.one 7) (.rng (.cons (.op .idx (.cons (.var 3) (.cons (.cst (.int 0)) .nil))) .nil)) (.call "_law_told" (.cons (.var 3) (.cons (.var 4) (.cons (.var 7) (.cons (.var 6) .nil))))) [("goal", 7)]) .nil)))
 (.cons (.ret (.cst (.bl false)))
 .nil)
 .nil)
 .nil)))
 .nil)))))
 (.cons (.ret (.cst (.bl true)))
 .nil))⟩
def T_law19 : Tab := [F_foldedD, F_poolB, F_webD, F_restD, F_tillD, F_toldD]
theorem tf_law19_foldedD : T_law19.find "_law_folded" = some F_foldedD := rfl
theorem tf_law19_poolB : T_law19.find "_law_pool" = some F_poolB := rfl
theorem tf_law19_webD : T_law19.find "_law_web" = some F_webD := rfl
theorem tf_law19_restD : T_law19.find "_law_rest" = some F_restD := rfl
theorem tf_law19_tillD : T_law19.find "_law_till" = some F_tillD := rfl
theorem tf_law19_toldD : T_law19.find "_law_told" = some F_toldD := rfl
def sp_law19 : FSpec := fun ds Q X => ∃ (l : List Int), ds = [.fz (l.map .int)] ∧ (l.length ≤ 63 ∧ Q (dB true) [])
def F_law19 : Fn := ⟨"law", [false], 6, sp_law19⟩
theorem fs_law19 : F_law19.sig = [false] := rfl
theorem fp_law19 : F_law19.spec = sp_law19 := rfl
theorem mk_law19 (l : List Int) (Q : Kn (D → List D → Prop)) (X : Kn (Ex → List D → Prop)) : sB sp_law19 [.fz (l.map .int)] = (l.length ≤ 63 ∧ Q.k (dB true) []) := by
  refine propext ⟨fun h => ?_, fun h => ⟨l, rfl, h⟩⟩
  obtain ⟨l', e, h⟩ := h
  simp only [and_assoc, List.cons.injEq, and_true, true_and, D.w.injEq, D.lst.injEq, D.tup.injEq, D.fz.injEq, D.dK.injEq, D.dT.injEq, W.int.injEq, W.bl.injEq, W.tup.injEq, W.str.injEq, wWeb_inj, dl_inj3, dl_injI, map_inj3, map_injI, w3_inj, dl_injO, dl_injS, wO_inj, wS_inj, w2_inj, dl_inj2, wG_inj, dl_injG] at e
  obtain rfl := e
  exact h
theorem v_law19 : Ver T_law19 d_law19 sp_law19 := by
  intro ds Q1 X1 h
  obtain ⟨l, rfl, hl, k⟩ := h
  try simp only [d_law19, wpA1, wpA2, wpA3, wpA4, wpA5, wpA6, wpA7, implies_true, forall_const, ↓bc_t, ↓bc_f, rds, rd, tks, tks1, tk, brwArg, allW, mkTup, heldB, Op.pm, Op.wm, Op.watch, putIn, live, ownL, cArgs, apartArgs, outDs, putOuts, noBrw, takeSlot, shallow, isW, lateIn, Es.vars, Tg.set, setAll, wipeR, startE, initE, outsOf, if_true, if_false, reduceIte, Nat.reduceEqDiff, Nat.reduceLT, Nat.reduceLeDiff, Nat.reduceAdd, Nat.reduceSub, ne_eq, reduceCtorEq, wKeys, wKey, Int.reduceToNat, Nat.reduceBEq, eqA1, eqA2, tf_law19_foldedD, tf_law19_poolB, tf_law19_webD, tf_law19_restD, tf_law19_tillD, tf_law19_toldD, fs_foldedD, fp_foldedD, mk_foldedD, fs_poolB, fp_poolB, mk_poolB, fs_webD, fp_webD, mk_webD, fs_restD, fp_restD, mk_restD, fs_tillD, fp_tillD, mk_tillD, fs_toldD, fp_toldD, mk_toldD]
  refine ⟨hl, by decide, by decide, fun c hc => ?_⟩
  try simp only [wpA1, wpA2, wpA3, wpA4, wpA5, wpA6, wpA7, implies_true, forall_const, ↓bc_t, ↓bc_f, rds, rd, tks, tks1, tk, brwArg, allW, mkTup, heldB, Op.pm, Op.wm, Op.watch, putIn, live, ownL, cArgs, apartArgs, outDs, putOuts, noBrw, takeSlot, shallow, isW, lateIn, Es.vars, Tg.set, setAll, wipeR, startE, initE, outsOf, if_true, if_false, reduceIte, Nat.reduceEqDiff, Nat.reduceLT, Nat.reduceLeDiff, Nat.reduceAdd, Nat.reduceSub, ne_eq, reduceCtorEq, wKeys, wKey, Int.reduceToNat, Nat.reduceBEq, eqA1, eqA2, tf_law19_foldedD, tf_law19_poolB, tf_law19_webD, tf_law19_restD, tf_law19_tillD, tf_law19_toldD, fs_foldedD, fp_foldedD, mk_foldedD, fs_poolB, fp_poolB, mk_poolB, fs_webD, fp_webD, mk_webD, fs_restD, fp_restD, mk_restD, fs_tillD, fp_tillD, mk_tillD, fs_toldD, fp_toldD, mk_toldD]
  refine ⟨sz (by omega), ?_⟩
  refine for_rule (all := 0 :: c) (g := fun a => [sw (W.int a)]) (fun pre ρ => ∃ x1 x2 x3 x4 x5 x6 x7, ρ = [some ⟨.par, .fz (l.map .int)⟩, x1, x2, x3, x4, x5, x6, x7]) ⟨_, _, _, _, _, _, _, rfl⟩ (fun pre cell post ρ k' e h0 hk => ⟨stays_nil _, ?_⟩) fun ρ h0 => ⟨stays_nil _, ?_⟩
  · obtain ⟨x1, x2, x3, x4, x5, x6, x7, rfl⟩ := h0
    clear e pre post
    try simp only [turnF, wpA1, wpA2, wpA3, wpA4, wpA5, wpA6, wpA7, implies_true, forall_const, ↓bc_t, ↓bc_f, rds, rd, tks, tks1, tk, brwArg, allW, mkTup, heldB, Op.pm, Op.wm, Op.watch, putIn, live, ownL, cArgs, apartArgs, outDs, putOuts, noBrw, takeSlot, shallow, isW, lateIn, Es.vars, Tg.set, setAll, wipeR, startE, initE, outsOf, if_true, if_false, reduceIte, Nat.reduceEqDiff, Nat.reduceLT, Nat.reduceLeDiff, Nat.reduceAdd, Nat.reduceSub, ne_eq, reduceCtorEq, wKeys, wKey, Int.reduceToNat, Nat.reduceBEq, eqA1, eqA2, tf_law19_foldedD, tf_law19_poolB, tf_law19_webD, tf_law19_restD, tf_law19_tillD, tf_law19_toldD, fs_foldedD, fp_foldedD, mk_foldedD, fs_poolB, fp_poolB, mk_poolB, fs_webD, fp_webD, mk_webD, fs_restD, fp_restD, mk_restD, fs_tillD, fp_tillD, mk_tillD, fs_toldD, fp_toldD, mk_toldD]
    intro p1 p2 p3 hp
    refine ⟨hp, fun p1 p2 p3 g hp hg => ⟨hp, fun p1 p2 p3 rest hp r0 r9 => ⟨s62 (by decide) (by decide), ?_⟩⟩⟩
    have n1 := hg.n1
    have n7 := hg.n7
    have h24 := hg.len
    refine for_range (fun i ρ => ∃ p1 p2 p3 x5 x6 x7, ρ = [some ⟨.par, .fz (l.map .int)⟩, some (sw (.int cell)), some ⟨.own, pool p1 p2 p3⟩, some (sw (wWeb g)), some (sw (.int rest)), x5, x6, x7] ∧ PoolOk p1 p2 p3) ⟨_, _, _, _, _, _, rfl, hp⟩ (fun i ρ k2 hi h2 hk2 => ⟨stays_nil _, ?_⟩) fun ρ h2 => ⟨stays_nil _, ?_⟩
    · obtain ⟨p1, p2, p3, x5, x6, x7, rfl, hp⟩ := h2
      try simp only [turnF, wpA1, wpA2, wpA3, wpA4, wpA5, wpA6, wpA7, implies_true, forall_const, ↓bc_t, ↓bc_f, rds, rd, tks, tks1, tk, brwArg, allW, mkTup, heldB, Op.pm, Op.wm, Op.watch, putIn, live, ownL, cArgs, apartArgs, outDs, putOuts, noBrw, takeSlot, shallow, isW, lateIn, Es.vars, Tg.set, setAll, wipeR, startE, initE, outsOf, if_true, if_false, reduceIte, Nat.reduceEqDiff, Nat.reduceLT, Nat.reduceLeDiff, Nat.reduceAdd, Nat.reduceSub, ne_eq, reduceCtorEq, wKeys, wKey, Int.reduceToNat, Nat.reduceBEq, eqA1, eqA2, tf_law19_foldedD, tf_law19_poolB, tf_law19_webD, tf_law19_restD, tf_law19_tillD, tf_law19_toldD, fs_foldedD, fp_foldedD, mk_foldedD, fs_poolB, fp_poolB, mk_poolB, fs_webD, fp_webD, mk_webD, fs_restD, fp_restD, mk_restD, fs_tillD, fp_tillD, mk_tillD, fs_toldD, fp_toldD, mk_toldD]
      refine ⟨hp, by omega, fun p1 p2 p3 last hp => ⟨s62 (by omega) (by omega), ?_⟩⟩
      refine lc_dl W.bl (fun _ => true) (List.range g.n.toNat) (stays_nil _) (sz (by rw [List.length_range]; omega)) (fun x hx k hk => ?_) ?_
      · rw [List.mem_range] at hx
        try simp only [turnL, wpA1, wpA2, wpA3, wpA4, wpA5, wpA6, wpA7, implies_true, forall_const, ↓bc_t, ↓bc_f, rds, rd, tks, tks1, tk, brwArg, allW, mkTup, heldB, Op.pm, Op.wm, Op.watch, putIn, live, ownL, cArgs, apartArgs, outDs, putOuts, noBrw, takeSlot, shallow, isW, lateIn, Es.vars, Tg.set, setAll, wipeR, startE, initE, outsOf, if_true, if_false, reduceIte, Nat.reduceEqDiff, Nat.reduceLT, Nat.reduceLeDiff, Nat.reduceAdd, Nat.reduceSub, ne_eq, reduceCtorEq, wKeys, wKey, Int.reduceToNat, Nat.reduceBEq, eqA1, eqA2, tf_law19_foldedD, tf_law19_poolB, tf_law19_webD, tf_law19_restD, tf_law19_tillD, tf_law19_toldD, fs_foldedD, fp_foldedD, mk_foldedD, fs_poolB, fp_poolB, mk_poolB, fs_webD, fp_webD, mk_webD, fs_restD, fp_restD, mk_restD, fs_tillD, fp_tillD, mk_tillD, fs_toldD, fp_toldD, mk_toldD]
        exact ⟨hg.a, r0, by omega, by omega, hk⟩
      have at1 : ((List.range g.n.toNat).map fun _ => true).all id = true := by simp
      try simp only [wpA1, wpA2, wpA3, wpA4, wpA5, wpA6, wpA7, implies_true, forall_const, ↓bc_t, ↓bc_f, rds, rd, tks, tks1, tk, brwArg, allW, mkTup, heldB, Op.pm, Op.wm, Op.watch, putIn, live, ownL, cArgs, apartArgs, outDs, putOuts, noBrw, takeSlot, shallow, isW, lateIn, Es.vars, Tg.set, setAll, wipeR, startE, initE, outsOf, if_true, if_false, reduceIte, Nat.reduceEqDiff, Nat.reduceLT, Nat.reduceLeDiff, Nat.reduceAdd, Nat.reduceSub, ne_eq, reduceCtorEq, wKeys, wKey, Int.reduceToNat, Nat.reduceBEq, eqA1, eqA2, at1]
      exact hk2 _ ⟨_, _, _, _, _, _, rfl, hp⟩
    · obtain ⟨p1, p2, p3, x5, x6, x7, rfl, hp⟩ := h2
      try simp only [wpA1, wpA2, wpA3, wpA4, wpA5, wpA6, wpA7, implies_true, forall_const, ↓bc_t, ↓bc_f, rds, rd, tks, tks1, tk, brwArg, allW, mkTup, heldB, Op.pm, Op.wm, Op.watch, putIn, live, ownL, cArgs, apartArgs, outDs, putOuts, noBrw, takeSlot, shallow, isW, lateIn, Es.vars, Tg.set, setAll, wipeR, startE, initE, outsOf, if_true, if_false, reduceIte, Nat.reduceEqDiff, Nat.reduceLT, Nat.reduceLeDiff, Nat.reduceAdd, Nat.reduceSub, ne_eq, reduceCtorEq, wKeys, wKey, Int.reduceToNat, Nat.reduceBEq]
      exact hk _ ⟨_, _, _, _, _, _, _, rfl⟩
  · obtain ⟨x1, x2, x3, x4, x5, x6, x7, rfl⟩ := h0
    try simp only [wpA1, wpA2, wpA3, wpA4, wpA5, wpA6, wpA7, implies_true, forall_const, ↓bc_t, ↓bc_f, rds, rd, tks, tks1, tk, brwArg, allW, mkTup, heldB, Op.pm, Op.wm, Op.watch, putIn, live, ownL, cArgs, apartArgs, outDs, putOuts, noBrw, takeSlot, shallow, isW, lateIn, Es.vars, Tg.set, setAll, wipeR, startE, initE, outsOf, if_true, if_false, reduceIte, Nat.reduceEqDiff, Nat.reduceLT, Nat.reduceLeDiff, Nat.reduceAdd, Nat.reduceSub, ne_eq, reduceCtorEq, wKeys, wKey, Int.reduceToNat, Nat.reduceBEq]
    exact k
end Wm
namespace Wm
open PySem PySem.Spec PyProof.Rows L2
namespace Ek19
def topS (i : Nat) : Stmt := PySem.Challenge.pw_whenmeet_k19_latest_leavings_told.main.body.getD i (.Pass ⟨0, 0, 0, 0⟩)
abbrev s_turned_web : Stmt := topS 1
def c_turned_web : CkT := ⟨[], [], []⟩
theorem sc_turned_web : FnScope d_turned_web.N d_turned_web.ps (defScope s_turned_web) := ⟨rfl, rfl, rfl, by decide +kernel, rfl, by decide +kernel, by decide +kernel⟩
theorem ck_turned_web : chkSs { c_turned_web with pr := prSlots d_turned_web.sig 0 } d_turned_web.N (defScope s_turned_web) d_turned_web.body (defBody s_turned_web) = true := by decide +kernel
abbrev s_steps_of : Stmt := topS 3
def c_steps_of : CkT := ⟨[], [], []⟩
theorem sc_steps_of : FnScope d_steps_of.N d_steps_of.ps (defScope s_steps_of) := ⟨rfl, rfl, rfl, by decide +kernel, rfl, by decide +kernel, by decide +kernel⟩
theorem ck_steps_of : chkSs { c_steps_of with pr := prSlots d_steps_of.sig 0 } d_steps_of.N (defScope s_steps_of) d_steps_of.body (defBody s_steps_of) = true := by decide +kernel
abbrev s_can_go : Stmt := topS 5
def c_can_go : CkT := ⟨[], [], []⟩
theorem sc_can_go : FnScope d_can_go.N d_can_go.ps (defScope s_can_go) := ⟨rfl, rfl, rfl, by decide +kernel, rfl, by decide +kernel, by decide +kernel⟩
theorem ck_can_go : chkSs { c_can_go with pr := prSlots d_can_go.sig 0 } d_can_go.N (defScope s_can_go) d_can_go.body (defBody s_can_go) = true := by decide +kernel
abbrev s_is_sooner : Stmt := topS 6
def c_is_sooner : CkT := ⟨[], [], []⟩
theorem sc_is_sooner : FnScope d_is_sooner.N d_is_sooner.ps (defScope s_is_sooner) := ⟨rfl, rfl, rfl, by decide +kernel, rfl, by decide +kernel, by decide +kernel⟩
theorem ck_is_sooner : chkSs { c_is_sooner with pr := prSlots d_is_sooner.sig 0 } d_is_sooner.N (defScope s_is_sooner) d_is_sooner.body (defBody s_is_sooner) = true := by decide +kernel
abbrev s_soonest_tree : Stmt := topS 7
def c_soonest_tree : CkT := ⟨[], ["steps_of", "is_sooner", "can_go"], []⟩
theorem sc_soonest_tree : FnScope d_soonest_tree.N d_soonest_tree.ps (defScope s_soonest_tree) := ⟨rfl, rfl, rfl, by decide +kernel, rfl, by decide +kernel, by decide +kernel⟩
theorem ck_soonest_tree : chkSs { c_soonest_tree with pr := prSlots d_soonest_tree.sig 0 } d_soonest_tree.N (defScope s_soonest_tree) d_soonest_tree.body (defBody s_soonest_tree) = true := by decide +kernel
abbrev s_soonest_from : Stmt := topS 8
def c_soonest_from : CkT := ⟨[], ["soonest_tree"], []⟩
theorem sc_soonest_from : FnScope d_soonest_from.N d_soonest_from.ps (defScope s_soonest_from) := ⟨rfl, rfl, rfl, by decide +kernel, rfl, by decide +kernel, by decide +kernel⟩
theorem ck_soonest_from : chkSs { c_soonest_from with pr := prSlots d_soonest_from.sig 0 } d_soonest_from.N (defScope s_soonest_from) d_soonest_from.body (defBody s_soonest_from) = true := by decide +kernel
abbrev s_turned_moment : Stmt := topS 10
def c_turned_moment : CkT := ⟨[], [], []⟩
theorem sc_turned_moment : FnScope d_turned_moment.N d_turned_moment.ps (defScope s_turned_moment) := ⟨rfl, rfl, rfl, by decide +kernel, rfl, by decide +kernel, by decide +kernel⟩
theorem ck_turned_moment : chkSs { c_turned_moment with pr := prSlots d_turned_moment.sig 0 } d_turned_moment.N (defScope s_turned_moment) d_turned_moment.body (defBody s_turned_moment) = true := by decide +kernel
abbrev s_turned_list : Stmt := topS 11
def c_turned_list : CkT := ⟨[], ["turned_moment"], []⟩
theorem sc_turned_list : FnScope d_turned_list.N d_turned_list.ps (defScope s_turned_list) := ⟨rfl, rfl, rfl, by decide +kernel, rfl, by decide +kernel, by decide +kernel⟩
theorem ck_turned_list : chkSs { c_turned_list with pr := prSlots d_turned_list.sig 0 } d_turned_list.N (defScope s_turned_list) d_turned_list.body (defBody s_turned_list) = true := by decide +kernel
abbrev s_latest_to : Stmt := topS 12
def c_latest_to : CkT := ⟨[], ["turned_list", "soonest_from", "turned_web"], []⟩
theorem sc_latest_to : FnScope d_latest_to.N d_latest_to.ps (defScope s_latest_to) := ⟨rfl, rfl, rfl, by decide +kernel, rfl, by decide +kernel, by decide +kernel⟩
theorem ck_latest_to : chkSs { c_latest_to with pr := prSlots d_latest_to.sig 0 } d_latest_to.N (defScope s_latest_to) d_latest_to.body (defBody s_latest_to) = true := by decide +kernel
abbrev s_poolB : Stmt := topS 14
def c_poolB : CkT := ⟨[], [], []⟩
theorem sc_poolB : FnScope d_poolB.N d_poolB.ps (defScope s_poolB) := ⟨rfl, rfl, rfl, by decide +kernel, rfl, by decide +kernel, by decide +kernel⟩
theorem ck_poolB : chkSs { c_poolB with pr := prSlots d_poolB.sig 0 } d_poolB.N (defScope s_poolB) d_poolB.body (defBody s_poolB) = true := by decide +kernel
abbrev s_nextB : Stmt := topS 15
def c_nextB : CkT := ⟨[], [], []⟩
theorem sc_nextB : FnScope d_nextB.N d_nextB.ps (defScope s_nextB) := ⟨rfl, rfl, rfl, by decide +kernel, rfl, by decide +kernel, by decide +kernel⟩
theorem ck_nextB : chkSs { c_nextB with pr := prSlots d_nextB.sig 0 } d_nextB.N (defScope s_nextB) d_nextB.body (defBody s_nextB) = true := by decide +kernel
abbrev s_wideD : Stmt := topS 16
def c_wideD : CkT := ⟨[], ["_law_next"], []⟩
theorem sc_wideD : FnScope d_wideD.N d_wideD.ps (defScope s_wideD) := ⟨rfl, rfl, rfl, by decide +kernel, rfl, by decide +kernel, by decide +kernel⟩
theorem ck_wideD : chkSs { c_wideD with pr := prSlots d_wideD.sig 0 } d_wideD.N (defScope s_wideD) d_wideD.body (defBody s_wideD) = true := by decide +kernel
abbrev s_momentD : Stmt := topS 17
def c_momentD : CkT := ⟨[], ["_law_next", "_law_wide"], []⟩
theorem sc_momentD : FnScope d_momentD.N d_momentD.ps (defScope s_momentD) := ⟨rfl, rfl, rfl, by decide +kernel, rfl, by decide +kernel, by decide +kernel⟩
theorem ck_momentD : chkSs { c_momentD with pr := prSlots d_momentD.sig 0 } d_momentD.N (defScope s_momentD) d_momentD.body (defBody s_momentD) = true := by decide +kernel
abbrev s_webD : Stmt := topS 18
def c_webD : CkT := ⟨[], ["_law_next", "_law_moment"], []⟩
theorem sc_webD : FnScope d_webD.N d_webD.ps (defScope s_webD) := ⟨rfl, rfl, rfl, by decide +kernel, rfl, by decide +kernel, by decide +kernel⟩
theorem ck_webD : chkSs { c_webD with pr := prSlots d_webD.sig 0 } d_webD.N (defScope s_webD) d_webD.body (defBody s_webD) = true := by decide +kernel
abbrev s_restD : Stmt := topS 19
def c_restD : CkT := ⟨[], ["_law_next"], []⟩
theorem sc_restD : FnScope d_restD.N d_restD.ps (defScope s_restD) := ⟨rfl, rfl, rfl, by decide +kernel, rfl, by decide +kernel, by decide +kernel⟩
theorem ck_restD : chkSs { c_restD with pr := prSlots d_restD.sig 0 } d_restD.N (defScope s_restD) d_restD.body (defBody s_restD) = true := by decide +kernel
abbrev s_tillD : Stmt := topS 20
def c_tillD : CkT := ⟨[], ["_law_next", "_law_wide"], []⟩
theorem sc_tillD : FnScope d_tillD.N d_tillD.ps (defScope s_tillD) := ⟨rfl, rfl, rfl, by decide +kernel, rfl, by decide +kernel, by decide +kernel⟩
theorem ck_tillD : chkSs { c_tillD with pr := prSlots d_tillD.sig 0 } d_tillD.N (defScope s_tillD) d_tillD.body (defBody s_tillD) = true := by decide +kernel
abbrev s_foldedD : Stmt := topS 21
def c_foldedD : CkT := ⟨[], [], []⟩
theorem sc_foldedD : FnScope d_foldedD.N d_foldedD.ps (defScope s_foldedD) := ⟨rfl, rfl, rfl, by decide +kernel, rfl, by decide +kernel, by decide +kernel⟩
theorem ck_foldedD : chkSs { c_foldedD with pr := prSlots d_foldedD.sig 0 } d_foldedD.N (defScope s_foldedD) d_foldedD.body (defBody s_foldedD) = true := by decide +kernel
abbrev s_stepsD : Stmt := topS 22
def c_stepsD : CkT := ⟨[], [], []⟩
theorem sc_stepsD : FnScope d_stepsD.N d_stepsD.ps (defScope s_stepsD) := ⟨rfl, rfl, rfl, by decide +kernel, rfl, by decide +kernel, by decide +kernel⟩
theorem ck_stepsD : chkSs { c_stepsD with pr := prSlots d_stepsD.sig 0 } d_stepsD.N (defScope s_stepsD) d_stepsD.body (defBody s_stepsD) = true := by decide +kernel
abbrev s_latestD : Stmt := topS 23
def c_latestD : CkT := ⟨[], ["_law_steps"], []⟩
theorem sc_latestD : FnScope d_latestD.N d_latestD.ps (defScope s_latestD) := ⟨rfl, rfl, rfl, by decide +kernel, rfl, by decide +kernel, by decide +kernel⟩
theorem ck_latestD : chkSs { c_latestD with pr := prSlots d_latestD.sig 0 } d_latestD.N (defScope s_latestD) d_latestD.body (defBody s_latestD) = true := by decide +kernel
abbrev s_wholesD : Stmt := topS 24
def c_wholesD : CkT := ⟨[], [], []⟩
theorem sc_wholesD : FnScope d_wholesD.N d_wholesD.ps (defScope s_wholesD) := ⟨rfl, rfl, rfl, by decide +kernel, rfl, by decide +kernel, by decide +kernel⟩
theorem ck_wholesD : chkSs { c_wholesD with pr := prSlots d_wholesD.sig 0 } d_wholesD.N (defScope s_wholesD) d_wholesD.body (defBody s_wholesD) = true := by decide +kernel
abbrev s_toldD : Stmt := topS 25
def c_toldD : CkT := ⟨[], ["_law_latest", "latest_to", "_law_wholes"], []⟩
theorem sc_toldD : FnScope d_toldD.N d_toldD.ps (defScope s_toldD) := ⟨rfl, rfl, rfl, by decide +kernel, rfl, by decide +kernel, by decide +kernel⟩
theorem ck_toldD : chkSs { c_toldD with pr := prSlots d_toldD.sig 0 } d_toldD.N (defScope s_toldD) d_toldD.body (defBody s_toldD) = true := by decide +kernel
abbrev s_law19 : Stmt := topS 26
def c_law19 : CkT := ⟨[], ["_law_folded", "_law_pool", "_law_web", "_law_rest", "_law_till", "_law_told"], []⟩
theorem sc_law19 : FnScope d_law19.N d_law19.ps (defScope s_law19) := ⟨rfl, rfl, rfl, by decide +kernel, rfl, by decide +kernel, by decide +kernel⟩
theorem ck_law19 : chkSs { c_law19 with pr := prSlots d_law19.sig 0 } d_law19.N (defScope s_law19) d_law19.body (defBody s_law19) = true := by decide +kernel
theorem all_mk {l : PySem.W.OpenLaw} {w : World} {K : PySem.W.Frag} {h : Heap} {mg : Str → Option Value} {fa : Addr} (X : K.In h) (G : h.Ns mainGlobals mg) (hfa : mg "law" = some (.ref fa))
    {f0 : Addr} {od0 an0 : Option Addr} {sl0 : Array (Option Value)} {oc0 kV0 dc0 pm0 cd0 ct0 : Value}
    (a0 : PySem.W.nsIn K mainGlobals "turned_web" = some (some (.ref f0))) (l0 : K.lookup f0 = some ⟨oc0, od0, .func (PySem.W.fnOf "turned_web" "turned_web" (defArgs s_turned_web) (defBody s_turned_web) (defScope s_turned_web) .none kV0 dc0 pm0 an0 cd0 ct0), sl0⟩) (c0 : PySem.W.codeIn K cd0 "turned_web" = true) (k0 : PySem.W.keepIn K (.ref f0) = true)
    {f1 : Addr} {od1 an1 : Option Addr} {sl1 : Array (Option Value)} {oc1 kV1 dc1 pm1 cd1 ct1 : Value}
    (a1 : PySem.W.nsIn K mainGlobals "steps_of" = some (some (.ref f1))) (l1 : K.lookup f1 = some ⟨oc1, od1, .func (PySem.W.fnOf "steps_of" "steps_of" (defArgs s_steps_of) (defBody s_steps_of) (defScope s_steps_of) .none kV1 dc1 pm1 an1 cd1 ct1), sl1⟩) (c1 : PySem.W.codeIn K cd1 "steps_of" = true) (k1 : PySem.W.keepIn K (.ref f1) = true)
    {f2 : Addr} {od2 an2 : Option Addr} {sl2 : Array (Option Value)} {oc2 kV2 dc2 pm2 cd2 ct2 : Value}
    (a2 : PySem.W.nsIn K mainGlobals "can_go" = some (some (.ref f2))) (l2 : K.lookup f2 = some ⟨oc2, od2, .func (PySem.W.fnOf "can_go" "can_go" (defArgs s_can_go) (defBody s_can_go) (defScope s_can_go) .none kV2 dc2 pm2 an2 cd2 ct2), sl2⟩) (c2 : PySem.W.codeIn K cd2 "can_go" = true) (k2 : PySem.W.keepIn K (.ref f2) = true)
    {f3 : Addr} {od3 an3 : Option Addr} {sl3 : Array (Option Value)} {oc3 kV3 dc3 pm3 cd3 ct3 : Value}
    (a3 : PySem.W.nsIn K mainGlobals "is_sooner" = some (some (.ref f3))) (l3 : K.lookup f3 = some ⟨oc3, od3, .func (PySem.W.fnOf "is_sooner" "is_sooner" (defArgs s_is_sooner) (defBody s_is_sooner) (defScope s_is_sooner) .none kV3 dc3 pm3 an3 cd3 ct3), sl3⟩) (c3 : PySem.W.codeIn K cd3 "is_sooner" = true) (k3 : PySem.W.keepIn K (.ref f3) = true)
    {f4 : Addr} {od4 an4 : Option Addr} {sl4 : Array (Option Value)} {oc4 kV4 dc4 pm4 cd4 ct4 : Value}
    (a4 : PySem.W.nsIn K mainGlobals "soonest_tree" = some (some (.ref f4))) (l4 : K.lookup f4 = some ⟨oc4, od4, .func (PySem.W.fnOf "soonest_tree" "soonest_tree" (defArgs s_soonest_tree) (defBody s_soonest_tree) (defScope s_soonest_tree) .none kV4 dc4 pm4 an4 cd4 ct4), sl4⟩) (c4 : PySem.W.codeIn K cd4 "soonest_tree" = true) (k4 : PySem.W.keepIn K (.ref f4) = true)
    {f5 : Addr} {od5 an5 : Option Addr} {sl5 : Array (Option Value)} {oc5 kV5 dc5 pm5 cd5 ct5 : Value}
    (a5 : PySem.W.nsIn K mainGlobals "soonest_from" = some (some (.ref f5))) (l5 : K.lookup f5 = some ⟨oc5, od5, .func (PySem.W.fnOf "soonest_from" "soonest_from" (defArgs s_soonest_from) (defBody s_soonest_from) (defScope s_soonest_from) .none kV5 dc5 pm5 an5 cd5 ct5), sl5⟩) (c5 : PySem.W.codeIn K cd5 "soonest_from" = true) (k5 : PySem.W.keepIn K (.ref f5) = true)
    {f6 : Addr} {od6 an6 : Option Addr} {sl6 : Array (Option Value)} {oc6 kV6 dc6 pm6 cd6 ct6 : Value}
    (a6 : PySem.W.nsIn K mainGlobals "turned_moment" = some (some (.ref f6))) (l6 : K.lookup f6 = some ⟨oc6, od6, .func (PySem.W.fnOf "turned_moment" "turned_moment" (defArgs s_turned_moment) (defBody s_turned_moment) (defScope s_turned_moment) .none kV6 dc6 pm6 an6 cd6 ct6), sl6⟩) (c6 : PySem.W.codeIn K cd6 "turned_moment" = true) (k6 : PySem.W.keepIn K (.ref f6) = true)
    {f7 : Addr} {od7 an7 : Option Addr} {sl7 : Array (Option Value)} {oc7 kV7 dc7 pm7 cd7 ct7 : Value}
    (a7 : PySem.W.nsIn K mainGlobals "turned_list" = some (some (.ref f7))) (l7 : K.lookup f7 = some ⟨oc7, od7, .func (PySem.W.fnOf "turned_list" "turned_list" (defArgs s_turned_list) (defBody s_turned_list) (defScope s_turned_list) .none kV7 dc7 pm7 an7 cd7 ct7), sl7⟩) (c7 : PySem.W.codeIn K cd7 "turned_list" = true) (k7 : PySem.W.keepIn K (.ref f7) = true)
    {f8 : Addr} {od8 an8 : Option Addr} {sl8 : Array (Option Value)} {oc8 kV8 dc8 pm8 cd8 ct8 : Value}
    (a8 : PySem.W.nsIn K mainGlobals "latest_to" = some (some (.ref f8))) (l8 : K.lookup f8 = some ⟨oc8, od8, .func (PySem.W.fnOf "latest_to" "latest_to" (defArgs s_latest_to) (defBody s_latest_to) (defScope s_latest_to) .none kV8 dc8 pm8 an8 cd8 ct8), sl8⟩) (c8 : PySem.W.codeIn K cd8 "latest_to" = true) (k8 : PySem.W.keepIn K (.ref f8) = true)
    {f9 : Addr} {od9 an9 : Option Addr} {sl9 : Array (Option Value)} {oc9 kV9 dc9 pm9 cd9 ct9 : Value}
    (a9 : PySem.W.nsIn K mainGlobals "_law_pool" = some (some (.ref f9))) (l9 : K.lookup f9 = some ⟨oc9, od9, .func (PySem.W.fnOf "_law_pool" "_law_pool" (defArgs s_poolB) (defBody s_poolB) (defScope s_poolB) .none kV9 dc9 pm9 an9 cd9 ct9), sl9⟩) (c9 : PySem.W.codeIn K cd9 "_law_pool" = true) (k9 : PySem.W.keepIn K (.ref f9) = true)
    {f10 : Addr} {od10 an10 : Option Addr} {sl10 : Array (Option Value)} {oc10 kV10 dc10 pm10 cd10 ct10 : Value}
    (a10 : PySem.W.nsIn K mainGlobals "_law_next" = some (some (.ref f10))) (l10 : K.lookup f10 = some ⟨oc10, od10, .func (PySem.W.fnOf "_law_next" "_law_next" (defArgs s_nextB) (defBody s_nextB) (defScope s_nextB) .none kV10 dc10 pm10 an10 cd10 ct10), sl10⟩) (c10 : PySem.W.codeIn K cd10 "_law_next" = true) (k10 : PySem.W.keepIn K (.ref f10) = true)
    {f11 : Addr} {od11 an11 : Option Addr} {sl11 : Array (Option Value)} {oc11 kV11 dc11 pm11 cd11 ct11 : Value}
    (a11 : PySem.W.nsIn K mainGlobals "_law_wide" = some (some (.ref f11))) (l11 : K.lookup f11 = some ⟨oc11, od11, .func (PySem.W.fnOf "_law_wide" "_law_wide" (defArgs s_wideD) (defBody s_wideD) (defScope s_wideD) .none kV11 dc11 pm11 an11 cd11 ct11), sl11⟩) (c11 : PySem.W.codeIn K cd11 "_law_wide" = true) (k11 : PySem.W.keepIn K (.ref f11) = true)
    {f12 : Addr} {od12 an12 : Option Addr} {sl12 : Array (Option Value)} {oc12 kV12 dc12 pm12 cd12 ct12 : Value}
    (a12 : PySem.W.nsIn K mainGlobals "_law_moment" = some (some (.ref f12))) (l12 : K.lookup f12 = some ⟨oc12, od12, .func (PySem.W.fnOf "_law_moment" "_law_moment" (defArgs s_momentD) (defBody s_momentD) (defScope s_momentD) .none kV12 dc12 pm12 an12 cd12 ct12), sl12⟩) (c12 : PySem.W.codeIn K cd12 "_law_moment" = true) (k12 : PySem.W.keepIn K (.ref f12) = true)
    {f13 : Addr} {od13 an13 : Option Addr} {sl13 : Array (Option Value)} {oc13 kV13 dc13 pm13 cd13 ct13 : Value}
    (a13 : PySem.W.nsIn K mainGlobals "_law_web" = some (some (.ref f13))) (l13 : K.lookup f13 = some ⟨oc13, od13, .func (PySem.W.fnOf "_law_web" "_law_web" (defArgs s_webD) (defBody s_webD) (defScope s_webD) .none kV13 dc13 pm13 an13 cd13 ct13), sl13⟩) (c13 : PySem.W.codeIn K cd13 "_law_web" = true) (k13 : PySem.W.keepIn K (.ref f13) = true)
    {f14 : Addr} {od14 an14 : Option Addr} {sl14 : Array (Option Value)} {oc14 kV14 dc14 pm14 cd14 ct14 : Value}
    (a14 : PySem.W.nsIn K mainGlobals "_law_rest" = some (some (.ref f14))) (l14 : K.lookup f14 = some ⟨oc14, od14, .func (PySem.W.fnOf "_law_rest" "_law_rest" (defArgs s_restD) (defBody s_restD) (defScope s_restD) .none kV14 dc14 pm14 an14 cd14 ct14), sl14⟩) (c14 : PySem.W.codeIn K cd14 "_law_rest" = true) (k14 : PySem.W.keepIn K (.ref f14) = true)
    {f15 : Addr} {od15 an15 : Option Addr} {sl15 : Array (Option Value)} {oc15 kV15 dc15 pm15 cd15 ct15 : Value}
    (a15 : PySem.W.nsIn K mainGlobals "_law_till" = some (some (.ref f15))) (l15 : K.lookup f15 = some ⟨oc15, od15, .func (PySem.W.fnOf "_law_till" "_law_till" (defArgs s_tillD) (defBody s_tillD) (defScope s_tillD) .none kV15 dc15 pm15 an15 cd15 ct15), sl15⟩) (c15 : PySem.W.codeIn K cd15 "_law_till" = true) (k15 : PySem.W.keepIn K (.ref f15) = true)
    {f16 : Addr} {od16 an16 : Option Addr} {sl16 : Array (Option Value)} {oc16 kV16 dc16 pm16 cd16 ct16 : Value}
    (a16 : PySem.W.nsIn K mainGlobals "_law_folded" = some (some (.ref f16))) (l16 : K.lookup f16 = some ⟨oc16, od16, .func (PySem.W.fnOf "_law_folded" "_law_folded" (defArgs s_foldedD) (defBody s_foldedD) (defScope s_foldedD) .none kV16 dc16 pm16 an16 cd16 ct16), sl16⟩) (c16 : PySem.W.codeIn K cd16 "_law_folded" = true) (k16 : PySem.W.keepIn K (.ref f16) = true)
    {f17 : Addr} {od17 an17 : Option Addr} {sl17 : Array (Option Value)} {oc17 kV17 dc17 pm17 cd17 ct17 : Value}
    (a17 : PySem.W.nsIn K mainGlobals "_law_steps" = some (some (.ref f17))) (l17 : K.lookup f17 = some ⟨oc17, od17, .func (PySem.W.fnOf "_law_steps" "_law_steps" (defArgs s_stepsD) (defBody s_stepsD) (defScope s_stepsD) .none kV17 dc17 pm17 an17 cd17 ct17), sl17⟩) (c17 : PySem.W.codeIn K cd17 "_law_steps" = true) (k17 : PySem.W.keepIn K (.ref f17) = true)
    {f18 : Addr} {od18 an18 : Option Addr} {sl18 : Array (Option Value)} {oc18 kV18 dc18 pm18 cd18 ct18 : Value}
    (a18 : PySem.W.nsIn K mainGlobals "_law_latest" = some (some (.ref f18))) (l18 : K.lookup f18 = some ⟨oc18, od18, .func (PySem.W.fnOf "_law_latest" "_law_latest" (defArgs s_latestD) (defBody s_latestD) (defScope s_latestD) .none kV18 dc18 pm18 an18 cd18 ct18), sl18⟩) (c18 : PySem.W.codeIn K cd18 "_law_latest" = true) (k18 : PySem.W.keepIn K (.ref f18) = true)
    {f19 : Addr} {od19 an19 : Option Addr} {sl19 : Array (Option Value)} {oc19 kV19 dc19 pm19 cd19 ct19 : Value}
    (a19 : PySem.W.nsIn K mainGlobals "_law_wholes" = some (some (.ref f19))) (l19 : K.lookup f19 = some ⟨oc19, od19, .func (PySem.W.fnOf "_law_wholes" "_law_wholes" (defArgs s_wholesD) (defBody s_wholesD) (defScope s_wholesD) .none kV19 dc19 pm19 an19 cd19 ct19), sl19⟩) (c19 : PySem.W.codeIn K cd19 "_law_wholes" = true) (k19 : PySem.W.keepIn K (.ref f19) = true)
    {f20 : Addr} {od20 an20 : Option Addr} {sl20 : Array (Option Value)} {oc20 kV20 dc20 pm20 cd20 ct20 : Value}
    (a20 : PySem.W.nsIn K mainGlobals "_law_told" = some (some (.ref f20))) (l20 : K.lookup f20 = some ⟨oc20, od20, .func (PySem.W.fnOf "_law_told" "_law_told" (defArgs s_toldD) (defBody s_toldD) (defScope s_toldD) .none kV20 dc20 pm20 an20 cd20 ct20), sl20⟩) (c20 : PySem.W.codeIn K cd20 "_law_told" = true) (k20 : PySem.W.keepIn K (.ref f20) = true)
    {f21 : Addr} {od21 an21 : Option Addr} {sl21 : Array (Option Value)} {oc21 kV21 dc21 pm21 cd21 ct21 : Value}
    (a21 : PySem.W.nsIn K mainGlobals "law" = some (some (.ref f21))) (l21 : K.lookup f21 = some ⟨oc21, od21, .func (PySem.W.fnOf "law" "law" (defArgs s_law19) (defBody s_law19) (defScope s_law19) .none kV21 dc21 pm21 an21 cd21 ct21), sl21⟩) (c21 : PySem.W.codeIn K cd21 "law" = true) (k21 : PySem.W.keepIn K (.ref f21) = true)
    (z0 : PySem.W.nsIn K mainGlobals "len" = some none)
    (z1 : PySem.W.nsIn K mainGlobals "sorted" = some none)
    (z2 : PySem.W.nsIn K mainGlobals "list" = some none)
    (z3 : PySem.W.nsIn K mainGlobals "tuple" = some none)
    (z4 : PySem.W.nsIn K mainGlobals "all" = some none)
    (z5 : PySem.W.nsIn K mainGlobals "any" = some none)
    (z6 : PySem.W.nsIn K mainGlobals "sum" = some none)
    (z7 : PySem.W.nsIn K mainGlobals "min" = some none)
    (z8 : PySem.W.nsIn K mainGlobals "max" = some none)
    (z9 : PySem.W.nsIn K mainGlobals "abs" = some none)
    (z10 : PySem.W.nsIn K mainGlobals "int" = some none)
    (z11 : PySem.W.nsIn K mainGlobals "isinstance" = some none)
    (z12 : PySem.W.nsIn K mainGlobals "range" = some none)
    (z13 : PySem.W.nsIn K mainGlobals "enumerate" = some none)
    (z14 : PySem.W.nsIn K mainGlobals "zip" = some none)
    (z15 : PySem.W.nsIn K mainGlobals "bool" = some none)
    (z16 : PySem.W.nsIn K mainGlobals "str" = some none)
    (z17 : PySem.W.nsIn K mainGlobals "dict" = some none)
    (z18 : PySem.W.nsIn K mainGlobals "set" = some none)
    : ∃ fd : FuncData, (∀ (s : Shared) (v : Value), BindsTo s fd ⟨[v], []⟩ [("script", v)]) ∧ ∀ base : Heap, K.In base → base.Ns mainGlobals mg → FnOk l.prog w K mg base (L2.CX l.prog w) 6 fa fd ["script"] (spEnd K F_law19) := by
  have e := hfa.symm.trans (PySem.W.mg_of X G a21)
  cases e
  have blt : ∀ x ∈ bltNames, mg x = none := by
    intro x hx
    simp only [bltNames, List.mem_cons, List.not_mem_nil, or_false] at hx
    rcases hx with rfl | rfl | rfl | rfl | rfl | rfl | rfl | rfl | rfl | rfl | rfl | rfl | rfl | rfl | rfl | rfl | rfl | rfl | rfl
    · exact PySem.W.mg_none_of X G z0
    · exact PySem.W.mg_none_of X G z1
    · exact PySem.W.mg_none_of X G z2
    · exact PySem.W.mg_none_of X G z3
    · exact PySem.W.mg_none_of X G z4
    · exact PySem.W.mg_none_of X G z5
    · exact PySem.W.mg_none_of X G z6
    · exact PySem.W.mg_none_of X G z7
    · exact PySem.W.mg_none_of X G z8
    · exact PySem.W.mg_none_of X G z9
    · exact PySem.W.mg_none_of X G z10
    · exact PySem.W.mg_none_of X G z11
    · exact PySem.W.mg_none_of X G z12
    · exact PySem.W.mg_none_of X G z13
    · exact PySem.W.mg_none_of X G z14
    · exact PySem.W.mg_none_of X G z15
    · exact PySem.W.mg_none_of X G z16
    · exact PySem.W.mg_none_of X G z17
    · exact PySem.W.mg_none_of X G z18
  have F0 := fun_mk (st := s_turned_web) l0 c0 k0
  have b0 := F0.binds (ps := d_turned_web.ps) fun _ _ _ _ _ _ us hl => match us, hl with | [_], _ => rfl
  have F1 := fun_mk (st := s_steps_of) l1 c1 k1
  have b1 := F1.binds (ps := d_steps_of.ps) fun _ _ _ _ _ _ us hl => match us, hl with | [_], _ => rfl
  have F2 := fun_mk (st := s_can_go) l2 c2 k2
  have b2 := F2.binds (ps := d_can_go.ps) fun _ _ _ _ _ _ us hl => match us, hl with | [_, _, _, _, _], _ => rfl
  have F3 := fun_mk (st := s_is_sooner) l3 c3 k3
  have b3 := F3.binds (ps := d_is_sooner.ps) fun _ _ _ _ _ _ us hl => match us, hl with | [_, _, _], _ => rfl
  have F4 := fun_mk (st := s_soonest_tree) l4 c4 k4
  have b4 := F4.binds (ps := d_soonest_tree.ps) fun _ _ _ _ _ _ us hl => match us, hl with | [_, _, _, _], _ => rfl
  have F5 := fun_mk (st := s_soonest_from) l5 c5 k5
  have b5 := F5.binds (ps := d_soonest_from.ps) fun _ _ _ _ _ _ us hl => match us, hl with | [_, _, _, _], _ => rfl
  have F6 := fun_mk (st := s_turned_moment) l6 c6 k6
  have b6 := F6.binds (ps := d_turned_moment.ps) fun _ _ _ _ _ _ us hl => match us, hl with | [_], _ => rfl
  have F7 := fun_mk (st := s_turned_list) l7 c7 k7
  have b7 := F7.binds (ps := d_turned_list.ps) fun _ _ _ _ _ _ us hl => match us, hl with | [_], _ => rfl
  have F8 := fun_mk (st := s_latest_to) l8 c8 k8
  have b8 := F8.binds (ps := d_latest_to.ps) fun _ _ _ _ _ _ us hl => match us, hl with | [_, _, _, _], _ => rfl
  have F9 := fun_mk (st := s_poolB) l9 c9 k9
  have b9 := F9.binds (ps := d_poolB.ps) fun _ _ _ _ _ _ us hl => match us, hl with | [_], _ => rfl
  have F10 := fun_mk (st := s_nextB) l10 c10 k10
  have b10 := F10.binds (ps := d_nextB.ps) fun _ _ _ _ _ _ us hl => match us, hl with | [_, _], _ => rfl
  have F11 := fun_mk (st := s_wideD) l11 c11 k11
  have b11 := F11.binds (ps := d_wideD.ps) fun _ _ _ _ _ _ us hl => match us, hl with | [_, _], _ => rfl
  have F12 := fun_mk (st := s_momentD) l12 c12 k12
  have b12 := F12.binds (ps := d_momentD.ps) fun _ _ _ _ _ _ us hl => match us, hl with | [_, _], _ => rfl
  have F13 := fun_mk (st := s_webD) l13 c13 k13
  have b13 := F13.binds (ps := d_webD.ps) fun _ _ _ _ _ _ us hl => match us, hl with | [_], _ => rfl
  have F14 := fun_mk (st := s_restD) l14 c14 k14
  have b14 := F14.binds (ps := d_restD.ps) fun _ _ _ _ _ _ us hl => match us, hl with | [_], _ => rfl
  have F15 := fun_mk (st := s_tillD) l15 c15 k15
  have b15 := F15.binds (ps := d_tillD.ps) fun _ _ _ _ _ _ us hl => match us, hl with | [_, _], _ => rfl
  have F16 := fun_mk (st := s_foldedD) l16 c16 k16
  have b16 := F16.binds (ps := d_foldedD.ps) fun _ _ _ _ _ _ us hl => match us, hl with | [_, _], _ => rfl
  have F17 := fun_mk (st := s_stepsD) l17 c17 k17
  have b17 := F17.binds (ps := d_stepsD.ps) fun _ _ _ _ _ _ us hl => match us, hl with | [_], _ => rfl
  have F18 := fun_mk (st := s_latestD) l18 c18 k18
  have b18 := F18.binds (ps := d_latestD.ps) fun _ _ _ _ _ _ us hl => match us, hl with | [_, _, _, _], _ => rfl
  have F19 := fun_mk (st := s_wholesD) l19 c19 k19
  have b19 := F19.binds (ps := d_wholesD.ps) fun _ _ _ _ _ _ us hl => match us, hl with | [_], _ => rfl
  have F20 := fun_mk (st := s_toldD) l20 c20 k20
  have b20 := F20.binds (ps := d_toldD.ps) fun _ _ _ _ _ _ us hl => match us, hl with | [_, _, _, _], _ => rfl
  have F21 := fun_mk (st := s_law19) l21 c21 k21
  have b21 := F21.binds (ps := d_law19.ps) fun _ _ _ _ _ _ us hl => match us, hl with | [_], _ => rfl
  refine ⟨PySem.W.fnOf "law" "law" (defArgs s_law19) (defBody s_law19) (defScope s_law19) .none kV21 dc21 pm21 an21 cd21 ct21, fun s v => .of_eq rfl, fun base _ _ => ?_⟩
  have h_turned_web : Has l.prog w K mg base F_turned_web := has_mk F0 (fn := F_turned_web) (f := d_turned_web) (T := T_turned_web) (CS := c_turned_web) (k := 0) (PySem.W.mg_of X G a0) k0 b0 rfl rfl rfl sc_turned_web ck_turned_web v_turned_web (tab_nil) rfl blt (cst_nil rfl)
  have h_steps_of : Has l.prog w K mg base F_steps_of := has_mk F1 (fn := F_steps_of) (f := d_steps_of) (T := T_steps_of) (CS := c_steps_of) (k := 0) (PySem.W.mg_of X G a1) k1 b1 rfl rfl rfl sc_steps_of ck_steps_of v_steps_of (tab_nil) rfl blt (cst_nil rfl)
  have h_can_go : Has l.prog w K mg base F_can_go := has_mk F2 (fn := F_can_go) (f := d_can_go) (T := T_can_go) (CS := c_can_go) (k := 0) (PySem.W.mg_of X G a2) k2 b2 rfl rfl rfl sc_can_go ck_can_go v_can_go (tab_nil) rfl blt (cst_nil rfl)
  have h_is_sooner : Has l.prog w K mg base F_is_sooner := has_mk F3 (fn := F_is_sooner) (f := d_is_sooner) (T := T_is_sooner) (CS := c_is_sooner) (k := 0) (PySem.W.mg_of X G a3) k3 b3 rfl rfl rfl sc_is_sooner ck_is_sooner v_is_sooner (tab_nil) rfl blt (cst_nil rfl)
  have h_soonest_tree : Has l.prog w K mg base F_soonest_tree := has_mk F4 (fn := F_soonest_tree) (f := d_soonest_tree) (T := T_soonest_tree) (CS := c_soonest_tree) (k := 1) (PySem.W.mg_of X G a4) k4 b4 rfl rfl rfl sc_soonest_tree ck_soonest_tree v_soonest_tree (tab_cons (by decide) h_steps_of (tab_cons (by decide) h_is_sooner (tab_cons (by decide) h_can_go (tab_nil)))) rfl blt (cst_nil rfl)
  have h_soonest_from : Has l.prog w K mg base F_soonest_from := has_mk F5 (fn := F_soonest_from) (f := d_soonest_from) (T := T_soonest_from) (CS := c_soonest_from) (k := 2) (PySem.W.mg_of X G a5) k5 b5 rfl rfl rfl sc_soonest_from ck_soonest_from v_soonest_from (tab_cons (by decide) h_soonest_tree (tab_nil)) rfl blt (cst_nil rfl)
  have h_turned_moment : Has l.prog w K mg base F_turned_moment := has_mk F6 (fn := F_turned_moment) (f := d_turned_moment) (T := T_turned_moment) (CS := c_turned_moment) (k := 0) (PySem.W.mg_of X G a6) k6 b6 rfl rfl rfl sc_turned_moment ck_turned_moment v_turned_moment (tab_nil) rfl blt (cst_nil rfl)
  have h_turned_list : Has l.prog w K mg base F_turned_list := has_mk F7 (fn := F_turned_list) (f := d_turned_list) (T := T_turned_list) (CS := c_turned_list) (k := 1) (PySem.W.mg_of X G a7) k7 b7 rfl rfl rfl sc_turned_list ck_turned_list v_turned_list (tab_cons (by decide) h_turned_moment (tab_nil)) rfl blt (cst_nil rfl)
  have h_latest_to : Has l.prog w K mg base F_latest_to := has_mk F8 (fn := F_latest_to) (f := d_latest_to) (T := T_latest_to) (CS := c_latest_to) (k := 3) (PySem.W.mg_of X G a8) k8 b8 rfl rfl rfl sc_latest_to ck_latest_to v_latest_to (tab_cons (by decide) h_turned_list (tab_cons (by decide) h_soonest_from (tab_cons (by decide) h_turned_web (tab_nil)))) rfl blt (cst_nil rfl)
  have h_poolB : Has l.prog w K mg base F_poolB := has_mk F9 (fn := F_poolB) (f := d_poolB) (T := T_poolB) (CS := c_poolB) (k := 0) (PySem.W.mg_of X G a9) k9 b9 rfl rfl rfl sc_poolB ck_poolB v_poolB (tab_nil) rfl blt (cst_nil rfl)
  have h_nextB : Has l.prog w K mg base F_nextB := has_mk F10 (fn := F_nextB) (f := d_nextB) (T := T_nextB) (CS := c_nextB) (k := 0) (PySem.W.mg_of X G a10) k10 b10 rfl rfl rfl sc_nextB ck_nextB v_nextB (tab_nil) rfl blt (cst_nil rfl)
  have h_wideD : Has l.prog w K mg base F_wideD := has_mk F11 (fn := F_wideD) (f := d_wideD) (T := T_wideD) (CS := c_wideD) (k := 1) (PySem.W.mg_of X G a11) k11 b11 rfl rfl rfl sc_wideD ck_wideD v_wideD (tab_cons (by decide) h_nextB (tab_nil)) rfl blt (cst_nil rfl)
  have h_momentD : Has l.prog w K mg base F_momentD := has_mk F12 (fn := F_momentD) (f := d_momentD) (T := T_momentD) (CS := c_momentD) (k := 2) (PySem.W.mg_of X G a12) k12 b12 rfl rfl rfl sc_momentD ck_momentD v_momentD (tab_cons (by decide) h_nextB (tab_cons (by decide) h_wideD (tab_nil))) rfl blt (cst_nil rfl)
  have h_webD : Has l.prog w K mg base F_webD := has_mk F13 (fn := F_webD) (f := d_webD) (T := T_webD) (CS := c_webD) (k := 3) (PySem.W.mg_of X G a13) k13 b13 rfl rfl rfl sc_webD ck_webD v_webD (tab_cons (by decide) h_nextB (tab_cons (by decide) h_momentD (tab_nil))) rfl blt (cst_nil rfl)
  have h_restD : Has l.prog w K mg base F_restD := has_mk F14 (fn := F_restD) (f := d_restD) (T := T_restD) (CS := c_restD) (k := 1) (PySem.W.mg_of X G a14) k14 b14 rfl rfl rfl sc_restD ck_restD v_restD (tab_cons (by decide) h_nextB (tab_nil)) rfl blt (cst_nil rfl)
  have h_tillD : Has l.prog w K mg base F_tillD := has_mk F15 (fn := F_tillD) (f := d_tillD) (T := T_tillD) (CS := c_tillD) (k := 2) (PySem.W.mg_of X G a15) k15 b15 rfl rfl rfl sc_tillD ck_tillD v_tillD (tab_cons (by decide) h_nextB (tab_cons (by decide) h_wideD (tab_nil))) rfl blt (cst_nil rfl)
  have h_foldedD : Has l.prog w K mg base F_foldedD := has_mk F16 (fn := F_foldedD) (f := d_foldedD) (T := T_foldedD) (CS := c_foldedD) (k := 0) (PySem.W.mg_of X G a16) k16 b16 rfl rfl rfl sc_foldedD ck_foldedD v_foldedD (tab_nil) rfl blt (cst_nil rfl)
  have h_stepsD : Has l.prog w K mg base F_stepsD := has_mk F17 (fn := F_stepsD) (f := d_stepsD) (T := T_stepsD) (CS := c_stepsD) (k := 0) (PySem.W.mg_of X G a17) k17 b17 rfl rfl rfl sc_stepsD ck_stepsD v_stepsD (tab_nil) rfl blt (cst_nil rfl)
  have h_latestD : Has l.prog w K mg base F_latestD := has_mk F18 (fn := F_latestD) (f := d_latestD) (T := T_latestD) (CS := c_latestD) (k := 1) (PySem.W.mg_of X G a18) k18 b18 rfl rfl rfl sc_latestD ck_latestD v_latestD (tab_cons (by decide) h_stepsD (tab_nil)) rfl blt (cst_nil rfl)
  have h_wholesD : Has l.prog w K mg base F_wholesD := has_mk F19 (fn := F_wholesD) (f := d_wholesD) (T := T_wholesD) (CS := c_wholesD) (k := 0) (PySem.W.mg_of X G a19) k19 b19 rfl rfl rfl sc_wholesD ck_wholesD v_wholesD (tab_nil) rfl blt (cst_nil rfl)
  have h_toldD : Has l.prog w K mg base F_toldD := has_mk F20 (fn := F_toldD) (f := d_toldD) (T := T_toldD) (CS := c_toldD) (k := 4) (PySem.W.mg_of X G a20) k20 b20 rfl rfl rfl sc_toldD ck_toldD v_toldD (tab_cons (by decide) h_latestD (tab_cons (by decide) h_latest_to (tab_cons (by decide) h_wholesD (tab_nil)))) rfl blt (cst_nil rfl)
  refine FnOk.imp ?_ fun vs H Q E z => z mg
  exact fn_ok F21 (f := d_law19) (fn := F_law19) (T := T_law19) (CS := c_law19) (k := 5) ⟨rfl, rfl, sc_law19, ck_law19, fun ds Q X _ => v_law19 ds Q X⟩ (tab_cons (by decide) h_foldedD (tab_cons (by decide) h_poolB (tab_cons (by decide) h_webD (tab_cons (by decide) h_restD (tab_cons (by decide) h_tillD (tab_cons (by decide) h_toldD (tab_nil))))))) (fun g hg => List.all_eq_true.mp (rfl : c_law19.fs.all (fun g => (T_law19.find g).isSome) = true) g (by simpa using hg)) blt (cst_nil rfl)
end Ek19
end Wm
open PySem PySem.W PyProof.Rows
set_option maxHeartbeats 0 in
theorem PySem.Challenge.cw_whenmeet_k19_latest_leavings_told_holds : PySem.Challenge.rw_whenmeet_k19_latest_leavings_told.Holds := by
  w_on; o_law; k_head; (case hw => w_witness2)
  k_fill
  refine Wm.walk_end (l := PySem.Challenge.rw_whenmeet_k19_latest_leavings_told) (k := 6) Wm.F_law19 rfl (fun ns hn => ⟨ns, rfl, hn, rfl⟩) rfl rfl ⟨rfl, by decide, by decide⟩ (fun w h Y => PySem.W.kIn_of Y) ?F
  case F =>
    intro w mg fa h KX G hmg
    refine' Wm.Ek19.all_mk KX G hmg ?a0 ?l0 ?c0 ?k0 ?a1 ?l1 ?c1 ?k1 ?a2 ?l2 ?c2 ?k2 ?a3 ?l3 ?c3 ?k3 ?a4 ?l4 ?c4 ?k4 ?a5 ?l5 ?c5 ?k5 ?a6 ?l6 ?c6 ?k6 ?a7 ?l7 ?c7 ?k7 ?a8 ?l8 ?c8 ?k8 ?a9 ?l9 ?c9 ?k9 ?a10 ?l10 ?c10 ?k10 ?a11 ?l11 ?c11 ?k11 ?a12 ?l12 ?c12 ?k12 ?a13 ?l13 ?c13 ?k13 ?a14 ?l14 ?c14 ?k14 ?a15 ?l15 ?c15 ?k15 ?a16 ?l16 ?c16 ?k16 ?a17 ?l17 ?c17 ?k17 ?a18 ?l18 ?c18 ?k18 ?a19 ?l19 ?c19 ?k19 ?a20 ?l20 ?c20 ?k20 ?a21 ?l21 ?c21 ?k21 ?z0 ?z1 ?z2 ?z3 ?z4 ?z5 ?z6 ?z7 ?z8 ?z9 ?z10 ?z11 ?z12 ?z13 ?z14 ?z15 ?z16 ?z17 ?z18
    (case a0 => k_is); (case l0 => k_is); (case c0 => k_is); (case k0 => k_is); (case a1 => k_is); (case l1 => k_is); (case c1 => k_is); (case k1 => k_is); (case a2 => k_is); (case l2 => k_is); (case c2 => k_is); (case k2 => k_is); (case a3 => k_is); (case l3 => k_is); (case c3 => k_is); (case k3 => k_is); (case a4 => k_is); (case l4 => k_is); (case c4 => k_is); (case k4 => k_is); (case a5 => k_is); (case l5 => k_is); (case c5 => k_is); (case k5 => k_is); (case a6 => k_is); (case l6 => k_is); (case c6 => k_is); (case k6 => k_is); (case a7 => k_is); (case l7 => k_is); (case c7 => k_is); (case k7 => k_is); (case a8 => k_is); (case l8 => k_is); (case c8 => k_is); (case k8 => k_is); (case a9 => k_is); (case l9 => k_is); (case c9 => k_is); (case k9 => k_is); (case a10 => k_is); (case l10 => k_is); (case c10 => k_is); (case k10 => k_is); (case a11 => k_is); (case l11 => k_is); (case c11 => k_is); (case k11 => k_is); (case a12 => k_is); (case l12 => k_is); (case c12 => k_is); (case k12 => k_is); (case a13 => k_is); (case l13 => k_is); (case c13 => k_is); (case k13 => k_is); (case a14 => k_is); (case l14 => k_is); (case c14 => k_is); (case k14 => k_is); (case a15 => k_is); (case l15 => k_is); (case c15 => k_is); (case k15 => k_is); (case a16 => k_is); (case l16 => k_is); (case c16 => k_is); (case k16 => k_is); (case a17 => k_is); (case l17 => k_is); (case c17 => k_is); (case k17 => k_is); (case a18 => k_is); (case l18 => k_is); (case c18 => k_is); (case k18 => k_is); (case a19 => k_is); (case l19 => k_is); (case c19 => k_is); (case k19 => k_is); (case a20 => k_is); (case l20 => k_is); (case c20 => k_is); (case k20 => k_is); (case a21 => k_is); (case l21 => k_is); (case c21 => k_is); (case k21 => k_is); (case z0 => k_is); (case z1 => k_is); (case z2 => k_is); (case z3 => k_is); (case z4 => k_is); (case z5 => k_is); (case z6 => k_is); (case z7 => k_is); (case z8 => k_is); (case z9 => k_is); (case z10 => k_is); (case z11 => k_is); (case z12 => k_is); (case z13 => k_is); (case z14 => k_is); (case z15 => k_is); (case z16 => k_is); (case z17 => k_is); (case z18 => k_is)
